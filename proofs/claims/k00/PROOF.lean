import PyProof.Rows.All
import Wide.All
import OpenK.AllK
import Wide.FinOn
import HandS.ForMost
import HandS.Sort
import HandS.SortInts
import HandS.More
import HandS.Flow
import HandS.Deep
import HandS.Codes
import HandS.IsInst
import HandS.Rev
import HandS.RevTup
import HandS.Gcd
import HandS.Wide
import HandS.WideBits
import KE.KDictList
import KE.KRevIter
import HandS.Defaults
import HandS.TryOnly
import HandS.ExcOwn
import HandS.ExcIs
import HandS.WordsExc
import PyProof.Rows.ChunkEnd
import PySem.Challenge.RW_solvedpapers_k00_continued_fractions
section
set_option Elab.async false
set_option linter.all false
set_option maxRecDepth 100000
set_option maxHeartbeats 4000000
namespace Kf
open PySem PySem.Spec PyProof.Rows L2
/-! ### a def of the module's top, its promise -/
structure Df (K : PySem.W.Frag) (mg : Str → Option Value) (x : Str) (st : Stmt) (ps : List Str) : Prop where
  ex : ∃ f fd, Fun K x x st f fd ∧ Binds K fd ps [] ∧ mg x = some (.ref f)
structure Pr (P : Program) (w : World) (K : PySem.W.Frag) (mg : Str → Option Value) (base : Heap) (x : Str) (k : Nat) (ps : List Str) (sp : Sp) : Prop where
  ex : ∃ f fd, FnOk P w K mg base CX0 k f fd ps sp ∧ Binds K fd ps [] ∧ PySem.W.keepIn K (.ref f) = true ∧ mg x = some (.ref f) ∧ ∃ oc od osl, K.lookup f = some ⟨oc, od, .func fd, osl⟩
section
variable {P : Program} {w : World} {K : PySem.W.Frag} {mg : Str → Option Value} {base : Heap} {x : Str} {st : Stmt} {ps N : List Str} {k j : Nat} {sp sp' : Sp}
theorem Df.ok (D : Df K mg x st ps) (S : FnScope N ps (defScope st)) (len : ∀ vs H Q E, sp vs H Q E → vs.length = ps.length)
    (hbody : ∀ (f : Addr) (cdv : Value) (A : Around) (outer : List Env) (s : Shared) (H : Hp) (vs : List V) (Q : VK) (E : XK), Room k (A.deeper (envOfC x (defScope st) s.heap.objs.size f cdv)) → sp vs H Q E →
      ∃ t, PSs (cxOf CX0 P w K mg base N x (defScope st) f cdv A outer s H E).nox (defBody st) t ∧ t { nx := fun _ H' => Q .non H', rt := Q } (start N vs) H) : Pr P w K mg base x (k + 1) ps sp := by
  obtain ⟨f, fd, F, b, g⟩ := D.ex
  obtain ⟨oc, od, kV, doc, pm, an, cdv, ct, osl, e, lk, hcd⟩ := F.ex
  exact ⟨f, fd, F.ok S len (hbody f), b, F.kp, g, oc, od, osl, lk⟩
theorem Pr.at {f : Addr} {fd : FuncData} {oc : Value} {od : Option Addr} {osl : Array (Option Value)} (p : Pr P w K mg base x k ps sp) (g : mg x = some (.ref f)) (l : K.lookup f = some ⟨oc, od, .func fd, osl⟩) : FnOk P w K mg base CX0 k f fd ps sp := by
  obtain ⟨f', fd', F, _, _, g', oc', od', osl', l'⟩ := p.ex
  rw [g] at g'
  cases g'
  rw [l] at l'
  cases l'
  exact F
theorem Df.mk' {f : Addr} {oc : Value} {od an : Option Addr} {osl : Array (Option Value)} {kV doc pm cdv ct : Value} (l : K.lookup f = some ⟨oc, od, .func (PySem.W.fnOf x x (defArgs st) (defBody st) (defScope st) .none kV doc pm an cdv ct), osl⟩)
    (c : PySem.W.codeIn K cdv x = true) (k : PySem.W.keepIn K (.ref f) = true) (b : ∀ F : Fun K x x st f (PySem.W.fnOf x x (defArgs st) (defBody st) (defScope st) .none kV doc pm an cdv ct), Binds K (PySem.W.fnOf x x (defArgs st) (defBody st) (defScope st) .none kV doc pm an cdv ct) ps [])
    (g : mg x = some (.ref f)) : Df K mg x st ps := ⟨f, _, fun_mk l c k, b (fun_mk l c k), g⟩
theorem Pr.mono (p : Pr P w K mg base x k ps sp) (h : k ≤ j) : Pr P w K mg base x j ps sp := by
  obtain ⟨f, fd, F, r⟩ := p.ex
  exact ⟨f, fd, F.mono h, r⟩
theorem Pr.imp (p : Pr P w K mg base x k ps sp) (h : ∀ vs H Q E, sp' vs H Q E → sp vs H Q E) : Pr P w K mg base x k ps sp' := by
  obtain ⟨f, fd, F, r⟩ := p.ex
  exact ⟨f, fd, F.imp h, r⟩
end
/-! ### calls -/
section
variable {X : Cx} {x : Str} {k j : Nat} {ps : List Str} {sp : Sp} {e : Expr} {es : List Expr} {t : TA} {p pos : Pos}
theorem pe_callP (pr : Pr X.prog X.w X.K X.mg X.base x k ps sp) (hr : Room j X.A) (ha : PA X (e :: es) t) (hk : k ≤ j := by decide) (hg : Gl X x := by rfl) (hd : (x == ("__debug__" : Str)) = false := by decide)
    (he : starEach (e :: es) X.env = (false, eval e X.env) :: starEach es X.env := by rfl) (hpl : (backTo pos (starEach es X.env)).any (·.1) = false := by rfl) : PE X (.Call (.Name x p) (e :: es) [] pos) (tCall sp [] E0 t) := by
  obtain ⟨f, fd, F, b, kp, g, _⟩ := pr.ex
  exact pe_call F (hr.mono hk) hg g kp b .nil pass0 ha hd he hpl
end
/-! ### the rules with the written part by its name -/
section
variable {X : Cx} {K : PySem.W.Frag}
theorem ix_listK (e : X.K = K) : IxR X (rIxL K) := by subst e; exact ix_list
theorem ix_tupK (e : X.K = K) : IxR X (rIxT K) := by subst e; exact ix_tup
theorem ix_seqK (e : X.K = K) : IxR X (rIx K) := by subst e; exact ix_seq
theorem sl_listK (e : X.K = K) : SlR X (rSlL K) := by subst e; exact sl_list
theorem sl_tupK (e : X.K = K) : SlR X (rSlT K) := by subst e; exact sl_tup
theorem call_lenK (e : X.K = K) : CallR X (.builtin "len") (fun xs H Q => ∃ x n, xs = [x] ∧ LenV K x H n ∧ Q (.int (n : Nat)) H) := by subst e; exact call_len
theorem op_in_seqK (e : X.K = K) : OpR X (compareOp .In) (rIn K false) := by subst e; exact op_in_seq
theorem op_notIn_seqK (e : X.K = K) : OpR X (compareOp .NotIn) (rIn K true) := by subst e; exact op_notIn_seq
theorem op_inDK (e : X.K = K) (hu : X.A.units + 65 < cLine) : OpR X (compareOp .In) (rInD K) := by subst e; exact op_inD hu
theorem op_notInDK (e : X.K = K) (hu : X.A.units + 65 < cLine) : OpR X (compareOp .NotIn) (rNotInD K) := by subst e; exact op_notInD hu
theorem op_eqDK (e : X.K = K) (hu : X.A.units + 64 < cLine) : OpR X (compareOp .Eq) (rEqD K) := by subst e; exact op_eqD hu
theorem op_neDK (e : X.K = K) (hu : X.A.units + 64 < cLine) : OpR X (compareOp .NotEq) (rNeD K) := by subst e; exact op_neD hu
theorem op_catTK (e : X.K = K) : OpR X (binaryOp .Add) (rCatT K) := by subst e; exact op_catT
theorem call_isiK1 (e : X.K = K) : CallR X (.builtin "isinstance") (rIsi K) := by subst e; exact call_isi
theorem cr_sortedPK (e : X.K = K) : CallR X (.builtin "sorted") (rSortedP K) := by subst e; exact cr_sortedP
theorem cr_sortedIK (e : X.K = K) : CallR X (.builtin "sorted") (rSortedI K) := by subst e; exact cr_sortedI
theorem call_list_ofK (e : X.K = K) : CallR X (.type "list") (fun xs H Q => ∃ p ys, xs = [.ref p] ∧ (SqL K H p ys ∨ SqT K H p ys) ∧ ∀ l, H l = none → Q (.ref l) (upd H l (.lst ys))) := by subst e; exact call_list_of
theorem call_tuple_ofK (e : X.K = K) : CallR X (.type "tuple") (fun xs H Q => ∃ p ys, xs = [.ref p] ∧ ((SqL K H p ys ∧ ∀ l, H l = none → Q (.ref l) (upd H l (.tup ys))) ∨ (SqT K H p ys ∧ Q (.ref p) H))) := by subst e; exact call_tuple_of
theorem pi_listK {tg l : Expr} {tl : TE} (e : X.K = K) (hl : PE X l tl) : PI X tg l (iList K tl) := by subst e; exact pi_list hl
theorem pi_tupK {tg l : Expr} {tl : TE} (e : X.K = K) (hl : PE X l tl) : PI X tg l (iTup K tl) := by subst e; exact pi_tup hl
/-- a list or a tuple is walked -/
def iSeq (K : PySem.W.Frag) (tl : TE) : TI := fun σ H R => tl σ H fun x H1 => ∃ a, x = .ref a ∧ (((∃ xs, SqL K H1 a xs) ∧ R (Itl K a) H1) ∨ ((∃ xs, SqT K H1 a xs) ∧ R (Itt K a) H1))
theorem pi_seqK {tg l : Expr} {tl : TE} (e : X.K = K) (hl : PE X l tl) : PI X tg l (iSeq K tl) := by
  subst e
  refine ⟨fun pins s σ H R I h => ?_⟩
  refine thn (hl.run pins s σ H _ I h) fun v s1 ⟨x, H1, I1, r1, q1⟩ => ?_
  obtain ⟨a, e, q⟩ := q1
  subst e
  cases r1
  rcases q with ⟨⟨xs, hq⟩, q⟩ | ⟨⟨xs, hq⟩, q⟩
  · obtain ⟨its, rv, p, hz⟩ := I1.list hq
    refine wpAny_pyIter_list p.isList ?_
    refine ⟨s1.heap.objs.size, [s1.heap.objs.size], _, _, H1, rfl, I1.kept (t' := s1.toks) fun b o e => Heap.get?_push_of_some _ e, turn_list a _, ⟨_, Heap.get?_push_size _ rfl, rfl, rfl⟩, fun b hb => ?_, q⟩
    have e : b = s1.heap.objs.size := by simpa using hb
    subst e
    exact I1.fpOk (Nat.le_refl _) (I1.hok.fresh (Nat.le_refl _))
  · obtain ⟨its, rv, p, hz⟩ := I1.tuple hq
    refine wpAny_pyIter_tuple (show s1.heap.IsTuple a its.toArray from p) ?_
    refine ⟨s1.heap.objs.size, [s1.heap.objs.size], _, _, H1, rfl, I1.kept (t' := s1.toks) fun b o e => Heap.get?_push_of_some _ e, turn_tuple a _, ⟨_, Heap.get?_push_size _ rfl, rfl, rfl⟩, fun b hb => ?_, q⟩
    have e : b = s1.heap.objs.size := by simpa using hb
    subst e
    exact I1.fpOk (Nat.le_refl _) (I1.hok.fresh (Nat.le_refl _))
theorem pe_bmK {o e : Expr} {es : List Expr} {name : Str} {id T : String} {r : V → List V → Hp → VK → Prop} {to : TE} {t : TA} {apos cpos : Pos} (ek : X.K = K) (pa : PlainAttrs T) (slot : Slot T name id) (hty : typeOf (.builtin id) = pure (.type "method_descriptor")) (hm : MtR X id r) (ho : PE X o to) (ha : PA X (e :: es) t)
    (hbase : attributeBase o name X.env (eval o X.env) = eval o X.env := by rfl)
    (hfew : ((backTo cpos (starEach (e :: es) X.env)).all (fun x => !x.1) && (backToKw cpos (keywordEach [] X.env)).all (fun x => x.1.isSome)
      && decide ((e :: es).length + ([] : List Keyword).length + (if ([] : List Keyword).isEmpty then 0 else 1) < 30)) = true := by rfl)
    (hline : (apos.endLine == cpos.line) = true := by rfl) (hs : starEach (e :: es) X.env = (false, eval e X.env) :: starEach es X.env := by rfl) (hplain : (backTo cpos (starEach es X.env)).any (·.1) = false := by rfl) :
    PE X (.Call (.Attribute o name apos) (e :: es) [] cpos) (tBM K T r to t) := by subst ek; exact pe_bm pa slot hty hm ho ha hbase hfew hline hs hplain
end
/-! ### heaps -/
theorem upd_old {H : Hp} {a p : Addr} {o u : HO} (n : H p = none) (h : H a = some o) : upd H p u a = some o := by
  rw [upd_ne (ne_of_none h n)]; exact h
theorem upd_oth {H : Hp} {a p : Addr} {o u : HO} (n : a ≠ p) (h : H a = some o) : upd H p u a = some o := by
  rw [upd_ne n]; exact h
theorem Same.new {H : Hp} {p : Addr} {o : HO} (n : H p = none) : Same H (upd H p o) := fun _ _ e => upd_old n e
theorem _root_.L2.Same.at {H H' : Hp} {a : Addr} {o : HO} (e : Same H H') (h : H a = some o) : H' a = some o := e a o h
/-- a pool of numbers: [cell, count, great, spare] -/
def Pl (o : HO) : Prop := ∃ c k b s, o = .lst [.int c, .int k, .bl b, .int s]
/-- all stands as before, but that pools may have been drawn from -/
def Ext (H H' : Hp) : Prop := ∀ b o, H b = some o → (¬ Pl o → H' b = some o) ∧ (Pl o → ∃ o', Pl o' ∧ H' b = some o')
theorem Ext.refl {H : Hp} : Ext H H := fun _ _ e => ⟨fun _ => e, fun h => ⟨_, h, e⟩⟩
theorem Ext.of {H H' : Hp} (s : Same H H') : Ext H H' := fun b o e => ⟨fun _ => s b o e, fun h => ⟨_, h, s b o e⟩⟩
theorem Ext.trans {H H1 H2 : Hp} (a : Ext H H1) (b : Ext H1 H2) : Ext H H2 := fun c o e => by
  by_cases h : Pl o
  · obtain ⟨o', p, e'⟩ := (a c o e).2 h
    obtain ⟨o'', p', e''⟩ := (b c o' e').2 p
    exact ⟨fun n => absurd h n, fun _ => ⟨_, p', e''⟩⟩
  · exact ⟨fun n => (b c o ((a c o e).1 n)).1 n, fun z => absurd z h⟩
theorem Ext.new {H : Hp} {p : Addr} {o : HO} (n : H p = none) : Ext H (upd H p o) := Ext.of (Same.new n)
theorem Ext.pool {H : Hp} {p : Addr} {o o' : HO} (h : H p = some o) (q : Pl o) (q' : Pl o') : Ext H (upd H p o') := fun b u e => by
  by_cases hb : b = p
  · subst hb
    rw [h] at e; cases e
    exact ⟨fun n => absurd q n, fun _ => ⟨_, q', upd_same⟩⟩
  · rw [upd_ne hb]
    exact ⟨fun _ => e, fun z => ⟨_, z, e⟩⟩
theorem Ext.get {H H' : Hp} {b : Addr} {o : HO} (e : Ext H H') (h : H b = some o) (n : ¬ Pl o) : H' b = some o := (e b o h).1 n
theorem Ext.non {H H' : Hp} (e : Ext H H') {l : Addr} (h : H' l = none) : H l = none := by
  cases q : H l with
  | none => rfl
  | some o =>
    by_cases z : Pl o
    · obtain ⟨o', _, e'⟩ := (e l o q).2 z
      rw [h] at e'; cases e'
    · rw [(e l o q).1 z] at h; cases h
/-- an unlike list is no pool -/
def isPl : HO → Bool
  | .lst [.int _, .int _, .bl _, .int _] => true
  | _ => false
theorem pl_iff {o : HO} : Pl o ↔ isPl o = true := by
  constructor
  · rintro ⟨c, k, b, s, rfl⟩; rfl
  · intro h
    unfold isPl at h
    split at h
    · exact ⟨_, _, _, _, rfl⟩
    · cases h
theorem npl {o : HO} (h : isPl o = false) : ¬ Pl o := fun z => by rw [pl_iff.mp z] at h; cases h
theorem npl_ints (ns : List Int) : ¬ Pl (.lst (ns.map V.int)) := by
  rintro ⟨c, k, b, s, e⟩
  have e := HO.lst.inj e
  match ns, e with
  | [], e => cases e
  | [_], e => cases e
  | [_, _], e => cases e
  | _ :: _ :: _ :: _, e =>
    simp only [List.map_cons, List.cons.injEq] at e
    exact absurd e.2.2.1 (by intro z; cases z)
theorem npl_refs (ns : List Addr) : ¬ Pl (.lst (ns.map V.ref)) := by
  rintro ⟨c, k, b, s, e⟩
  have e := HO.lst.inj e
  match ns, e with
  | [], e => cases e
  | _ :: _, e =>
    simp only [List.map_cons, List.cons.injEq] at e
    exact absurd e.1 (by intro z; cases z)
/-- a pool stands at v -/
def PoolAt (H : Hp) (v : V) : Prop := ∃ a c k b s, v = .ref a ∧ H a = some (.lst [.int c, .int k, .bl b, .int s])
theorem PoolAt.ext {H H' : Hp} {v : V} (h : PoolAt H v) (e : Ext H H') : PoolAt H' v := by
  obtain ⟨a, c, k, b, s, rfl, h⟩ := h
  obtain ⟨o', ⟨c', k', b', s', rfl⟩, h'⟩ := (e a _ h).2 ⟨_, _, _, _, rfl⟩
  exact ⟨a, c', k', b', s', rfl, h'⟩
/-- what is read stands -/
theorem Ext.seqL {K : PySem.W.Frag} {H H' : Hp} {a : Addr} {xs : List V} (e : Ext H H') (h : SqL K H a xs) (n : ¬ Pl (.lst xs)) : SqL K H' a xs := by
  rcases h with (h | ⟨o, h⟩) | h
  · exact .inl (.inl (e.get h n))
  · exact .inl (.inr ⟨o, e.get h (npl rfl)⟩)
  · exact .inr h
theorem Ext.seqT {K : PySem.W.Frag} {H H' : Hp} {a : Addr} {xs : List V} (e : Ext H H') (h : SqT K H a xs) : SqT K H' a xs := by
  rcases h with (h | ⟨o, h⟩) | h
  · exact .inl (.inl (e.get h (npl rfl)))
  · exact .inl (.inr ⟨o, e.get h (npl rfl)⟩)
  · exact .inr h
/-! ### lists of ints, tuples of ints -/
def LsI (K : PySem.W.Frag) (H : Hp) (v : V) (ns : List Int) : Prop := ∃ a, v = .ref a ∧ SqL K H a (ns.map V.int)
def TpI (K : PySem.W.Frag) (H : Hp) (v : V) (ns : List Int) : Prop := ∃ a, v = .ref a ∧ SqT K H a (ns.map V.int)
theorem LsI.ext {K : PySem.W.Frag} {H H' : Hp} {v : V} {ns : List Int} (h : LsI K H v ns) (e : Ext H H') : LsI K H' v ns := by
  obtain ⟨a, rfl, h⟩ := h
  exact ⟨a, rfl, e.seqL h (npl_ints ns)⟩
theorem TpI.ext {K : PySem.W.Frag} {H H' : Hp} {v : V} {ns : List Int} (h : TpI K H v ns) (e : Ext H H') : TpI K H' v ns := by
  obtain ⟨a, rfl, h⟩ := h
  exact ⟨a, rfl, e.seqT h⟩
theorem hD_of {A : Around} {k : Nat} (hr : Room k A) : A.units + 65 < cLine := by have := hr.un; omega


/-! ### one object left out; own objects -/
def del (H : Hp) (D : Addr) : Hp := fun b => if b = D then none else H b
theorem del_same {H : Hp} {D : Addr} : del H D D = none := by unfold del; rw [if_pos rfl]
theorem del_ne {H : Hp} {D b : Addr} (h : b ≠ D) : del H D b = H b := by unfold del; rw [if_neg h]
theorem del_at {H : Hp} {D b : Addr} {o : HO} (h : H b = some o) (n : b ≠ D) : del H D b = some o := by rw [del_ne n]; exact h
theorem of_del {H : Hp} {D b : Addr} {o : HO} (h : del H D b = some o) : b ≠ D ∧ H b = some o := by
  by_cases e : b = D
  · subst e; rw [del_same] at h; cases h
  · rw [del_ne e] at h; exact ⟨e, h⟩
theorem del_sub {H : Hp} {D : Addr} : Ext (del H D) H := Ext.of fun _ _ e => (of_del e).2
theorem del_upd {H : Hp} {D : Addr} {o : HO} : del (upd H D o) D = del H D := by
  funext b; unfold del
  by_cases e : b = D
  · rw [if_pos e, if_pos e]
  · rw [if_neg e, if_neg e, upd_ne e]
theorem del_new {H : Hp} {D : Addr} (h : H D = none) : del H D = H := by
  funext b; unfold del
  by_cases e : b = D
  · rw [if_pos e, e, h]
  · rw [if_neg e]
theorem Ext.del {H H' : Hp} {D : Addr} (e : Ext H H') : Ext (del H D) (del H' D) := fun b o h => by
  obtain ⟨n, h⟩ := of_del h
  rw [del_ne n]
  exact e b o h
theorem Ext.own {H0 H : Hp} {l : Addr} {o : HO} (e : Ext H0 H) (n : H0 l = none) : Ext H0 (upd H l o) := fun b u h => by
  rw [upd_ne (ne_of_none h n)]
  exact e b u h
theorem Ext.newer {H0 H : Hp} {l : Addr} {o : HO} (e : Ext H0 H) (n : H l = none) : Ext H0 (upd H l o) := e.own (e.non n)
theorem npl_nil : ¬ Pl (.lst []) := npl rfl
theorem npl_one (ns : List Int) (v : Int) : ¬ Pl (.lst (ns.map V.int ++ [.int v])) := by
  have e : ns.map V.int ++ [V.int v] = (ns ++ [v]).map V.int := by simp
  rw [e]; exact npl_ints _
/-- the comprehension's list at D behind i turns -/
def LcP (H : Hp) (D : Addr) (R : Nat → List V → Hp → Prop) (i : Nat) (H' : Hp) : Prop := ∃ acc, H' D = some (.lst acc) ∧ Ext H H' ∧ R i acc (del H' D)
theorem LcP.put {H H1 H4 : Hp} {D : Addr} {R : Nat → List V → Hp → Prop} {i : Nat} {acc : List V} {y : V} (hD : H D = none) (h1 : H1 D = some (.lst acc)) (np : ¬ Pl (.lst acc)) (e1 : Ext H H1) (e4 : Ext H1 H4) (hl : acc.length ≤ 1000)
    (r : R (i + 1) (acc ++ [y]) (del H4 D)) : ∃ acc, H4 D = some (.lst acc) ∧ acc.length < sizeLine ∧ LcP H D R (i + 1) (upd H4 D (.lst (acc ++ [y]))) :=
  ⟨acc, e4.get h1 np, small1000 hl, acc ++ [y], upd_same, (e1.trans e4).own hD, by rw [del_upd]; exact r⟩
theorem LcP.skip {H H1 H4 : Hp} {D : Addr} {R : Nat → List V → Hp → Prop} {i : Nat} {acc : List V} (h1 : H1 D = some (.lst acc)) (np : ¬ Pl (.lst acc)) (e1 : Ext H H1) (e4 : Ext H1 H4) (r : R (i + 1) acc (del H4 D)) : LcP H D R (i + 1) H4 :=
  ⟨acc, e4.get h1 np, e1.trans e4, r⟩
theorem lc_r {lo : Int} {n : Nat} {g : TG} {tt : TT} {te : TE} {vs : List Nat} {σ : L2.St} {H : Hp} {Qd : Addr → Hp → Prop} (R : Nat → List V → Hp → Prop) (h0 : R 0 [] H) (mono : ∀ i acc H1 H2, Ext H1 H2 → R i acc H1 → R i acc H2)
    (hs : ∀ i acc D H1, i < n → H D = none → H1 D = some (.lst acc) → Ext H H1 → R i acc (del H1 D) → g (.int (lo + i)) (wipe σ vs) H1 fun σ2 H2 => wipe σ2 vs = wipe σ vs ∧ tt σ2 H2 fun b H3 =>
      if b = true then te σ2 H3 fun y H4 => ∃ acc, H4 D = some (.lst acc) ∧ acc.length < sizeLine ∧ LcP H D R (i + 1) (upd H4 D (.lst (acc ++ [y]))) else LcP H D R (i + 1) H3)
    (hd : ∀ D acc H1, H D = none → H1 D = some (.lst acc) → Ext H H1 → R n acc H1 → Qd D H1) :
    ∀ D, H D = none → ∃ W : Nat → Nat → Hp → Prop, (∃ m, W 0 m (upd H D (.lst []))) ∧ ∀ i m H, W i m H →
      ((Itr lo n).stop i H ∧ Qd D H) ∨ ((Itr lo n).go i H ∧ ∃ Nx : Hp → Prop, (∀ H', Nx H' → ∃ m', m' < m ∧ W (i + 1) m' H') ∧ ∀ x H', (Itr lo n).yld i H x H' → g x (wipe σ vs) H' fun σ2 H2 => wipe σ2 vs = wipe σ vs ∧ tt σ2 H2 fun b H3 =>
        if b = true then te σ2 H3 fun y H4 => ∃ acc, H4 D = some (.lst acc) ∧ acc.length < sizeLine ∧ Nx (upd H4 D (.lst (acc ++ [y]))) else Nx H3) := fun D hD =>
  lc_range (Pv := LcP H D R) (Qd := Qd D) ⟨[], upd_same, Ext.new hD, by rw [del_upd, del_new hD]; exact h0⟩ (fun i H1 hi ⟨acc, h1, e1, r1⟩ => hs i acc D H1 hi hD h1 e1 r1)
    (fun H1 ⟨acc, h1, e1, r1⟩ => hd D acc H1 hD h1 e1 (mono _ _ _ _ del_sub r1))
theorem lc_l {K : PySem.W.Frag} {a : Addr} {xs : List V} {g : TG} {tt : TT} {te : TE} {vs : List Nat} {σ : L2.St} {H : Hp} {Qd : Addr → Hp → Prop} (R : Nat → List V → Hp → Prop) (hl : SqL K H a xs) (nx : ¬ Pl (.lst xs)) (h0 : R 0 [] H) (mono : ∀ i acc H1 H2, Ext H1 H2 → R i acc H1 → R i acc H2)
    (hs : ∀ i x acc D H1, xs[i]? = some x → H D = none → H1 D = some (.lst acc) → Ext H H1 → R i acc (del H1 D) → g x (wipe σ vs) H1 fun σ2 H2 => wipe σ2 vs = wipe σ vs ∧ tt σ2 H2 fun b H3 =>
      if b = true then te σ2 H3 fun y H4 => ∃ acc, H4 D = some (.lst acc) ∧ acc.length < sizeLine ∧ LcP H D R (i + 1) (upd H4 D (.lst (acc ++ [y]))) else LcP H D R (i + 1) H3)
    (hd : ∀ D acc H1, H D = none → H1 D = some (.lst acc) → Ext H H1 → R xs.length acc H1 → Qd D H1) :
    ∀ D, H D = none → ∃ W : Nat → Nat → Hp → Prop, (∃ m, W 0 m (upd H D (.lst []))) ∧ ∀ i m H, W i m H →
      ((Itl K a).stop i H ∧ Qd D H) ∨ ((Itl K a).go i H ∧ ∃ Nx : Hp → Prop, (∀ H', Nx H' → ∃ m', m' < m ∧ W (i + 1) m' H') ∧ ∀ x H', (Itl K a).yld i H x H' → g x (wipe σ vs) H' fun σ2 H2 => wipe σ2 vs = wipe σ vs ∧ tt σ2 H2 fun b H3 =>
        if b = true then te σ2 H3 fun y H4 => ∃ acc, H4 D = some (.lst acc) ∧ acc.length < sizeLine ∧ Nx (upd H4 D (.lst (acc ++ [y]))) else Nx H3) := fun D hD =>
  lc_list (K := K) (a := a) (xs := xs) (Pv := LcP H D R) (Qd := Qd D) ⟨[], upd_same, Ext.new hD, by rw [del_upd, del_new hD]; exact h0⟩ (fun i H1 _ ⟨_, _, e1, _⟩ => e1.seqL hl nx) (fun i x H1 hi ⟨acc, h1, e1, r1⟩ => hs i x acc D H1 hi hD h1 e1 r1)
    (fun H1 ⟨acc, h1, e1, r1⟩ => hd D acc H1 hD h1 e1 (mono _ _ _ _ del_sub r1))
theorem lc_t {K : PySem.W.Frag} {a : Addr} {xs : List V} {g : TG} {tt : TT} {te : TE} {vs : List Nat} {σ : L2.St} {H : Hp} {Qd : Addr → Hp → Prop} (R : Nat → List V → Hp → Prop) (hl : SqT K H a xs) (h0 : R 0 [] H) (mono : ∀ i acc H1 H2, Ext H1 H2 → R i acc H1 → R i acc H2)
    (hs : ∀ i x acc D H1, xs[i]? = some x → H D = none → H1 D = some (.lst acc) → Ext H H1 → R i acc (del H1 D) → g x (wipe σ vs) H1 fun σ2 H2 => wipe σ2 vs = wipe σ vs ∧ tt σ2 H2 fun b H3 =>
      if b = true then te σ2 H3 fun y H4 => ∃ acc, H4 D = some (.lst acc) ∧ acc.length < sizeLine ∧ LcP H D R (i + 1) (upd H4 D (.lst (acc ++ [y]))) else LcP H D R (i + 1) H3)
    (hd : ∀ D acc H1, H D = none → H1 D = some (.lst acc) → Ext H H1 → R xs.length acc H1 → Qd D H1) :
    ∀ D, H D = none → ∃ W : Nat → Nat → Hp → Prop, (∃ m, W 0 m (upd H D (.lst []))) ∧ ∀ i m H, W i m H →
      ((Itt K a).stop i H ∧ Qd D H) ∨ ((Itt K a).go i H ∧ ∃ Nx : Hp → Prop, (∀ H', Nx H' → ∃ m', m' < m ∧ W (i + 1) m' H') ∧ ∀ x H', (Itt K a).yld i H x H' → g x (wipe σ vs) H' fun σ2 H2 => wipe σ2 vs = wipe σ vs ∧ tt σ2 H2 fun b H3 =>
        if b = true then te σ2 H3 fun y H4 => ∃ acc, H4 D = some (.lst acc) ∧ acc.length < sizeLine ∧ Nx (upd H4 D (.lst (acc ++ [y]))) else Nx H3) := fun D hD =>
  lc_tup (K := K) (a := a) (xs := xs) (Pv := LcP H D R) (Qd := Qd D) ⟨[], upd_same, Ext.new hD, by rw [del_upd, del_new hD]; exact h0⟩ (fun i H1 _ ⟨_, _, e1, _⟩ => e1.seqT hl) (fun i x H1 hi ⟨acc, h1, e1, r1⟩ => hs i x acc D H1 hi hD h1 e1 r1)
    (fun H1 ⟨acc, h1, e1, r1⟩ => hd D acc H1 hD h1 e1 (mono _ _ _ _ del_sub r1))
theorem PoolAt.upd {H : Hp} {v : V} {l : Addr} {o0 o : HO} (h : PoolAt H v) (hl : H l = some o0) (n : ¬ Pl o0) : PoolAt (upd H l o) v := by
  obtain ⟨a, c, k, b, s, rfl, h⟩ := h
  refine ⟨a, c, k, b, s, rfl, ?_⟩
  rw [upd_ne (fun e => n (by subst e; rw [hl] at h; cases h; exact ⟨_, _, _, _, rfl⟩))]
  exact h
/-! ### the readings, step by step -/
section
variable {σ : L2.St} {H : Hp} {Q : VK} {QB : Bool → Hp → Prop} {QL : List V → Hp → Prop} {QS : L2.St → Hp → Prop} {D : Ends} {K : PySem.W.Frag}
theorem w_var {i : Nat} {v : V} (h : σ[i]? = some (some v)) (q : Q v H) : tVar i σ H Q := ⟨v, h, q⟩
theorem w_c {v : V} (q : Q v H) : tC v σ H Q := q
theorem w_op {r : R2} {ta tb : TE} (h : ta σ H fun x H1 => tb σ H1 fun y H2 => r x y H2 Q) : tOp r ta tb σ H Q := h
theorem w_un {r : V → Hp → VK → Prop} {ta : TE} (h : ta σ H fun x H1 => r x H1 Q) : tUn r ta σ H Q := h
theorem w_rU {g : Int → V} {i : Int} (q : Q (g i) H) : rU g (.int i) H Q := ⟨i, rfl, q⟩
theorem w_rI0 {g : Int → Int → V} {i j : Int} (q : Q (g i j) H) : rI0 g (.int i) (.int j) H Q := ⟨i, j, rfl, rfl, q⟩
theorem w_rI {C : Int → Int → Prop} {g : Int → Int → V} {i j : Int} (c : C i j) (q : Q (g i j) H) : rI C g (.int i) (.int j) H Q := ⟨i, j, rfl, rfl, c, q⟩
theorem w_rEq {x y : V} (s : scal x y = true) (q : Q (.bl (decide (x = y))) H) : rEq x y H Q := ⟨s, q⟩
theorem w_rNe {x y : V} (s : scal x y = true) (q : Q (.bl (!decide (x = y))) H) : rNe x y H Q := ⟨s, q⟩
theorem w_seq {t u : TS} (h : t { D with nx := u D } σ H) : tSeq t u D σ H := h
theorem w_cut {t u : TS} (Mid : L2.St → Hp → Prop) (h : t { D with nx := Mid } σ H) (h2 : ∀ σ' H', Mid σ' H' → u D σ' H') : C8.tCut t u D σ H := ⟨Mid, h, h2⟩
theorem w_next (h : D.nx σ H) : tNext D σ H := h
theorem w_break (h : D.bk σ H) : tBreak D σ H := h
theorem w_cont (h : D.ct σ H) : tCont D σ H := h
theorem w_asg {te : TE} {g : TG} (h : te σ H fun x H1 => g x σ H1 D.nx) : tAsg te g D σ H := h
theorem w_gname {i : Nat} {v : V} {σ' : L2.St} (e : σ.set i (some v) = σ') (h : QS σ' H) : gName i v σ H QS := by subst e; exact h
theorem w_aug {i : Nat} {te : TE} {ti : TIp} {x : V} (h0 : σ[i]? = some (some x)) (h : te σ H fun y H1 => ti x y H1 fun z H2 => D.nx (σ.set i (some z)) H2) : tAug i te ti D σ H := ⟨x, h0, h⟩
theorem w_ipI {f : Int → Int → Int} {i j : Int} (q : Q (.int (f i j)) H) : ipI f (.int i) (.int j) H Q := ⟨i, j, rfl, rfl, q⟩
theorem w_ret {te : TE} (h : te σ H D.rt) : tRet te D σ H := h
theorem w_retN (h : D.rt .non H) : tRetN D σ H := h
theorem w_drop {te : TE} (h : te σ H fun _ H1 => D.nx σ H1) : tDrop te D σ H := h
theorem w_ifS {c : TT} {t u : TS} (h : c σ H fun b H1 => if b = true then t D σ H1 else u D σ H1) : tIfS c t u D σ H := h
theorem w_tTest {t : TE} (h : t σ H fun x H' => ∃ k, x = .bl k ∧ QB k H') : tTest t σ H QB := h
theorem w_tB {t : TE} (h : t σ H fun x H' => ∃ k, x = .bl k ∧ QB k H') : tB t σ H QB := h
theorem w_exbl {b : Bool} {p : Bool → Prop} (h : p b) : ∃ k, V.bl b = V.bl k ∧ p k := ⟨b, rfl, h⟩
theorem w_and {t u : TT} (h : t σ H fun c H1 => if c = true then u σ H1 QB else QB false H1) : tAnd t u σ H QB := h
theorem w_or {t u : TT} (h : t σ H fun c H1 => if c = true then QB true H1 else u σ H1 QB) : tOr t u σ H QB := h
theorem w_not {t : TT} (h : t σ H fun c H1 => QB (!c) H1) : tNot t σ H QB := h
theorem w_andV {ta tb : TE} (h : ta σ H fun x H1 => ∃ c, x = .bl c ∧ if c = true then tb σ H1 Q else Q (.bl false) H1) : tAndV ta tb σ H Q := h
theorem w_orV {ta tb : TE} (h : ta σ H fun x H1 => ∃ c, x = .bl c ∧ if c = true then Q (.bl true) H1 else tb σ H1 Q) : tOrV ta tb σ H Q := h
theorem w_notV {ta : TE} (h : ta σ H fun x H1 => ∃ c, x = .bl c ∧ Q (.bl (!c)) H1) : tNotV ta σ H Q := h
theorem w_if {t : TT} {ta tb : TE} (h : t σ H fun c H1 => if c = true then ta σ H1 Q else tb σ H1 Q) : tIf t ta tb σ H Q := h
theorem w_lc {wi : TI} {g : TG} {tt : TT} {te : TE} {vs : List Nat} (h : wi σ H fun J H1 => ∀ D, H1 D = none → ∃ W : Nat → Nat → Hp → Prop, (∃ m, W 0 m (upd H1 D (.lst []))) ∧ ∀ i m H, W i m H →
      (J.stop i H ∧ Q (.ref D) H) ∨ (J.go i H ∧ ∃ Nx : Hp → Prop, (∀ H', Nx H' → ∃ m', m' < m ∧ W (i + 1) m' H') ∧ ∀ x H', J.yld i H x H' → g x (wipe σ vs) H' fun σ2 H2 => wipe σ2 vs = wipe σ vs ∧ tt σ2 H2 fun b H3 =>
        if b = true then te σ2 H3 fun y H4 => ∃ acc, H4 D = some (.lst acc) ∧ acc.length < sizeLine ∧ Nx (upd H4 D (.lst (acc ++ [y]))) else Nx H3)) : tLc wi g tt te vs σ H Q := h
theorem w_for {wi : TI} {g : TG} {tb : TS} (h : wi σ H fun J H1 => ∃ W : Nat → Nat → L2.St → Hp → Prop, (∃ m, W 0 m σ H1) ∧ ∀ i m σ H, W i m σ H →
      (J.stop i H ∧ D.nx σ H) ∨ (J.go i H ∧ ∃ N : L2.St → Hp → Prop, (∀ σ' H', N σ' H' → ∃ m', m' < m ∧ W (i + 1) m' σ' H') ∧ ∀ x H', J.yld i H x H' → g x σ H' fun σ2 H2 => tb { D with nx := N, ct := N, bk := D.nx } σ2 H2)) : tFor wi g tb D σ H := h
theorem w_rng1 {ta : TA} {R : It → Hp → Prop} (h : ta σ H fun vs H1 => ∃ j : Int, vs = [.int j] ∧ -(2 ^ 62) ≤ j ∧ j < 2 ^ 62 ∧ R (Itr 0 j.toNat) H1) : iRng1 ta σ H R := h
theorem w_rng1x {j : Int} {p : Int → Prop} (h0 : -4611686018427387904 ≤ j) (h1 : j < 4611686018427387904) (q : p j) : ∃ k : Int, [V.int j] = [.int k] ∧ -(2 ^ 62) ≤ k ∧ k < 2 ^ 62 ∧ p k := ⟨j, rfl, by omega, by omega, q⟩
theorem w_ilist {tl : TE} {R : It → Hp → Prop} (h : tl σ H fun x H1 => ∃ a, x = .ref a ∧ (∃ xs, SqL K H1 a xs) ∧ R (Itl K a) H1) : iList K tl σ H R := h
theorem w_itup {tl : TE} {R : It → Hp → Prop} (h : tl σ H fun x H1 => ∃ a, x = .ref a ∧ (∃ xs, SqT K H1 a xs) ∧ R (Itt K a) H1) : iTup K tl σ H R := h
theorem w_iseq {tl : TE} {R : It → Hp → Prop} (h : tl σ H fun x H1 => ∃ a, x = .ref a ∧ (((∃ xs, SqL K H1 a xs) ∧ R (Itl K a) H1) ∨ ((∃ xs, SqT K H1 a xs) ∧ R (Itt K a) H1))) : iSeq K tl σ H R := h
theorem w_ilistx {a : Addr} {xs : List V} {p : Addr → Prop} (h : SqL K H a xs) (q : p a) : ∃ b, V.ref a = .ref b ∧ (∃ xs, SqL K H b xs) ∧ p b := ⟨a, rfl, ⟨xs, h⟩, q⟩
theorem w_itupx {a : Addr} {xs : List V} {p : Addr → Prop} (h : SqT K H a xs) (q : p a) : ∃ b, V.ref a = .ref b ∧ (∃ xs, SqT K H b xs) ∧ p b := ⟨a, rfl, ⟨xs, h⟩, q⟩
theorem w_wipe {σ' : L2.St} {vs : List Nat} {p : Prop} (e : wipe σ vs = wipe σ' vs) (q : p) : wipe σ vs = wipe σ' vs ∧ p := ⟨e, q⟩
theorem w_yes {QY : Bool → Hp → Prop} (q : QY true H) : tYes σ H QY := q
theorem w_isN {ta : TE} (h : ta σ H fun x H1 => Q (.bl (decide (x = .non))) H1) : tIsN ta σ H Q := h
theorem w_notN {ta : TE} (h : ta σ H fun x H1 => Q (.bl (!decide (x = .non))) H1) : tNotN ta σ H Q := h
theorem w_cb {r : List V → Hp → VK → Prop} {t : TA} (h : t σ H fun vs H1 => r vs H1 Q) : tCB r t σ H Q := h
theorem w_nil (h : QL [] H) : tNil σ H QL := h
theorem w_cons {ta : TE} {tr : TA} (h : ta σ H fun x H1 => tr σ H1 fun xs H2 => QL (x :: xs) H2) : tCons ta tr σ H QL := h
theorem w_tup {t : TA} (h : t σ H fun xs H1 => xs.length ≤ sizeLine ∧ ∀ p, H1 p = none → Q (.ref p) (upd H1 p (.tup xs))) : tTup t σ H Q := h
theorem w_lst {t : TA} (h : t σ H fun xs H1 => xs.length ≤ sizeLine ∧ ∀ p, H1 p = none → Q (.ref p) (upd H1 p (.lst xs))) : tLst t σ H Q := h
theorem le_line {n : Nat} (h : Nat.ble n 1000 = true) : n ≤ sizeLine := Nat.le_of_lt (small1000 (Nat.le_of_ble_eq_true h))
theorem w_lines {n : Nat} {p : Prop} (h : Nat.ble n 1000 = true) (q : p) : n ≤ sizeLine ∧ p := ⟨le_line h, q⟩
theorem w_call {sp : Sp} {dvs : List V} {E : XK} {t : TA} (h : t σ H fun vs H1 => sp (vs ++ dvs) H1 Q E) : tCall sp dvs E t σ H Q := h
theorem w_dnewK (h : ∀ p, H p = none → Q (.ref p) (upd H p (.dK []))) : tDNewK σ H Q := h
theorem w_dget {td ty : TE} (h : td σ H fun x H1 => ty σ H1 fun y H2 => ∃ a v, x = .ref a ∧ DGet H2 a y (some v) ∧ Q v H2) : tDGet td ty σ H Q := h
theorem w_sl {r : V → Option Int → Option Int → Hp → VK → Prop} {te : TE} {tl th : TO} (h : te σ H fun x H1 => tl σ H1 fun l H2 => th σ H2 fun u H3 => r x l u H3 Q) : tSl r te tl th σ H Q := h
theorem w_nopart {QO : Option Int → Hp → Prop} (h : QO none H) : tNoPart σ H QO := h
theorem w_part {QO : Option Int → Hp → Prop} {t : TE} (h : t σ H fun x H1 => ∃ i, x = .int i ∧ QO (some i) H1) : tPart t σ H QO := h
theorem w_exint {i : Int} {p : Int → Prop} (h : p i) : ∃ k, V.int i = V.int k ∧ p k := ⟨i, rfl, h⟩
theorem w_bm {T : String} {r : V → List V → Hp → VK → Prop} {to : TE} {t : TA} (h : to σ H fun x H1 => tyV K T x H1 ∧ t σ H1 fun xs H2 => r x xs H2 Q) : tBM K T r to t σ H Q := h
theorem w_bm0 {T : String} {r : V → List V → Hp → VK → Prop} {to : TE} (h : to σ H fun x H1 => tyV K T x H1 ∧ r x [] H1 Q) : tBM0 K T r to σ H Q := h
theorem ty_list {l : Addr} {xs : List V} (h : H l = some (.lst xs)) : tyV K "list" (.ref l) H := Or.inl ⟨rfl, _, SqL.of h⟩
theorem w_bmL {l : Addr} {xs : List V} {p : Prop} (h : H l = some (.lst xs)) (q : p) : tyV K "list" (.ref l) H ∧ p := ⟨ty_list h, q⟩
theorem w_append {l : Addr} {xs : List V} {y : V} (h : H l = some (.lst xs)) (n : xs.length < sizeLine) (q : Q .non (upd H l (.lst (xs ++ [y])))) : rAppend (.ref l) [y] H Q := ⟨l, xs, y, rfl, rfl, h, n, q⟩
theorem w_ixL {p : Addr} {xs : List V} {i : Int} {v : V} (h : SqL K H p xs) (e : atI xs i = some v) (q : Q v H) : rIxL K (.ref p) (.int i) H Q := ⟨p, xs, i, v, rfl, rfl, h, e, q⟩
theorem w_ixT {p : Addr} {xs : List V} {i : Int} {v : V} (h : SqT K H p xs) (e : atI xs i = some v) (q : Q v H) : rIxT K (.ref p) (.int i) H Q := ⟨p, xs, i, v, rfl, rfl, h, e, q⟩
theorem w_setL {p : Addr} {xs : List V} {k : Int} {j : Nat} {v : V} {QH : Hp → Prop} (h : H p = some (.lst xs)) (e : ixN xs.length k = some j) (q : QH (upd H p (.lst (xs.set j v)))) : rSetL (.ref p) (.int k) v H QH := ⟨p, xs, k, j, rfl, rfl, h, e, q⟩
theorem w_cat {l b : Addr} {xs zs : List V} (h1 : H l = some (.lst xs)) (h2 : H b = some (.lst zs)) (n : xs.length + zs.length ≤ 1000) (q : ∀ p, H p = none → Q (.ref p) (upd H p (.lst (xs ++ zs)))) : rCat (.ref l) (.ref b) H Q := ⟨l, b, xs, zs, rfl, rfl, h1, h2, Nat.le_of_lt (small1000 n), q⟩
theorem w_slL {a : Addr} {xs : List V} {lo hi : Option Int} (h : SqL K H a xs) (q : ∀ p, H p = none → Q (.ref p) (upd H p (.lst (cutV xs lo hi)))) : rSlL K (.ref a) lo hi H Q := ⟨a, xs, rfl, h, q⟩
theorem inV_int (n : Int) : ∀ ns : List Int, inV (.int n) (ns.map V.int) = decide (n ∈ ns)
  | [] => by simp [inV]
  | m :: r => by
    have ih := inV_int n r
    unfold inV at ih ⊢
    rw [List.map_cons, List.any_cons, ih]
    have e : eqV (.int m) (.int n) = decide (n = m) := by
      show (m == n) = decide (n = m)
      by_cases h : m = n
      · subst h; simp
      · rw [decide_eq_false (fun z => h z.symm)]; simpa using h
    rw [e, ← Bool.decide_or]
    simp only [List.mem_cons]
theorem flat_ints : ∀ ns : List Int, (ns.map V.int).all flatV = true
  | [] => rfl
  | _ :: r => by rw [List.map_cons, List.all_cons, flat_ints r]; rfl
theorem w_inL {p : Addr} {ns : List Int} {n : Int} (h : SqL K H p (ns.map V.int)) (q : Q (.bl (decide (n ∈ ns))) H) : rIn K false (.int n) (.ref p) H Q := ⟨p, _, rfl, .inl h, rfl, flat_ints ns, by rw [if_neg Bool.false_ne_true, inV_int]; exact q⟩
theorem w_inT {p : Addr} {ns : List Int} {n : Int} (h : SqT K H p (ns.map V.int)) (q : Q (.bl (decide (n ∈ ns))) H) : rIn K false (.int n) (.ref p) H Q := ⟨p, _, rfl, .inr h, rfl, flat_ints ns, by rw [if_neg Bool.false_ne_true, inV_int]; exact q⟩
theorem w_ninL {p : Addr} {ns : List Int} {n : Int} (h : SqL K H p (ns.map V.int)) (q : Q (.bl (!decide (n ∈ ns))) H) : rIn K true (.int n) (.ref p) H Q := ⟨p, _, rfl, .inl h, rfl, flat_ints ns, by rw [if_pos rfl, inV_int]; exact q⟩
theorem w_ninT {p : Addr} {ns : List Int} {n : Int} (h : SqT K H p (ns.map V.int)) (q : Q (.bl (!decide (n ∈ ns))) H) : rIn K true (.int n) (.ref p) H Q := ⟨p, _, rfl, .inr h, rfl, flat_ints ns, by rw [if_pos rfl, inV_int]; exact q⟩
theorem w_listof {a : Addr} {ys : List V} {p : Addr → List V → Prop} (h : SqL K H a ys) (q : p a ys) : ∃ b zs, [V.ref a] = [.ref b] ∧ (SqL K H b zs ∨ SqT K H b zs) ∧ p b zs := ⟨a, ys, rfl, .inl h, q⟩
theorem w_tupof {a : Addr} {ys : List V} {A B : Addr → List V → Prop} (h : SqL K H a ys) (q : A a ys) : ∃ b zs, [V.ref a] = [.ref b] ∧ ((SqL K H b zs ∧ A b zs) ∨ (SqT K H b zs ∧ B b zs)) := ⟨a, ys, rfl, .inl ⟨h, q⟩⟩
theorem w_gsub {to ti : TE} {t : TSet} {v : V} (h : to σ H fun o H1 => ti σ H1 fun i H2 => t o i v H2 fun H3 => QS σ H3) : gSub to ti t v σ H QS := h
theorem w_len {a : Addr} {xs : List V} {p : Nat → Prop} (h : SqL K H a xs) (q : p xs.length) : ∃ x n, [V.ref a] = [x] ∧ LenV K x H n ∧ p n := ⟨_, _, rfl, .inl ⟨_, h, rfl⟩, q⟩
theorem w_lenT {a : Addr} {xs : List V} {p : Nat → Prop} (h : SqT K H a xs) (q : p xs.length) : ∃ x n, [V.ref a] = [x] ∧ LenV K x H n ∧ p n := ⟨_, _, rfl, .inr ⟨_, h, rfl⟩, q⟩
theorem w_int1 {i : Int} {p : Int → Prop} {r : Bool → Prop} (q : p i) : (∃ j, [V.int i] = [.int j] ∧ p j) ∨ ∃ k, [V.int i] = [.bl k] ∧ r k := .inl ⟨i, rfl, q⟩
theorem w_intb {b : Bool} {p : Int → Prop} {r : Bool → Prop} (q : r b) : (∃ j, [V.bl b] = [.int j] ∧ p j) ∨ ∃ k, [V.bl b] = [.bl k] ∧ r k := .inr ⟨b, rfl, q⟩
theorem w_abs {i : Int} {p : Int → Prop} (q : p i) : ∃ j, [V.int i] = [.int j] ∧ p j := ⟨i, rfl, q⟩
end
theorem fmod_pos {a b : Int} (h : 0 < b) : 0 ≤ a.fmod b ∧ a.fmod b < b := by
  rw [Int.fmod_eq_emod_of_nonneg a (by omega)]
  exact ⟨Int.emod_nonneg a (by omega), Int.emod_lt_of_pos a h⟩
theorem cmul_fmod {x m y : Int} (h0 : 0 < m) (h1 : m < 18446744073709551616) : CMul (x.fmod m) y := .inl (by have := fmod_pos (a := x) h0; omega)
theorem w_start {t : TS} {D : Ends} {N : List Str} {vs : List V} {σ : L2.St} {H : Hp} (e : L2.start N vs = σ) (h : t D σ H) : t D (L2.start N vs) H := by rw [e]; exact h
theorem ixN_nat {n j : Nat} (h : Nat.blt j n = true) : ixN n (j : Int) = some j := by
  have h' : j < n := Nat.le_of_ble_eq_true h
  unfold ixN
  rw [if_pos (by omega), if_pos (by omega), Int.toNat_natCast]
/-! ### isinstance of built-in types -/
theorem w_isi {K : PySem.W.Frag} {H : Hp} {Q : VK} {x : V} {a b : String} {r : Bool} (ty : TyX K H x (.type a)) (e : kitB a b = some r) (q : Q (.bl r) H) : rIsi K [x, .ty b] H Q := ⟨x, .ty b, _, _, r, rfl, .ty b, ty, kit_ty e, q⟩
theorem isi_int_int : kitB "int" "int" = some true := by decide +kernel
theorem isi_int_bool : kitB "int" "bool" = some false := by decide +kernel
theorem isi_int_str : kitB "int" "str" = some false := by decide +kernel
theorem isi_int_list : kitB "int" "list" = some false := by decide +kernel
theorem isi_int_tuple : kitB "int" "tuple" = some false := by decide +kernel
theorem isi_bool_int : kitB "bool" "int" = some true := by decide +kernel
theorem isi_bool_bool : kitB "bool" "bool" = some true := by decide +kernel
theorem isi_bool_str : kitB "bool" "str" = some false := by decide +kernel
theorem isi_bool_list : kitB "bool" "list" = some false := by decide +kernel
theorem isi_bool_tuple : kitB "bool" "tuple" = some false := by decide +kernel
theorem isi_str_int : kitB "str" "int" = some false := by decide +kernel
theorem isi_str_bool : kitB "str" "bool" = some false := by decide +kernel
theorem isi_str_str : kitB "str" "str" = some true := by decide +kernel
theorem isi_str_list : kitB "str" "list" = some false := by decide +kernel
theorem isi_str_tuple : kitB "str" "tuple" = some false := by decide +kernel
theorem isi_non_list : kitB "NoneType" "list" = some false := by decide +kernel
theorem isi_non_tuple : kitB "NoneType" "tuple" = some false := by decide +kernel
theorem isi_list_list : kitB "list" "list" = some true := by decide +kernel
theorem isi_list_tuple : kitB "list" "tuple" = some false := by decide +kernel
theorem isi_tuple_list : kitB "tuple" "list" = some false := by decide +kernel
theorem isi_tuple_tuple : kitB "tuple" "tuple" = some true := by decide +kernel
theorem isi_dict_dict : kitB "dict" "dict" = some true := by decide +kernel
/-! ### branches -/
section
variable {A B : Prop} {p : Prop} [Decidable p]
theorem iteNT (q : B) : if (!true) = true then A else B := iteF q
theorem iteNF (q : A) : if (!false) = true then A else B := iteT q
theorem ite_d (h1 : p → A) (h2 : ¬ p → B) : if decide p = true then A else B := by
  by_cases h : p
  · rw [if_pos (decide_eq_true h)]; exact h1 h
  · rw [if_neg (by rw [decide_eq_false h]; exact Bool.false_ne_true)]; exact h2 h
theorem ite_nd (h1 : ¬ p → A) (h2 : p → B) : if (!decide p) = true then A else B := by
  by_cases h : p
  · rw [decide_eq_true h]; exact iteF (h2 h)
  · rw [decide_eq_false h]; exact iteT (h1 h)
theorem ite_decT (h : p) (q : A) : if decide p = true then A else B := by rw [if_pos (decide_eq_true h)]; exact q
theorem ite_decF (h : ¬ p) (q : B) : if decide p = true then A else B := by rw [if_neg (by rw [decide_eq_false h]; exact Bool.false_ne_true)]; exact q
theorem ite_ndecT (h : ¬ p) (q : A) : if (!decide p) = true then A else B := by rw [decide_eq_false h]; exact iteT q
theorem ite_ndecF (h : p) (q : B) : if (!decide p) = true then A else B := by rw [decide_eq_true h]; exact iteF q
theorem ite_viT {i j : Int} (h : i = j) (q : A) : if decide (V.int i = V.int j) = true then A else B := ite_decT (by rw [h]) q
theorem ite_viF {i j : Int} (h : i ≠ j) (q : B) : if decide (V.int i = V.int j) = true then A else B := ite_decF (fun e => h (V.int.inj e)) q
theorem ite_nviT {i j : Int} (h : i ≠ j) (q : A) : if (!decide (V.int i = V.int j)) = true then A else B := ite_ndecT (fun e => h (V.int.inj e)) q
theorem ite_nviF {i j : Int} (h : i = j) (q : B) : if (!decide (V.int i = V.int j)) = true then A else B := ite_ndecF (by rw [h]) q
theorem ite_vi {i j : Int} (h1 : i = j → A) (h2 : i ≠ j → B) : if decide (V.int i = V.int j) = true then A else B := ite_d (fun e => h1 (V.int.inj e)) fun e => h2 fun z => e (by rw [z])
theorem ite_nvi {i j : Int} (h1 : i ≠ j → A) (h2 : i = j → B) : if (!decide (V.int i = V.int j)) = true then A else B := ite_nd (fun e => h1 fun z => e (by rw [z])) fun e => h2 (V.int.inj e)
theorem ite_b {b : Bool} (h1 : b = true → A) (h2 : b = false → B) : if b = true then A else B := by
  cases b
  · exact iteF (h2 rfl)
  · exact iteT (h1 rfl)
end
end Kf

end
section
set_option Elab.async false
set_option linter.all false
set_option maxRecDepth 100000
set_option maxHeartbeats 4000000
namespace Kf
open PySem PySem.Spec PyProof.Rows L2 RT
theorem nolen_rt : typeLookup (.type "reversed") "__len__" = pure none := by rw [typeLookup_type, builtinLookup_eq_fast]; kernel_rfl
theorem slot_rt_hint : Slot "reversed" "__length_hint__" "reversed.__length_hint__" :=
  .of (owner := "reversed") (n := "__length_hint__") (by rw [typeLookup_type, builtinLookup_eq_fast]; kernel_rfl) (by decide +kernel) (by decide +kernel) (by decide +kernel)
    (by first | exact .inl (by decide +kernel) | exact .inr (by decide +kernel)) (by rw [isSubtype_type]; kernel_rfl)
theorem entry_rt_hint : entryFor table "reversed.__length_hint__" = some Builtin.«reversed.__length_hint__» := entryFor_of_tree (by kernel_rfl)
theorem args_rt_hint (a : Value) : argsOk "reversed.__length_hint__" ⟨[a], []⟩ := by
  unfold argsOk; rw [signature?_of (id := "reversed.__length_hint__") (n := ['_', '_', 't', 'n', 'i', 'h', '_', 'h', 't', 'g', 'n', 'e', 'l', '_', '_']) (o := ['d', 'e', 's', 'r', 'e', 'v', 'e', 'r']) (by kernel_rfl) owner_rt]; kernel_rfl
section
variable {prog : Program} {w : World} {A : Around} {E : Value → Shared → Prop} {s : Shared}
theorem hint_rt {it t : Addr} {n : Nat} {items : Array Value} {Q : Bool → Shared → Prop} (hit : IsRt s.heap it t ((items.size : Int) - 1)) (ht : IsTup s.heap t items) (hz : items.size ≤ sizeLine)
    (hQ : ∀ b tk, Q b { s with toks := tk }) : wpAny (model prog w) A (Builtin.List.listLengthHint (.ref it)) Q E s := by
  have hT := hit.typeIs
  obtain ⟨o, ho, hc, hd⟩ := id hit
  unfold Builtin.List.listLengthHint
  refine wpAny_bind (wpAny_specialOf hT nolen_rt ?_)
  show wpAny _ _ (specialOf (Value.ref it) (Str.ofString "__length_hint__") >>= _) _ _ _
  refine wpAny_bind (wpAny_specialOf hT slot_rt_hint.lookup ?_)
  generalize hid : ("reversed.__length_hint__" : String) = id0
  wp_delta
  rw [show splitId id0 = some ("reversed", "__length_hint__") from by subst hid; decide +kernel]
  subst hid
  refine wpAny_bind (wpAny_isInstance (b := true) hT (by rw [isSubtype_type]; kernel_rfl) ?_)
  rw [if_neg (by decide)]
  refine wpAny_bind (wpAny_rule ?_)
  refine wpAny_bind (wpAny_of_eq (slot_rt_hint.bind _) ?_)
  refine wpAny_bind (wpAny_attempt (wpAny_call_entry slot_rt_hint hT entry_rt_hint ?_ (args_rt_hint _)))
  unfold Builtin.«reversed.__length_hint__»
  refine wpAny_bind (wpAny_of_eq (a := Value.ref it) rfl ?_)
  refine wpAny_bind (wpAny_field ho hd (x := .ref t) rfl ?_)
  rw [if_neg (by intro z; cases z)]
  have hl := sizeLine_eq
  refine wpAny_bind (len_tuple ht (by omega) ?_)
  refine wpAny_bind (wpAny_of_eq (a := some ((items.size : Nat) : Int)) rfl ?_)
  refine wpAny_bind (wpAny_field ho hd (x := rawInt ((items.size : Int) - 1)) rfl ?_)
  show wpAny _ _ (if ((items.size : Nat) : Int) < (items.size : Int) - 1 + 1 then _ else retInt ((items.size : Int) - 1 + 1)) _ _ _
  rw [if_neg (by omega)]
  unfold retInt
  refine wpAny_bind (wpAny_mkInt (wpAny_pure ⟨_, rfl, ?_⟩))
  show wpAny _ _ (asInt? (.int ((items.size : Int) - 1 + 1) _) >>= _) _ _ _
  refine wpAny_bind (wpAny_of_eq (a := some ((items.size : Int) - 1 + 1)) rfl ?_)
  have h1 : Builtin.List.listFitsIndex ((items.size : Int) - 1 + 1) = true := by
    unfold Builtin.List.listFitsIndex
    rw [Bool.and_eq_true]
    exact ⟨decide_eq_true (by omega), decide_eq_true (by omega)⟩
  have h2 : Builtin.List.listTooLong ((items.size : Int) - 1 + 1).toNat = false := by
    unfold Builtin.List.listTooLong
    exact decide_eq_false (by omega)
  dsimp only
  rw [if_neg (by rw [h1]; decide), if_neg (by omega), if_neg (by rw [h2]; decide)]
  exact wpAny_pure (hQ _ _)
theorem hint_lri' {it : Addr} {Q : Bool → Shared → Prop} (hT : s.TypeIs (.ref it) "list_reverseiterator") (hQ : Q false s) : wpAny (model prog w) A (Builtin.List.listLengthHint (.ref it)) Q E s := by
  unfold Builtin.List.listLengthHint
  refine wpAny_bind (wpAny_specialOf hT nolen_lri ?_)
  show wpAny _ _ (specialOf (Value.ref it) (Str.ofString "__length_hint__") >>= _) _ _ _
  refine wpAny_bind (wpAny_specialOf hT hint_lri ?_)
  generalize hid : ("list_reverseiterator.__length_hint__" : String) = id0
  wp_delta
  rw [show splitId id0 = some ("list_reverseiterator", "__length_hint__") by subst hid; decide +kernel]
  subst hid
  refine wpAny_bind (wpAny_isInstance (b := true) hT (by rw [isSubtype_type]; kernel_rfl) ?_)
  rw [if_neg (by decide)]
  first
  | exact wpAny_pure hQ
  | (rw [if_pos (by decide +kernel)]; exact wpAny_pure hQ)
  | (rw [if_pos (by decide +kernel), if_neg (by decide +kernel)]; exact wpAny_pure hQ)
/-- reversed(t), t a tuple, walked -/
theorem walks_rt (hh : A.handled = none) (I t : Addr) (hne : t ≠ I) (items : Array Value) (hz : items.size ≤ sizeLine) :
    Walks prog w A I [I, t] [I] items.size (fun i v => items[items.size - 1 - i]? = some v) (fun i h => i ≤ items.size ∧ IsRt h I t ((items.size : Int) - 1 - (i : Int)) ∧ IsTup h t items) := by
  refine ⟨fun b hb => ?_, fun i h h' x hk => ?_, fun i s Q E hi x hQ => ?_, fun s Q E x hQ => ?_, fun i s Q E x hQ => iter_rt x.2.1 hQ⟩
  · rw [List.mem_singleton] at hb
    subst hb
    exact List.mem_cons_self
  · refine ⟨x.1, x.2.1.at fun o e => hk I List.mem_cons_self o e, ?_⟩
    obtain ⟨o, e, r⟩ := x.2.2
    exact ⟨o, hk t (by simp) o e, r⟩
  · obtain ⟨x1, x2, x3⟩ := x
    rw [show (items.size : Int) - 1 - (i : Int) = ((items.size - 1 - i : Nat) : Int) by omega] at x2
    have hx : items[items.size - 1 - i]? = some (items[items.size - 1 - i]'(by omega)) := Array.getElem?_eq_getElem (by omega)
    refine next_rt_item x2 x3 hx hz fun h' y2 sb => ?_
    rw [show ((items.size - 1 - i : Nat) : Int) - 1 = (items.size : Int) - 1 - ((i + 1 : Nat) : Int) by omega] at y2
    refine hQ _ h' _ hx ⟨hi, y2, ?_⟩ fun b o hb e => (sb.2 b (by simpa using hb)).trans e
    obtain ⟨o, e, r⟩ := x3
    exact ⟨o, (sb.2 t hne).trans e, r⟩
  · obtain ⟨x1, x2, x3⟩ := x
    rw [show (items.size : Int) - 1 - ((items.size : Nat) : Int) = -1 by omega] at x2
    exact next_rt_end hh x2 fun h' eb => hQ h' s.toks fun b o hb e => eb b o (by simpa using hb) e
/-- list(it), it an iterator of n items whose length is hinted at -/
theorem list_iter {T : String} {it d : Addr} {n : Nat} {Pv : Nat → Value → Prop} {St : Nat → Heap → Prop} {Q : Value → Shared → Prop} (W : Walks prog w A.in1.in1 it [it, d] [it] n Pv St) (hn : n ≤ sizeLine) (hT : s.TypeIs (.ref it) T) (n1 : (Value.type T == Value.type "list") = false) (n2 : (Value.type T == Value.type "tuple") = false)
    (hint : ∀ (h : Heap) (tk : Nat) (A : Around) (E : Value → Shared → Prop) (Q : Bool → Shared → Prop), (∀ b ∈ [it, d], ∀ o, s.heap.get? b = some o → h.get? b = some o) → (∀ b tk, Q b { s with heap := h, toks := tk }) → wpAny (model prog w) A (Builtin.List.listLengthHint (.ref it)) Q E { s with heap := h, toks := tk })
    (hd : d < s.heap.objs.size) (st : St 0 s.heap)
    (hQ : ∀ h' tk acc c, (∀ b o, b ≠ it → s.heap.get? b = some o → h'.get? b = some o) → h'.get? s.heap.objs.size = some { cls := .type "list", dict := none, data := .seq acc c, slots := #[] } → ItemsOf Pv acc n → Q (.ref s.heap.objs.size) { s with heap := h', toks := tk }) :
    wpAny (model prog w) A (call (.type "list") [.ref it]) Q E s := by
  have hit : it < s.heap.objs.size := by
    obtain ⟨o, e, _⟩ := hT
    exact Heap.lt_size e
  refine callType_codes (Q₁ := fun obj s₁ => obj = .ref s.heap.objs.size ∧ s₁ = { s with heap := s.heap.push { cls := .type "list", data := .seq #[] } }) PySem.F.called_list (PySem.F.typeCall_list_1 _) PySem.F.entry_list_init
    (code_list_new _ ⟨rfl, rfl⟩) fun obj s₁ h₁ => ?_
  obtain ⟨rfl, rfl⟩ := h₁
  generalize hS' : s.heap.objs.size = S
  have k1 : ∀ b o, s.heap.get? b = some o → (s.heap.push { cls := .type "list", data := .seq #[] }).get? b = some o := fun b o e => Heap.get?_push_of_some _ e
  have hS : (s.heap.push { cls := .type "list", data := .seq #[] }).get? S = some { cls := .type "list", data := .seq #[] } := by rw [← hS']; exact Heap.get?_push_size _ rfl
  have neI : S ≠ it := Nat.ne_of_gt (by rw [← hS']; exact hit)
  have neD : S ≠ d := Nat.ne_of_gt (by rw [← hS']; exact hd)
  have old : ∀ b o, s.heap.get? b = some o → b ≠ S := fun b o e => Nat.ne_of_lt (by rw [← hS']; exact Heap.lt_size e)
  generalize s.heap.push { cls := .type "list", data := .seq #[] } = g at k1 hS
  refine ⟨⟨_, hS, rfl⟩, PySem.F.args_list_init_2 _ _, ?_⟩
  show wpAny _ _ (do let x ← Builtin.List.listItems (.ref S); Builtin.List.listUpdate (.ref S) (fun _ => #[]); letGo x.toList.reverse; Builtin.List.listExtendWith (.ref S) (.ref it) .none) _ _ { s with heap := g }
  refine wpAny_bind ?_
  unfold Builtin.List.listItems
  refine wpAny_bind (wpAny_seqItems hS rfl (wpAny_pure ?_))
  show wpAny _ _ (updateSeq S (fun _ => #[]) >>= fun _ => letGo (#[] : Array Value).toList.reverse >>= fun _ => Builtin.List.listExtendWith (.ref S) (.ref it) .none) _ _ { s with heap := g }
  refine wpAny_bind (wpAny_updateSeq hS rfl ?_)
  have hS2 := Heap.get?_update_self (Obj.mapSeq (fun _ => (#[] : Array Value))) hS rfl
  have k2 : ∀ b o, b ≠ S → g.get? b = some o → (g.update S (Obj.mapSeq (fun _ => (#[] : Array Value)))).get? b = some o := fun b o hb e => (Heap.get?_update_other _ _ (Ne.symm hb)).trans e
  refine wpAny_bind (wpAny_letGo ?_)
  generalize g.update S (Obj.mapSeq (fun _ => (#[] : Array Value))) = g2 at hS2 k2
  have k3 : ∀ b o, s.heap.get? b = some o → g2.get? b = some o := fun b o e => k2 b o (old b o e) (k1 b o e)
  have st2 : St 0 g2 := W.frame 0 _ _ st fun b _ o e => k3 b o e
  have hT2 : ({ s with heap := g2 } : Shared).TypeIs (.ref it) T := by
    obtain ⟨o, e, r⟩ := hT
    exact ⟨o, k3 _ _ e, r⟩
  have hSf : S ∉ [it, d] := by
    simp only [List.mem_cons, List.not_mem_nil, or_false, not_or]
    exact ⟨neI, neD⟩
  have key : ∀ (h : Heap) (c tk : Nat), St 0 h → (∀ b o, b ≠ S → s.heap.get? b = some o → h.get? b = some o) → h.get? S = some { cls := .type "list", data := .seq #[] c } →
      codeAny (model prog w) A.in1 (.builtin "list.extend.loop" ⟨[.ref S, .ref it, .none], []⟩) (wants (fun r s₂ => r = Value.none ∧ Q (.ref S) s₂) E) { s with heap := h, toks := tk } := fun h c tk hst hk hSh => by
    refine codeAny_extend_loopS W.toS hn S hSf .none n 0 _ #[] c rfl (Nat.zero_le _) hst hSh (ItemsOf.nil _) fun s' acc c' hm hSa hacc => ?_
    rw [Moved.eq_with hm]
    refine (show Value.none = Value.none ∧ Q (.ref S) _ from ⟨rfl, ?_⟩)
    rw [← hS']
    refine hQ s'.heap s'.toks acc c' (fun b o hb e => hm.heap b o (fun hmem => ?_) (hk b o (old b o e) e)) (by rw [hS']; exact hSa) hacc
    rcases List.mem_cons.mp hmem with z | z
    · exact old b o e z
    · exact hb (List.mem_singleton.mp z)
  unfold Builtin.List.listExtendWith
  refine wpAny_bind (wpAny_typeOf (T := T) hT2 ?_)
  have h1 : Builtin.List.listSameRef (.ref S) (.ref it) = false := by simp [Builtin.List.listSameRef, neI]
  rw [if_neg (by rw [h1, n1, n2]; decide)]
  refine wpAny_bind (W.self 0 _ _ _ st2 ?_)
  refine wpAny_bind (wpAny_holding (hint g2 s.toks _ _ _ (fun b _ o e => k3 b o e) fun b tk => ?_))
  have qt := plainId_quiet PySem.F.plain_extend_loop ⟨[.ref S, .ref it, .none], []⟩
  refine wpAny_ite_split (fun _ => ?_) (fun _ => wpAny_pure ⟨qt, key g2 0 tk st2 (fun b o _ e => k3 b o e) hS2⟩)
  refine wpAny_bind (wpAny_rule (wpAny_bind ?_))
  show wpAny _ _ (updateSeq S (fun xs => xs.push .none) >>= fun _ => updateSeq S fun xs => xs.pop) _ _ _
  refine wpAny_bind (wpAny_updateSeq hS2 rfl ?_)
  have hS3 := Heap.get?_update_self (Obj.mapSeq (fun xs => xs.push Value.none)) hS2 rfl
  have k4 : ∀ b o, b ≠ S → g2.get? b = some o → (g2.update S (Obj.mapSeq (fun xs => xs.push Value.none))).get? b = some o := fun b o hb e => (Heap.get?_update_other _ _ (Ne.symm hb)).trans e
  generalize g2.update S (Obj.mapSeq (fun xs => xs.push Value.none)) = g3 at hS3 k4
  refine wpAny_updateSeq (hz := by seq_fits) hS3 rfl ?_
  have hS4 := Heap.get?_update_self (Obj.mapSeq (fun xs : Array Value => xs.pop)) hS3 rfl
  have k5 : ∀ b o, b ≠ S → g3.get? b = some o → (g3.update S (Obj.mapSeq (fun xs : Array Value => xs.pop))).get? b = some o := fun b o hb e => (Heap.get?_update_other _ _ (Ne.symm hb)).trans e
  have k6 : ∀ b o, b ≠ S → s.heap.get? b = some o → (g3.update S (Obj.mapSeq (fun xs : Array Value => xs.pop))).get? b = some o := fun b o hb e => k5 b o hb (k4 b o hb (k3 b o e))
  exact wpAny_pure ⟨qt, key _ _ _ (W.frame 0 _ _ st2 fun b hb o e => k5 b o (fun z => hSf (z ▸ hb)) (k4 b o (fun z => hSf (z ▸ hb)) e)) k6 hS4⟩
end
/-! ### the rule -/
section
variable {X : Cx} {K : PySem.W.Frag}
def tListRev (K : PySem.W.Frag) (te : TE) : TE := fun σ H Q => te σ H fun v H1 => ∃ (a : Addr) (xs : List V), v = .ref a ∧ (SqL K H1 a xs ∨ SqT K H1 a xs) ∧ ∀ q, H1 q = none → Q (.ref q) (upd H1 q (.lst xs.reverse))
theorem w_listRev {te : TE} {σ : L2.St} {H : Hp} {Q : VK} (h : te σ H fun v H1 => ∃ (a : Addr) (xs : List V), v = .ref a ∧ (SqL K H1 a xs ∨ SqT K H1 a xs) ∧ ∀ q, H1 q = none → Q (.ref q) (upd H1 q (.lst xs.reverse))) : tListRev K te σ H Q := h
theorem pe_listRev {e : Expr} {te : TE} {p p2 pos pos2 : Pos} (ek : X.K = K) (hc : X.calm = true) (hg : Gl X "list") (hm : X.mg "list" = none) (hg2 : Gl X "reversed") (hm2 : X.mg "reversed" = none) (he : PE X e te)
    (hs : starEach [e] X.env = (false, eval e X.env) :: starEach [] X.env := by rfl)
    (hs2 : starEach [.Call (.Name "reversed" p2) [e] [] pos2] X.env = (false, eval (.Call (.Name "reversed" p2) [e] [] pos2) X.env) :: starEach [] X.env := by rfl) :
    PE X (.Call (.Name "list" p) [.Call (.Name "reversed" p2) [e] [] pos2] [] pos) (tListRev K te) := by
  subst ek
  refine ⟨fun pins s σ H Q I h => ?_⟩
  refine Call_ (ld_blt I hg hm boot_list (PyProof.Rows.callWith_type1 (args_cons (Call_ (ld_blt I hg2 hm2 PyProof.Rows.boot_reversed (PyProof.Rows.callWith_type1 (args_cons (thn (he.run pins s σ H _ I h) fun u s1 ⟨v, H1, I1, r1, q1⟩ => args_nil ?_) hs) hs rfl))) hs2) hs2 rfl))
  obtain ⟨a, xs, ev, hq, q⟩ := q1
  subst ev
  obtain rfl : u = Value.ref a := r1
  have hline := sizeLine_eq
  have fin : ∀ (its : List Value) (s2 : Shared) (it : Addr) (I2 : Inv X pins σ H1 s2) (hf : FpOk X pins H1 it) (hil : it < s2.heap.objs.size), Vals xs its → xs.length ≤ sizeLine → ∀ (h' : Heap) (tk : Nat) (acc : Array Value) (c : Nat), (∀ b o, b ≠ it → s2.heap.get? b = some o → h'.get? b = some o) →
      h'.get? s2.heap.objs.size = some { cls := .type "list", dict := none, data := .seq acc c, slots := #[] } → ItemsOf (fun i v => its.toArray[its.toArray.size - 1 - i]? = some v) acc its.toArray.size → EP X pins σ Q (.ref s2.heap.objs.size) { s2 with heap := h', toks := tk } := by
    intro its s2 it I2 hf hil rv hz h' tk acc c hk hl hacc
    obtain ⟨f0, f1, f2, f3, f4, f5⟩ := hf
    have fresh := I2.hok.fresh (Nat.le_refl s2.heap.objs.size)
    have low : ∀ b o, s2.heap.get? b = some o → b ≠ s2.heap.objs.size := fun b o e => Nat.ne_of_lt (Heap.lt_size e)
    have nit : ∀ b o, H1 b = some o → b ≠ it := fun b o e z => by rw [z, f0] at e; cases e
    have ns : ∀ b o, H1 b = some o → b ≠ s2.heap.objs.size := fun b o e => ne_of_none e fresh
    have ho : HOk X.prog X.w (upd H1 s2.heap.objs.size (.lst xs.reverse)) h' := fun b o e => by
      by_cases hb : b = s2.heap.objs.size
      · subst hb
        rw [L2.upd_same] at e
        cases e
        exact ⟨by rw [List.length_reverse]; exact hz, acc.toList, c, vals_rev rv hacc, by rw [Array.toArray_toList]; exact hl⟩
      · rw [upd_ne hb] at e
        refine (I2.hok b o e).stay (fun d u hd eu => hk d u ?_ eu) (fun d q2 => by rw [upd_ne (ns d _ q2)]; exact q2) fun d ys q2 => by rw [upd_ne (ns d _ q2)]; exact q2
        rcases hd with z | z
        · rw [z]; exact nit b o e
        · exact nit d _ z
    refine ⟨.ref s2.heap.objs.size, upd H1 s2.heap.objs.size (.lst xs.reverse), ?_, rfl, q _ fresh⟩
    refine I2.step (g' := s2.gens) (d' := s2.drawn) (ch := [it]) (fun b hb => ?_) (fun b o _ _ hc e _ => hk b o (fun z => hc (by rw [z]; exact List.mem_cons_self)) e) (fun b o _ _ hc e _ => ⟨o.slots, hk b o (fun z => hc (by rw [z]; exact List.mem_cons_self)) e⟩)
      (fun b o _ e n => by rw [upd_ne (low b o e)]; exact n) (fun b o hc e => ⟨o, hk b o (fun z => hc (by rw [z]; exact List.mem_cons_self)) e⟩) (fun b ys e => by rw [upd_ne (ns b _ e)]; exact e) (fun b o u e => by rw [upd_ne (ns b _ e)]; exact e)
      (fun b ps e => ⟨#[], by rw [upd_ne (ns b _ e), e]; simp⟩) (fun m hm => ?_) ho I2.bare
    · rw [List.mem_singleton] at hb
      subst hb
      exact ⟨f3, f1, f4, f5⟩
    · obtain ⟨o, es, ep, e, r⟩ := hm
      exact ⟨o, es, ep, hk _ o (Ne.symm f1) e, r⟩
  have k0 : ∀ (ob : Obj) b o, s1.heap.get? b = some o → (s1.heap.push ob).get? b = some o := fun ob b o e => Heap.get?_push_of_some _ e
  have fp := I1.fpOk (H' := H1) (b := s1.heap.objs.size) (Nat.le_refl _) (I1.hok.fresh (Nat.le_refl _))
  have hd1 : X.A.handled = none := I1.ok.hd hc
  rcases hq with hq | hq
  · obtain ⟨its, rv, pl, hz⟩ := I1.list hq
    have il := pl.isList
    have hlen := rv.length
    obtain ⟨ol, hol, _⟩ := id il
    have hla := Heap.lt_size hol
    refine call_reversed_list il (args_nil ?_)
    have I2 : Inv X pins σ H1 { s1 with heap := s1.heap.push (revObj a ((its.toArray.size : Int) - 1)) } := I1.kept (t' := s1.toks) (k0 _)
    have hs : its.toArray.size ≤ sizeLine := by rw [List.size_toArray]; omega
    have hri : (s1.heap.push (revObj a ((its.toArray.size : Int) - 1))).IsRevIter s1.heap.objs.size a ((its.toArray.size : Int) - 1 - ((0 : Nat) : Int)) := by
      rw [show (its.toArray.size : Int) - 1 - ((0 : Nat) : Int) = (its.toArray.size : Int) - 1 by omega]
      exact ⟨_, Heap.get?_push_size _ rfl, rfl, rfl⟩
    refine list_iter (T := "list_reverseiterator") (s := { s1 with heap := s1.heap.push (revObj a ((its.toArray.size : Int) - 1)) }) (Walks.listRev (A := X.A.in1.in1) hd1 s1.heap.objs.size a (Nat.ne_of_lt hla) its.toArray) hs ⟨_, Heap.get?_push_size _ rfl, rfl⟩ (by decide) (by decide) ?_ (by rw [Heap.size_push]; exact Nat.lt_succ_of_lt hla) ⟨Nat.zero_le _, hri, il.push _⟩ ?_
    · intro h tk A E Q2 hk hQ
      have hT : ({ s1 with heap := h, toks := tk } : Shared).TypeIs (.ref s1.heap.objs.size) "list_reverseiterator" := ⟨_, hk _ List.mem_cons_self _ (Heap.get?_push_size _ rfl), rfl⟩
      exact hint_lri' hT (hQ _ _)
    · exact fun h' tk acc c hk hl hacc => fin its _ s1.heap.objs.size I2 fp (by show _ < (s1.heap.push _).objs.size; rw [Heap.size_push]; exact Nat.lt_succ_self _) rv hz h' tk acc c hk hl hacc
  · obtain ⟨its, rv, pl, hz⟩ := I1.tuple hq
    have hlen := rv.length
    obtain ⟨ol, hol, _⟩ := id pl
    have hla := Heap.lt_size hol
    have hs : its.toArray.size ≤ sizeLine := by rw [List.size_toArray]; omega
    refine call_reversed_tup pl (fun A E Q k => len_tuple pl (by omega) k) (args_nil ?_)
    have I2 : Inv X pins σ H1 { s1 with heap := s1.heap.push (rtObj a ((its.toArray.size : Int) - 1)), toks := s1.toks + 1 + 1 } := I1.kept (t' := s1.toks + 1 + 1) (k0 _)
    have hri : IsRt (s1.heap.push (rtObj a ((its.toArray.size : Int) - 1))) s1.heap.objs.size a ((its.toArray.size : Int) - 1 - ((0 : Nat) : Int)) := by
      rw [show (its.toArray.size : Int) - 1 - ((0 : Nat) : Int) = (its.toArray.size : Int) - 1 by omega]
      exact ⟨_, Heap.get?_push_size _ rfl, rfl, rfl⟩
    have hri' : IsRt (s1.heap.push (rtObj a ((its.toArray.size : Int) - 1))) s1.heap.objs.size a ((its.toArray.size : Int) - 1) := ⟨_, Heap.get?_push_size _ rfl, rfl, rfl⟩
    have pl2 : IsTup (s1.heap.push (rtObj a ((its.toArray.size : Int) - 1))) a its.toArray := by
      obtain ⟨o, e, r⟩ := pl
      exact ⟨o, k0 _ _ _ e, r⟩
    refine list_iter (T := "reversed") (s := { s1 with heap := s1.heap.push (rtObj a ((its.toArray.size : Int) - 1)), toks := s1.toks + 1 + 1 }) (walks_rt (A := X.A.in1.in1) hd1 s1.heap.objs.size a (Nat.ne_of_lt hla) its.toArray hs) hs ⟨_, Heap.get?_push_size _ rfl, rfl⟩ (by decide) (by decide) ?_ (by rw [Heap.size_push]; exact Nat.lt_succ_of_lt hla) ⟨Nat.zero_le _, hri, pl2⟩ ?_
    · intro h tk A E Q2 hk hQ
      refine hint_rt (s := { s1 with heap := h, toks := tk }) (n := 0) (hri'.at fun o e => hk _ List.mem_cons_self o e) ?_ hs hQ
      obtain ⟨o, e, r⟩ := pl2
      exact ⟨o, hk _ (by simp) _ e, r⟩
    · exact fun h' tk acc c hk hl hacc => fin its _ s1.heap.objs.size I2 fp (by show _ < (s1.heap.push _).objs.size; rw [Heap.size_push]; exact Nat.lt_succ_self _) rv hz h' tk acc c hk hl hacc
end
end Kf

end
section
set_option Elab.async false
set_option linter.all false
set_option maxRecDepth 100000
set_option maxHeartbeats 4000000
namespace Kf
open PySem PySem.Spec PyProof.Rows L2
/-! ### promises of a def with defaults -/
structure PrD (P : Program) (w : World) (K : PySem.W.Frag) (mg : Str → Option Value) (base : Heap) (x : Str) (k : Nat) (ps : List Str) (dvs : List V) (sp : Sp) : Prop where
  ex : ∃ f fd ds, FnOk P w K mg base CX0 k f fd ps sp ∧ Binds K fd ps ds ∧ Vals dvs ds ∧ PySem.W.keepIn K (.ref f) = true ∧ mg x = some (.ref f)
structure DfD (K : PySem.W.Frag) (mg : Str → Option Value) (x : Str) (st : Stmt) (dvs : List V) (ps : List Str) : Prop where
  ex : ∃ f fd ds, FunD K x x (defArgs st) (defBody st) (defScope st) dvs [] f fd ∧ Binds K fd ps [] ∧ Binds K fd ps ds ∧ Vals dvs ds ∧ mg x = some (.ref f)
section
variable {P : Program} {w : World} {K : PySem.W.Frag} {mg : Str → Option Value} {base : Heap} {x : Str} {st : Stmt} {dvs : List V} {ps N : List Str} {k j : Nat} {sp sp' : Sp}
theorem DfD.ok (D : DfD K mg x st dvs ps) (S : FnScope N ps (defScope st)) (len : ∀ vs H Q E, sp vs H Q E → vs.length = ps.length)
    (hbody : ∀ (f : Addr) (cdv : Value) (A : Around) (outer : List Env) (s : Shared) (H : Hp) (vs : List V) (Q : VK) (E : XK), Room k (A.deeper (envOfC x (defScope st) s.heap.objs.size f cdv)) → sp vs H Q E →
      ∃ t, PSs (cxOf CX0 P w K mg base N x (defScope st) f cdv A outer s H E).nox (defBody st) t ∧ t { nx := fun _ H' => Q .non H', rt := Q } (start N vs) H) :
    Pr P w K mg base x (k + 1) ps sp ∧ PrD P w K mg base x (k + 1) ps dvs sp := by
  obtain ⟨f, fd, ds, F, b, bd, rd, g⟩ := D.ex
  have ok : FnOk P w K mg base CX0 (k + 1) f fd ps sp := F.ok S len fun cdv A outer s H vs Q E hr h => by
    obtain ⟨t, h1, h2⟩ := hbody f cdv A outer s H vs Q E hr h
    exact ⟨t, h1.nox, h2⟩
  obtain ⟨oc, od, dV, kV, doc, pm, an, cdv, ct, osl, e, lk, _⟩ := F.ex
  exact ⟨⟨f, fd, ok, b, F.kp, g, oc, od, osl, lk⟩, ⟨f, fd, ds, ok, bd, rd, F.kp, g⟩⟩
end
section
variable {X : Cx} {x : Str} {k j : Nat} {ps : List Str} {dvs : List V} {sp : Sp} {e : Expr} {es : List Expr} {t : TA} {p pos : Pos}
theorem pe_callPD (pr : PrD X.prog X.w X.K X.mg X.base x k ps dvs sp) (hr : Room j X.A) (ha : PA X (e :: es) t) (hk : k ≤ j := by decide) (hg : Gl X x := by rfl) (hd : (x == ("__debug__" : Str)) = false := by decide)
    (he : starEach (e :: es) X.env = (false, eval e X.env) :: starEach es X.env := by rfl) (hpl : (backTo pos (starEach es X.env)).any (·.1) = false := by rfl) : PE X (.Call (.Name x p) (e :: es) [] pos) (tCall sp dvs E0 t) := by
  obtain ⟨f, fd, ds, F, b, rd, kp, g⟩ := pr.ex
  exact pe_call F (hr.mono hk) hg g kp b rd pass0 ha hd he hpl
end
/-- both ways of binding of a def with one default, from what the top says -/
theorem DfD.mk1 {K : PySem.W.Frag} {mg : Str → Option Value} {x : Str} {st : Stmt} {p1 p2 : Str} {f T : Addr} {oc ocT : Value} {od odT an : Option Addr} {osl slT : Array (Option Value)} {kV doc pm cdv ct dv : Value} {n : Nat} {d : V}
    (l : K.lookup f = some ⟨oc, od, .func (PySem.W.fnOf x x (defArgs st) (defBody st) (defScope st) (.ref T) kV doc pm an cdv ct), osl⟩) (c : PySem.W.codeIn K cdv x = true) (k : PySem.W.keepIn K (.ref f) = true)
    (lT : K.lookup T = some ⟨ocT, odT, .seq #[dv] n, slT⟩) (hd : RelV d dv) (g : mg x = some (.ref f))
    (h1 : ∀ (T : Addr) (kV doc pm : Value) (an : Option Addr) (cdv ct : Value) (u i : Value), ∃ k, bindArgs (PySem.W.fnOf x x (defArgs st) (defBody st) (defScope st) (.ref T) kV doc pm an cdv ct) ⟨[u], []⟩ = seqItems? (.ref T) >>= k ∧ k (some #[i]) = pure (List.zip [p1, p2] [u, i]))
    (h2 : ∀ (T : Addr) (kV doc pm : Value) (an : Option Addr) (cdv ct : Value) (u v i : Value), ∃ k, bindArgs (PySem.W.fnOf x x (defArgs st) (defBody st) (defScope st) (.ref T) kV doc pm an cdv ct) ⟨[u, v], []⟩ = seqItems? (.ref T) >>= k ∧ k (some #[i]) = pure (List.zip [p1, p2] [u, v])) :
    DfD K mg x st [d] [p1, p2] := by
  have F : FunD K x x (defArgs st) (defBody st) (defScope st) [d] [] f (PySem.W.fnOf x x (defArgs st) (defBody st) (defScope st) (.ref T) kV doc pm an cdv ct) :=
    ⟨⟨oc, od, _, kV, doc, pm, an, cdv, ct, osl, rfl, l, c, .inr ⟨by simp, T, _, [dv], n, rfl, lT, rfl, .cons hd .nil⟩, .inl rfl⟩, k⟩
  obtain ⟨ds, r1, b1⟩ := F.binds1 (ps := [p1, p2]) 1 0 (by simp) rfl fun T kV doc pm an cdv ct us its h3 h4 => match us, its, h3, h4 with | [u], [i], _, _ => h1 T kV doc pm an cdv ct u i
  obtain ⟨ds2, r2, b2⟩ := F.binds1 (ps := [p1, p2]) 2 1 (by simp) rfl fun T kV doc pm an cdv ct us its h3 h4 => match us, its, h3, h4 with | [u, v], [i], _, _ => h2 T kV doc pm an cdv ct u v i
  cases r2
  exact ⟨f, _, ds, F, b2, b1, r1, g⟩
/-! ### great numbers -/
/-- // by a divisor that is not 0, below 2 ^ 9000 -/
def CDivX (_ j : Int) : Prop := j ≠ 0 ∧ j.natAbs.log2 < 9000
theorem CDivX.of {i j : Int} {b : Nat} (h : j ≠ 0) (hb : j.natAbs < 2 ^ b) (h0 : 0 < b) (h9 : b ≤ 9000) : CDivX i j := ⟨h, Nat.lt_of_lt_of_le (PySem.Flt.log2_lt_of h0 hb) h9⟩
theorem op_fdivX {X : Cx} : OpR X (binaryOp .FloorDiv) (rI CDivX fun i j => .int (i.fdiv j)) := opI fun i j _ _ _ _ _ hc q => floordiv_int hc.1 q (.inl (PyProof.noPylong_of_log2 hc.2))
/-- a statement that is not reached -/
theorem ps_dead {X : Cx} {st : Stmt} : PS X st (fun _ _ _ => False) := ⟨fun _ _ _ _ _ _ h => h.elim⟩
section
variable {P : Program} {w : World} {K : PySem.W.Frag} {mg : Str → Option Value} {base : Heap} {H : Hp} {Q : VK} {E : XK} {σ : L2.St} {D : Ends}
theorem w_gcd {a b : Int} (q : Q (.int ((Nat.gcd a.natAbs b.natAbs : Nat) : Int)) H) : rGcd [.int a, .int b] H Q := ⟨a, b, rfl, q⟩
theorem w_bits {te : TE} (h : te σ H fun x H1 => ∃ i, x = .int i ∧ Q (.int (Builtin.Int.intBits i : Nat)) H1) : tBits te σ H Q := h
theorem w_wmul {g : Int → Int → V} {i j : Int} {a b : Nat} (ha : i.natAbs < 2 ^ a) (hb : j.natAbs < 2 ^ b) (h0 : 0 < a) (h1 : 0 < b) (h : a + b ≤ 1000000) (q : Q (g i j) H) : rI CMulW g (.int i) (.int j) H Q := w_rI (wide_mul ha hb h0 h1 h) q
theorem w_wdiv {g : Int → Int → V} {i j : Int} {b : Nat} (h : j ≠ 0) (hb : j.natAbs < 2 ^ b) (h0 : 0 < b) (h9 : b ≤ 9000) (q : Q (g i j) H) : rI CDivX g (.int i) (.int j) H Q := w_rI (CDivX.of h hb h0 h9) q
theorem w_two {x y : V} {p : V → V → Prop} (h : p x y) : ∃ u v, [x, y] = [u, v] ∧ p u v := ⟨x, y, rfl, h⟩
theorem w_par {i j : Nat} {ta : TA} (h : ta σ H fun vs H1 => ∃ x y, vs = [x, y] ∧ D.nx ((σ.set i (some x)).set j (some y)) H1) : tPar i j ta D σ H := h
theorem w_gtup {n : Nat} {t : TGs} {a : Addr} {xs : List V} {QS : L2.St → Hp → Prop} (h : SqT K H a xs) (l : xs.length = n) (q : t xs σ H QS) : gTup K n t (.ref a) σ H QS := ⟨a, xs, rfl, h, l, q⟩
theorem w_glst {n : Nat} {t : TGs} {a : Addr} {xs : List V} {QS : L2.St → Hp → Prop} (h : SqL K H a xs) (l : xs.length = n) (q : t xs σ H QS) : gLst K n t (.ref a) σ H QS := ⟨a, xs, rfl, h, l, q⟩
theorem w_rng2 {ta : TA} {R : It → Hp → Prop} (h : ta σ H fun vs H1 => ∃ i j : Int, vs = [.int i, .int j] ∧ (-(2 ^ 62) ≤ i ∧ i < 2 ^ 62 ∧ -(2 ^ 62) ≤ j ∧ j < 2 ^ 62) ∧ R (Itr i (j - i).toNat) H1) : iRng2 ta σ H R := h
theorem w_rng2x {i j : Int} {p : Int → Int → Prop} (h0 : -4611686018427387904 ≤ i) (h1 : i < 4611686018427387904) (h2 : -4611686018427387904 ≤ j) (h3 : j < 4611686018427387904) (q : p i j) : ∃ i' j' : Int, [V.int i, V.int j] = [.int i', .int j'] ∧ (-(2 ^ 62) ≤ i' ∧ i' < 2 ^ 62 ∧ -(2 ^ 62) ≤ j' ∧ j' < 2 ^ 62) ∧ p i' j' := ⟨i, j, rfl, ⟨by omega, by omega, by omega, by omega⟩, q⟩
theorem w_gcons {t : TG} {u : TGs} {v : V} {r : List V} {QS : L2.St → Hp → Prop} (h : t v σ H fun σ' H' => u r σ' H' QS) : gCons t u (v :: r) σ H QS := ⟨v, r, rfl, h⟩
theorem w_gnil {QS : L2.St → Hp → Prop} (h : QS σ H) : gNil [] σ H QS := ⟨rfl, h⟩
end
/-! ### a range by steps -/
theorem w_rng3 {ta : TA} {R : It → Hp → Prop} {σ : L2.St} {H : Hp} (h : ta σ H fun vs H1 => ∃ (i j c : Int) (n : Nat), vs = [.int i, .int j, .int c] ∧ RgC i j c n ∧ R (Itc i c n) H1) : iRng3 ta σ H R := h
theorem rg_small : ∀ n : Fin 100, Builtin.Range.small 0 ((n.val : Nat) : Int) 2 = true ∧ Builtin.Range.rangeSize 0 ((n.val : Nat) : Int) 2 = (((n.val + 1) / 2 : Nat) : Int) := by decide +kernel
theorem rg_two {n : Nat} (h : n < 100) : RgC 0 (n : Int) 2 ((n + 1) / 2) := ⟨by decide, by decide, (rg_small ⟨n, h⟩).1, (rg_small ⟨n, h⟩).2⟩
theorem lc_rc {lo c : Int} {n : Nat} {g : TG} {tt : TT} {te : TE} {vs : List Nat} {σ : L2.St} {H : Hp} {Qd : Addr → Hp → Prop} (R : Nat → List V → Hp → Prop) (h0 : R 0 [] H) (mono : ∀ i acc H1 H2, Ext H1 H2 → R i acc H1 → R i acc H2)
    (hs : ∀ i acc D H1, i < n → H D = none → H1 D = some (.lst acc) → Ext H H1 → R i acc (del H1 D) → g (.int (lo + (i : Nat) * c)) (wipe σ vs) H1 fun σ2 H2 => wipe σ2 vs = wipe σ vs ∧ tt σ2 H2 fun b H3 =>
      if b = true then te σ2 H3 fun y H4 => ∃ acc, H4 D = some (.lst acc) ∧ acc.length < sizeLine ∧ LcP H D R (i + 1) (upd H4 D (.lst (acc ++ [y]))) else LcP H D R (i + 1) H3)
    (hd : ∀ D acc H1, H D = none → H1 D = some (.lst acc) → Ext H H1 → R n acc H1 → Qd D H1) :
    ∀ D, H D = none → ∃ W : Nat → Nat → Hp → Prop, (∃ m, W 0 m (upd H D (.lst []))) ∧ ∀ i m H, W i m H →
      ((Itc lo c n).stop i H ∧ Qd D H) ∨ ((Itc lo c n).go i H ∧ ∃ Nx : Hp → Prop, (∀ H', Nx H' → ∃ m', m' < m ∧ W (i + 1) m' H') ∧ ∀ x H', (Itc lo c n).yld i H x H' → g x (wipe σ vs) H' fun σ2 H2 => wipe σ2 vs = wipe σ vs ∧ tt σ2 H2 fun b H3 =>
        if b = true then te σ2 H3 fun y H4 => ∃ acc, H4 D = some (.lst acc) ∧ acc.length < sizeLine ∧ Nx (upd H4 D (.lst (acc ++ [y]))) else Nx H3) := fun D hD => by
  refine ⟨fun i m H' => m = n - i ∧ i ≤ n ∧ LcP H D R i H', ⟨n, by simp, Nat.zero_le _, ⟨[], upd_same, Ext.new hD, by rw [del_upd, del_new hD]; exact h0⟩⟩, ?_⟩
  rintro i m H' ⟨rfl, hi, p⟩
  by_cases hlt : i < n
  · refine .inr ⟨hlt, LcP H D R (i + 1), fun H' p' => ⟨n - (i + 1), by omega, rfl, hlt, p'⟩, fun x H' y => ?_⟩
    obtain ⟨e, y⟩ := y
    subst e y
    obtain ⟨acc, h1, e1, r1⟩ := p
    exact hs i acc D _ hlt hD h1 e1 r1
  · have e : i = n := by omega
    subst e
    obtain ⟨acc, h1, e1, r1⟩ := p
    exact .inl ⟨Nat.le_refl _, hd D acc H' hD h1 e1 (mono _ _ _ _ del_sub r1)⟩
/-! ### the last pieces of a list -/
theorem atI_mid {α : Type} {f : α → V} {pre suf : List α} {c : α} {i : Int} (h : i = (pre.length : Nat)) : atI ((pre ++ c :: suf).map f) i = some (f c) := by
  subst h
  refine atI_nat ?_
  rw [List.map_append, List.getElem?_append_right (by simp), List.length_map, Nat.sub_self]; rfl
end Kf

end
section
set_option Elab.async false
set_option linter.all false
set_option maxRecDepth 100000
set_option maxHeartbeats 4000000
local macro_rules | `(tactic| walk_at "npl") => `(tactic| first | exact Kf.npl rfl | exact Kf.npl_ints _ | exact Kf.npl_one _ _ | exact Kf.npl_refs _ | assumption)
local macro_rules | `(tactic| walk_at "nn") => `(tactic| first
  | assumption
  | (refine' Kf.Ext.non ?nne ?nnh; (case nne => assumption); (case nnh => walk_at "nn")))
local macro_rules | `(tactic| walk_at "ext") => `(tactic| first
  | assumption
  | exact Kf.Ext.refl
  | (refine' Kf.Ext.newer ?exa ?exn; (case exn => assumption); (case exa => walk_at "ext"))
  | (refine' Kf.Ext.own ?exa ?exn; (case exn => walk_at "nn"); (case exa => walk_at "ext"))
  | (refine' Kf.Ext.trans ?exa ?exb; (case exb => assumption); (case exa => walk_at "ext")))
local macro_rules | `(tactic| walk_at "pool") => `(tactic| first
  | assumption
  | (refine' Kf.PoolAt.ext ?plh ?ple; (case plh => assumption); (case ple => walk_at "ext"))
  | (refine' Kf.PoolAt.upd ?plh ?plo ?pln; (case plo => assumption); (case pln => walk_at "npl"); (case plh => walk_at "pool")))
local macro_rules | `(tactic| walk_at "lk") => `(tactic| first
  | assumption
  | exact L2.upd_same
  | (refine' Kf.upd_old ?lkn ?lkh; (case lkn => assumption); (case lkh => walk_at "lk"))
  | (refine' Kf.upd_oth ?lkn ?lkh; (case lkn => (first | assumption | (apply Ne.symm; assumption))); (case lkh => walk_at "lk"))
  | (refine' Kf.Ext.get ?lke ?lkh ?lkn; (case lke => assumption); (case lkh => walk_at "lk"); (case lkn => walk_at "npl"))
  | (refine' L2.Same.at ?lke ?lkh; (case lke => assumption); (case lkh => walk_at "lk")))
local macro_rules | `(tactic| walk_at "sq") => `(tactic| first
  | assumption
  | (refine' L2.SqL.of ?sqh; (case sqh => walk_at "lk"))
  | (refine' L2.SqT.of ?sqh; (case sqh => walk_at "lk"))
  | (refine' Kf.Ext.seqL ?sqe ?sqh ?sqn; (case sqh => assumption); (case sqe => walk_at "ext"); (case sqn => walk_at "npl"))
  | (refine' Kf.Ext.seqT ?sqe ?sqh; (case sqh => assumption); (case sqe => walk_at "ext")))
local macro_rules | `(tactic| walk_at "at") => `(tactic| first | exact L2.atI_nat (j := 0) rfl | exact L2.atI_nat (j := 1) rfl | exact L2.atI_nat (j := 2) rfl | exact L2.atI_nat (j := 3) rfl | exact L2.atI_nat (j := 4) rfl | assumption)
local macro_rules | `(tactic| walk_at "ixn") => `(tactic| first | exact Kf.ixN_nat (j := 0) rfl | exact Kf.ixN_nat (j := 1) rfl | exact Kf.ixN_nat (j := 2) rfl | exact Kf.ixN_nat (j := 3) rfl | assumption)
local macro_rules | `(tactic| walk_at "set") => `(tactic| (first | (simp only [List.set_cons_succ, List.set_cons_zero]; rfl) | rfl))
local macro_rules | `(tactic| walk_at "om") => `(tactic| first | decide | omega | (simp only [List.length_map, List.length_cons, List.length_nil] at *; omega))
local macro_rules | `(tactic| walk_at "calls") => `(tactic| first
  | (with_reducible refine' Kf.call_take ?clp ?cla ?clb ?clq; (case clp => walk_at "pool"); (case cla => walk_at "om"); (case clb => walk_at "om"); intro r H' hE h0 h1)
  | (with_reducible refine' Kf.call_pool ?cls ?cla ?clq; (case cls => walk_at "sq"); (case cla => walk_at "om"); intro p H' hE hN hP)
  | (with_reducible refine' Kf.call_turn ?cls ?clp ?cla ?clq; (case cls => walk_at "sq"); (case clp => walk_at "pool"); (case cla => walk_at "om"); intro u H' hE hP))
local macro_rules | `(tactic| walk_at "side") => `(tactic| first
  | exact Kf.cmul_fmod (by decide) (by decide)
  | exact rfl
  | decide
  | omega
  | assumption
  | (refine ⟨?_, ?_⟩ <;> decide)
  | (refine ⟨?_, ?_, ?_⟩ <;> decide)
  | (refine ⟨?_, ?_⟩ <;> omega)
  | (refine Or.inl ⟨?_, ?_⟩ <;> decide)
  | (refine Or.inr ⟨?_, ?_⟩ <;> decide)
  | (refine Or.inl ⟨?_, ?_⟩ <;> omega)
  | (refine Or.inr ⟨?_, ?_⟩ <;> omega))
local macro_rules | `(tactic| walk_at "kit") => `(tactic| first | exact Kf.isi_int_int | exact Kf.isi_int_bool | exact Kf.isi_int_str | exact Kf.isi_int_list | exact Kf.isi_int_tuple | exact Kf.isi_bool_int | exact Kf.isi_bool_bool | exact Kf.isi_bool_str | exact Kf.isi_bool_list | exact Kf.isi_bool_tuple | exact Kf.isi_str_int | exact Kf.isi_str_bool | exact Kf.isi_str_str | exact Kf.isi_str_list | exact Kf.isi_str_tuple | exact Kf.isi_non_list | exact Kf.isi_non_tuple | exact Kf.isi_list_list | exact Kf.isi_list_tuple | exact Kf.isi_tuple_list | exact Kf.isi_tuple_tuple | exact Kf.isi_dict_dict)
local macro_rules | `(tactic| walk_at "ty") => `(tactic| first
  | exact L2.TyX.base (L2.TyOf.int _)
  | exact L2.TyX.base (L2.TyOf.bl _)
  | exact L2.TyX.base (L2.TyOf.str _)
  | exact L2.TyX.base L2.TyOf.non
  | (refine' L2.TyX.base (L2.TyOf.lst ?tyh); (case tyh => walk_at "lk"))
  | (refine' L2.TyX.base (L2.TyOf.tup ?tyh); (case tyh => walk_at "lk"))
  | (refine' L2.TyX.base (L2.TyOf.dK ?tyh); (case tyh => walk_at "lk")))
local macro_rules | `(tactic| walk_at "om2") => `(tactic| first | assumption | decide | omega)
local macro_rules | `(tactic| walk_at "st") => `(tactic| with_reducible first
  | (refine Kf.w_var rfl ?_)
  | (refine Kf.w_c ?_)
  | (refine Kf.w_seq ?_)
  | (refine Kf.w_asg ?_)
  | (refine' Kf.w_gname ?sth ?_; (case sth => with_unfolding_all walk_at "set"))
  | (refine Kf.w_op ?_)
  | (refine Kf.w_un ?_)
  | (refine Kf.w_rU ?_)
  | (refine Kf.w_rI0 ?_)
  | (refine' Kf.w_rI ?sth ?_; (case sth => with_unfolding_all walk_at "side"))
  | (refine' Kf.w_rEq ?sth ?_; (case sth => with_unfolding_all rfl))
  | (refine' Kf.w_rNe ?sth ?_; (case sth => with_unfolding_all rfl))
  | (refine Kf.w_tTest ?_)
  | (refine Kf.w_tB ?_)
  | (refine Kf.w_exbl ?_)
  | (refine Kf.w_exint ?_)
  | (refine Kf.w_ifS ?_)
  | (refine Kf.w_ret ?_)
  | (refine Kf.w_retN ?_)
  | (refine Kf.w_drop ?_)
  | (refine Kf.w_and ?_)
  | (refine Kf.w_or ?_)
  | (refine Kf.w_not ?_)
  | (refine Kf.w_andV ?_)
  | (refine Kf.w_orV ?_)
  | (refine Kf.w_notV ?_)
  | (refine Kf.w_if ?_)
  | (refine Kf.w_lc ?_)
  | (refine Kf.w_for ?_)
  | (refine Kf.w_rng1 ?_)
  | (refine' Kf.w_rng1x ?sth ?stg ?_; (case sth => with_unfolding_all walk_at "om"); (case stg => with_unfolding_all walk_at "om"))
  | (refine Kf.w_ilist ?_)
  | (refine Kf.w_iseq ?_)
  | (refine Kf.w_itup ?_)
  | (refine' Kf.w_ilistx ?sth ?_; (case sth => with_unfolding_all walk_at "sq"))
  | (refine' Kf.w_itupx ?sth ?_; (case sth => with_unfolding_all walk_at "sq"))
  | (refine' Kf.w_wipe ?sth ?_; (case sth => with_unfolding_all rfl))
  | (refine Kf.w_yes ?_)
  | (refine' Kf.w_isi ?sth ?stg ?_; (case sth => with_unfolding_all walk_at "ty"); (case stg => walk_at "kit"))
  | (refine Kf.w_isN ?_)
  | (refine Kf.w_notN ?_)
  | (refine Kf.w_cb ?_)
  | (refine Kf.w_nil ?_)
  | (refine Kf.w_cons ?_)
  | (refine Kf.w_tup ?_)
  | (refine Kf.w_lst ?_)
  | (refine' Kf.w_lines ?sth ?_; (case sth => with_unfolding_all rfl))
  | (refine Kf.w_call ?_)
  | (refine Kf.w_next ?_)
  | (refine Kf.w_break ?_)
  | (refine Kf.w_cont ?_)
  | (refine Kf.w_dnewK ?_)
  | (refine Kf.w_dget ?_)
  | (refine Kf.w_sl ?_)
  | (refine Kf.w_nopart ?_)
  | (refine Kf.w_part ?_)
  | (refine Kf.w_bm ?_)
  | (refine Kf.w_bm0 ?_)
  | (refine' Kf.w_bmL ?sth ?_; (case sth => with_unfolding_all walk_at "lk"))
  | (refine' Kf.w_cat ?sth ?stg ?stf ?_; (case sth => with_unfolding_all walk_at "lk"); (case stg => with_unfolding_all walk_at "lk"); (case stf => with_unfolding_all walk_at "om"))
  | (refine' Kf.w_slL ?sth ?_; (case sth => with_unfolding_all walk_at "sq"))
  | (refine' Kf.w_inL ?sth ?_; (case sth => with_unfolding_all walk_at "sq"))
  | (refine' Kf.w_inT ?sth ?_; (case sth => with_unfolding_all walk_at "sq"))
  | (refine' Kf.w_ninL ?sth ?_; (case sth => with_unfolding_all walk_at "sq"))
  | (refine' Kf.w_ninT ?sth ?_; (case sth => with_unfolding_all walk_at "sq"))
  | (refine' Kf.w_listof ?sth ?_; (case sth => with_unfolding_all walk_at "sq"))
  | (refine' Kf.w_tupof ?sth ?_; (case sth => with_unfolding_all walk_at "sq"))
  | (refine Kf.w_listRev ?_)
  | (refine Kf.w_gsub ?_)
  | (refine' Kf.w_ixL ?sth ?stg ?_; (case sth => with_unfolding_all walk_at "sq"); (case stg => with_unfolding_all walk_at "at"))
  | (refine' Kf.w_ixT ?sth ?stg ?_; (case sth => with_unfolding_all walk_at "sq"); (case stg => with_unfolding_all walk_at "at"))
  | (refine' Kf.w_setL ?sth ?stg ?_; (case sth => with_unfolding_all walk_at "lk"); (case stg => with_unfolding_all walk_at "ixn"))
  | (refine' Kf.w_len ?sth ?_; (case sth => with_unfolding_all walk_at "sq"))
  | (refine' Kf.w_lenT ?sth ?_; (case sth => with_unfolding_all walk_at "sq"))
  | (refine Kf.w_int1 ?_)
  | (refine Kf.w_intb ?_)
  | (refine Kf.w_abs ?_)
  | (refine Kf.w_aug rfl ?_)
  | (refine Kf.w_par ?_)
  | (refine' Kf.w_gtup ?sth ?stg ?_; (case sth => with_unfolding_all walk_at "sq"); (case stg => with_unfolding_all exact rfl))
  | (refine' Kf.w_glst ?sth ?stg ?_; (case sth => with_unfolding_all walk_at "sq"); (case stg => with_unfolding_all exact rfl))
  | (refine Kf.w_rng2 ?_)
  | (refine Kf.w_rng3 ?_)
  | (refine' Kf.w_rng2x ?sth ?stg ?stf ?ste ?_; (case sth => with_unfolding_all walk_at "om"); (case stg => with_unfolding_all walk_at "om"); (case stf => with_unfolding_all walk_at "om"); (case ste => with_unfolding_all walk_at "om"))
  | (refine Kf.w_gcons ?_)
  | (refine Kf.w_gnil ?_)
  | (refine Kf.w_gcd ?_)
  | (refine Kf.w_bits ?_)
  | (refine Kf.w_two ?_)
  | (refine Kf.w_ipI ?_)
  | (refine L2.iteT ?_)
  | (refine L2.iteF ?_)
  | (refine Kf.iteNT ?_)
  | (refine Kf.iteNF ?_)
  | (refine' Kf.ite_decT ?sth ?_; (case sth => exact rfl))
  | (refine' Kf.ite_decF ?sth ?_; (case sth => with_unfolding_all (intro e; cases e; done)))
  | (refine' Kf.ite_ndecF ?sth ?_; (case sth => exact rfl))
  | (refine' Kf.ite_ndecT ?sth ?_; (case sth => with_unfolding_all (intro e; cases e; done)))
  | (refine' Kf.ite_viT ?sth ?_; (case sth => (with_unfolding_all walk_at "om2")))
  | (refine' Kf.ite_viF ?sth ?_; (case sth => (with_unfolding_all walk_at "om2")))
  | (refine' Kf.ite_nviT ?sth ?_; (case sth => (with_unfolding_all walk_at "om2")))
  | (refine' Kf.ite_nviF ?sth ?_; (case sth => (with_unfolding_all walk_at "om2")))
  | (refine' Kf.ite_decT ?sth ?_; (case sth => (with_unfolding_all walk_at "om2")))
  | (refine' Kf.ite_decF ?sth ?_; (case sth => (with_unfolding_all walk_at "om2")))
  | with_unfolding_all walk_at "calls")
local macro_rules | `(tactic| walk_at "go") => `(tactic| repeat walk_at "st")

namespace Kf
open PySem PySem.Spec PyProof.Rows L2
def topS (i : Nat) : Stmt := PySem.Challenge.pw_solvedpapers_k00_continued_fractions.main.body.getD i (.Pass ⟨0, 0, 0, 0⟩)
abbrev s__law_pool : Stmt := topS 26
abbrev N__law_pool : List Str := ["script", "k", "cell", "spare"]
abbrev P__law_pool : List Str := ["script", "k"]
theorem sc__law_pool : FnScope N__law_pool P__law_pool (defScope s__law_pool) := ⟨rfl, rfl, rfl, by decide +kernel, rfl, by decide +kernel, by decide +kernel⟩
section
variable {P : Program} {w : World} {K : PySem.W.Frag} {mg : Str → Option Value} {base : Heap}
/-- a pool is made -/
def spPool (K : PySem.W.Frag) : Sp := fun vs H Q _ => ∃ (a : Addr) (ns : List Int) (k : Int), vs = [.ref a, .int k] ∧ SqL K H a (ns.map V.int) ∧ 0 ≤ k ∧ ∀ p H', Ext H H' → H p = none → PoolAt H' (.ref p) → Q (.ref p) H'
theorem atI_ints {ns : List Int} {k : Int} (h0 : 0 ≤ k) (h1 : k < ((ns.map V.int).length : Nat)) : atI (ns.map V.int) k = some (.int (ns.getD k.toNat 0)) := by
  rw [List.length_map] at h1
  have hk : k.toNat < ns.length := by omega
  have e : k = ((k.toNat : Nat) : Int) := by omega
  rw [e]
  refine atI_nat (j := k.toNat) ?_
  rw [List.getElem?_map, List.getElem?_eq_getElem hk, Int.toNat_natCast]
  simp [hk]
theorem ok_pool (D : Df K mg "_law_pool" s__law_pool P__law_pool) (b_len : mg "len" = none) : Pr P w K mg base "_law_pool" 1 P__law_pool (spPool K) := by
  refine D.ok sc__law_pool (fun vs H Q E h => ?_) (fun f cdv A outer s H vs Q E hr h => ?_)
  · obtain ⟨a, ns, k, rfl, _⟩ := h; rfl
  obtain ⟨a, ns, k, rfl, hS, h0, q⟩ := h
  have nd := sc__law_pool.nd
  have fin : ∀ (c s : Int) (b : Bool) (p : Addr), H p = none → Q (.ref p) (upd H p (.lst [.int c, .int 0, .bl b, .int s])) := fun c s b p hp => q p _ (Ext.new hp) hp ⟨p, _, _, _, _, rfl, L2.upd_same⟩
  refine ⟨_, (pss_cons (ps_set (i := 2) nd rfl (Or.inl rfl) (pe_op op_add (pe_op op_mul pe_int (pv 1)) pe_int))
      (pss_cons (ps_set (i := 3) nd rfl (Or.inl rfl) (pe_op op_add (pe_op op_mul pe_int (pv 1)) pe_int))
      (pss_cons (ps_if (pt_cmpR op_lt (pv 1) (pe_callB (call_lenK (K := K) rfl) (by rfl) b_len PySem.boot_len (pa_cons (pv 0) pa_nil)) (nomark _)) (pss_one (ps_set (i := 2) nd rfl (Or.inl rfl) (pe_ix (ix_listK (K := K) rfl) (pv 0) (pv 1) (fun _ _ => rfl)))) pss_nil)
      (pss_cons (ps_if (pt_cmpR op_lt (pe_op op_add (pv 1) pe_int) (pe_callB (call_lenK (K := K) rfl) (by rfl) b_len PySem.boot_len (pa_cons (pv 0) pa_nil)) (nomark _)) (pss_one (ps_set (i := 3) nd rfl (Or.inl rfl) (pe_ix (ix_listK (K := K) rfl) (pv 0) (pe_op op_add (pv 1) pe_int) (fun _ _ => rfl)))) pss_nil)
      (pss_one (ps_ret (pe_lst (pa_cons (pv 2) (pa_cons pe_int (pa_cons (pe_cmpR op_ge (pv 2) (pe_op op_pow pe_int pe_int) (nomark _)) (pa_cons (pv 3) pa_nil))))))))))), ?_⟩
  refine w_start (σ := [some _, some _, none, none]) rfl ?_
  walk_at "go"
  refine ite_d (fun c1 => ?_) (fun c1 => ?_)
  · walk_at "go"
    refine w_ixL hS (atI_ints h0 c1) ?_
    walk_at "go"
    refine ite_d (fun c2 => ?_) (fun c2 => ?_)
    · walk_at "go"
      refine w_ixL hS (atI_ints (by omega) c2) ?_
      walk_at "go"
      exact fun p hp => fin _ _ _ _ hp
    · walk_at "go"
      exact fun p hp => fin _ _ _ _ hp
  · walk_at "go"
    exact fun p hp => fin _ _ _ _ hp
end
end Kf

end
section
set_option Elab.async false
set_option linter.all false
set_option maxRecDepth 100000
set_option maxHeartbeats 4000000
namespace Kf
open PySem PySem.Spec PyProof.Rows L2
abbrev s__law_take : Stmt := topS 27
abbrev N__law_take : List Str := ["pool", "size", "k", "cell", "mixed"]
abbrev P__law_take : List Str := ["pool", "size"]
theorem sc__law_take : FnScope N__law_take P__law_take (defScope s__law_take) := ⟨rfl, rfl, rfl, by decide +kernel, rfl, by decide +kernel, by decide +kernel⟩
end Kf
local macro_rules | `(tactic| walk_at "npl") => `(tactic| first | exact Kf.npl rfl | exact Kf.npl_ints _ | exact Kf.npl_one _ _ | exact Kf.npl_refs _ | assumption)
local macro_rules | `(tactic| walk_at "nn") => `(tactic| first
  | assumption
  | (refine' Kf.Ext.non ?nne ?nnh; (case nne => assumption); (case nnh => walk_at "nn")))
local macro_rules | `(tactic| walk_at "ext") => `(tactic| first
  | assumption
  | exact Kf.Ext.refl
  | (refine' Kf.Ext.newer ?exa ?exn; (case exn => assumption); (case exa => walk_at "ext"))
  | (refine' Kf.Ext.own ?exa ?exn; (case exn => walk_at "nn"); (case exa => walk_at "ext"))
  | (refine' Kf.Ext.trans ?exa ?exb; (case exb => assumption); (case exa => walk_at "ext")))
local macro_rules | `(tactic| walk_at "pool") => `(tactic| first
  | assumption
  | (refine' Kf.PoolAt.ext ?plh ?ple; (case plh => assumption); (case ple => walk_at "ext"))
  | (refine' Kf.PoolAt.upd ?plh ?plo ?pln; (case plo => assumption); (case pln => walk_at "npl"); (case plh => walk_at "pool")))
local macro_rules | `(tactic| walk_at "lk") => `(tactic| first
  | assumption
  | exact L2.upd_same
  | (refine' Kf.upd_old ?lkn ?lkh; (case lkn => assumption); (case lkh => walk_at "lk"))
  | (refine' Kf.upd_oth ?lkn ?lkh; (case lkn => (first | assumption | (apply Ne.symm; assumption))); (case lkh => walk_at "lk"))
  | (refine' Kf.Ext.get ?lke ?lkh ?lkn; (case lke => assumption); (case lkh => walk_at "lk"); (case lkn => walk_at "npl"))
  | (refine' L2.Same.at ?lke ?lkh; (case lke => assumption); (case lkh => walk_at "lk")))
local macro_rules | `(tactic| walk_at "sq") => `(tactic| first
  | assumption
  | (refine' L2.SqL.of ?sqh; (case sqh => walk_at "lk"))
  | (refine' L2.SqT.of ?sqh; (case sqh => walk_at "lk"))
  | (refine' Kf.Ext.seqL ?sqe ?sqh ?sqn; (case sqh => assumption); (case sqe => walk_at "ext"); (case sqn => walk_at "npl"))
  | (refine' Kf.Ext.seqT ?sqe ?sqh; (case sqh => assumption); (case sqe => walk_at "ext")))
local macro_rules | `(tactic| walk_at "at") => `(tactic| first | exact L2.atI_nat (j := 0) rfl | exact L2.atI_nat (j := 1) rfl | exact L2.atI_nat (j := 2) rfl | exact L2.atI_nat (j := 3) rfl | exact L2.atI_nat (j := 4) rfl | assumption)
local macro_rules | `(tactic| walk_at "ixn") => `(tactic| first | exact Kf.ixN_nat (j := 0) rfl | exact Kf.ixN_nat (j := 1) rfl | exact Kf.ixN_nat (j := 2) rfl | exact Kf.ixN_nat (j := 3) rfl | assumption)
local macro_rules | `(tactic| walk_at "set") => `(tactic| (first | (simp only [List.set_cons_succ, List.set_cons_zero]; rfl) | rfl))
local macro_rules | `(tactic| walk_at "om") => `(tactic| first | decide | omega | (simp only [List.length_map, List.length_cons, List.length_nil] at *; omega))
local macro_rules | `(tactic| walk_at "calls") => `(tactic| first
  | (with_reducible refine' Kf.call_take ?clp ?cla ?clb ?clq; (case clp => walk_at "pool"); (case cla => walk_at "om"); (case clb => walk_at "om"); intro r H' hE h0 h1)
  | (with_reducible refine' Kf.call_pool ?cls ?cla ?clq; (case cls => walk_at "sq"); (case cla => walk_at "om"); intro p H' hE hN hP)
  | (with_reducible refine' Kf.call_turn ?cls ?clp ?cla ?clq; (case cls => walk_at "sq"); (case clp => walk_at "pool"); (case cla => walk_at "om"); intro u H' hE hP))
local macro_rules | `(tactic| walk_at "side") => `(tactic| first
  | exact Kf.cmul_fmod (by decide) (by decide)
  | exact rfl
  | decide
  | omega
  | assumption
  | (refine ⟨?_, ?_⟩ <;> decide)
  | (refine ⟨?_, ?_, ?_⟩ <;> decide)
  | (refine ⟨?_, ?_⟩ <;> omega)
  | (refine Or.inl ⟨?_, ?_⟩ <;> decide)
  | (refine Or.inr ⟨?_, ?_⟩ <;> decide)
  | (refine Or.inl ⟨?_, ?_⟩ <;> omega)
  | (refine Or.inr ⟨?_, ?_⟩ <;> omega))
local macro_rules | `(tactic| walk_at "kit") => `(tactic| first | exact Kf.isi_int_int | exact Kf.isi_int_bool | exact Kf.isi_int_str | exact Kf.isi_int_list | exact Kf.isi_int_tuple | exact Kf.isi_bool_int | exact Kf.isi_bool_bool | exact Kf.isi_bool_str | exact Kf.isi_bool_list | exact Kf.isi_bool_tuple | exact Kf.isi_str_int | exact Kf.isi_str_bool | exact Kf.isi_str_str | exact Kf.isi_str_list | exact Kf.isi_str_tuple | exact Kf.isi_non_list | exact Kf.isi_non_tuple | exact Kf.isi_list_list | exact Kf.isi_list_tuple | exact Kf.isi_tuple_list | exact Kf.isi_tuple_tuple | exact Kf.isi_dict_dict)
local macro_rules | `(tactic| walk_at "ty") => `(tactic| first
  | exact L2.TyX.base (L2.TyOf.int _)
  | exact L2.TyX.base (L2.TyOf.bl _)
  | exact L2.TyX.base (L2.TyOf.str _)
  | exact L2.TyX.base L2.TyOf.non
  | (refine' L2.TyX.base (L2.TyOf.lst ?tyh); (case tyh => walk_at "lk"))
  | (refine' L2.TyX.base (L2.TyOf.tup ?tyh); (case tyh => walk_at "lk"))
  | (refine' L2.TyX.base (L2.TyOf.dK ?tyh); (case tyh => walk_at "lk")))
local macro_rules | `(tactic| walk_at "om2") => `(tactic| first | assumption | decide | omega)
local macro_rules | `(tactic| walk_at "st") => `(tactic| with_reducible first
  | (refine Kf.w_var rfl ?_)
  | (refine Kf.w_c ?_)
  | (refine Kf.w_seq ?_)
  | (refine Kf.w_asg ?_)
  | (refine' Kf.w_gname ?sth ?_; (case sth => with_unfolding_all walk_at "set"))
  | (refine Kf.w_op ?_)
  | (refine Kf.w_un ?_)
  | (refine Kf.w_rU ?_)
  | (refine Kf.w_rI0 ?_)
  | (refine' Kf.w_rI ?sth ?_; (case sth => with_unfolding_all walk_at "side"))
  | (refine' Kf.w_rEq ?sth ?_; (case sth => with_unfolding_all rfl))
  | (refine' Kf.w_rNe ?sth ?_; (case sth => with_unfolding_all rfl))
  | (refine Kf.w_tTest ?_)
  | (refine Kf.w_tB ?_)
  | (refine Kf.w_exbl ?_)
  | (refine Kf.w_exint ?_)
  | (refine Kf.w_ifS ?_)
  | (refine Kf.w_ret ?_)
  | (refine Kf.w_retN ?_)
  | (refine Kf.w_drop ?_)
  | (refine Kf.w_and ?_)
  | (refine Kf.w_or ?_)
  | (refine Kf.w_not ?_)
  | (refine Kf.w_andV ?_)
  | (refine Kf.w_orV ?_)
  | (refine Kf.w_notV ?_)
  | (refine Kf.w_if ?_)
  | (refine Kf.w_lc ?_)
  | (refine Kf.w_for ?_)
  | (refine Kf.w_rng1 ?_)
  | (refine' Kf.w_rng1x ?sth ?stg ?_; (case sth => with_unfolding_all walk_at "om"); (case stg => with_unfolding_all walk_at "om"))
  | (refine Kf.w_ilist ?_)
  | (refine Kf.w_iseq ?_)
  | (refine Kf.w_itup ?_)
  | (refine' Kf.w_ilistx ?sth ?_; (case sth => with_unfolding_all walk_at "sq"))
  | (refine' Kf.w_itupx ?sth ?_; (case sth => with_unfolding_all walk_at "sq"))
  | (refine' Kf.w_wipe ?sth ?_; (case sth => with_unfolding_all rfl))
  | (refine Kf.w_yes ?_)
  | (refine' Kf.w_isi ?sth ?stg ?_; (case sth => with_unfolding_all walk_at "ty"); (case stg => walk_at "kit"))
  | (refine Kf.w_isN ?_)
  | (refine Kf.w_notN ?_)
  | (refine Kf.w_cb ?_)
  | (refine Kf.w_nil ?_)
  | (refine Kf.w_cons ?_)
  | (refine Kf.w_tup ?_)
  | (refine Kf.w_lst ?_)
  | (refine' Kf.w_lines ?sth ?_; (case sth => with_unfolding_all rfl))
  | (refine Kf.w_call ?_)
  | (refine Kf.w_next ?_)
  | (refine Kf.w_break ?_)
  | (refine Kf.w_cont ?_)
  | (refine Kf.w_dnewK ?_)
  | (refine Kf.w_dget ?_)
  | (refine Kf.w_sl ?_)
  | (refine Kf.w_nopart ?_)
  | (refine Kf.w_part ?_)
  | (refine Kf.w_bm ?_)
  | (refine Kf.w_bm0 ?_)
  | (refine' Kf.w_bmL ?sth ?_; (case sth => with_unfolding_all walk_at "lk"))
  | (refine' Kf.w_cat ?sth ?stg ?stf ?_; (case sth => with_unfolding_all walk_at "lk"); (case stg => with_unfolding_all walk_at "lk"); (case stf => with_unfolding_all walk_at "om"))
  | (refine' Kf.w_slL ?sth ?_; (case sth => with_unfolding_all walk_at "sq"))
  | (refine' Kf.w_inL ?sth ?_; (case sth => with_unfolding_all walk_at "sq"))
  | (refine' Kf.w_inT ?sth ?_; (case sth => with_unfolding_all walk_at "sq"))
  | (refine' Kf.w_ninL ?sth ?_; (case sth => with_unfolding_all walk_at "sq"))
  | (refine' Kf.w_ninT ?sth ?_; (case sth => with_unfolding_all walk_at "sq"))
  | (refine' Kf.w_listof ?sth ?_; (case sth => with_unfolding_all walk_at "sq"))
  | (refine' Kf.w_tupof ?sth ?_; (case sth => with_unfolding_all walk_at "sq"))
  | (refine Kf.w_listRev ?_)
  | (refine Kf.w_gsub ?_)
  | (refine' Kf.w_ixL ?sth ?stg ?_; (case sth => with_unfolding_all walk_at "sq"); (case stg => with_unfolding_all walk_at "at"))
  | (refine' Kf.w_ixT ?sth ?stg ?_; (case sth => with_unfolding_all walk_at "sq"); (case stg => with_unfolding_all walk_at "at"))
  | (refine' Kf.w_setL ?sth ?stg ?_; (case sth => with_unfolding_all walk_at "lk"); (case stg => with_unfolding_all walk_at "ixn"))
  | (refine' Kf.w_len ?sth ?_; (case sth => with_unfolding_all walk_at "sq"))
  | (refine' Kf.w_lenT ?sth ?_; (case sth => with_unfolding_all walk_at "sq"))
  | (refine Kf.w_int1 ?_)
  | (refine Kf.w_intb ?_)
  | (refine Kf.w_abs ?_)
  | (refine Kf.w_aug rfl ?_)
  | (refine Kf.w_par ?_)
  | (refine' Kf.w_gtup ?sth ?stg ?_; (case sth => with_unfolding_all walk_at "sq"); (case stg => with_unfolding_all exact rfl))
  | (refine' Kf.w_glst ?sth ?stg ?_; (case sth => with_unfolding_all walk_at "sq"); (case stg => with_unfolding_all exact rfl))
  | (refine Kf.w_rng2 ?_)
  | (refine Kf.w_rng3 ?_)
  | (refine' Kf.w_rng2x ?sth ?stg ?stf ?ste ?_; (case sth => with_unfolding_all walk_at "om"); (case stg => with_unfolding_all walk_at "om"); (case stf => with_unfolding_all walk_at "om"); (case ste => with_unfolding_all walk_at "om"))
  | (refine Kf.w_gcons ?_)
  | (refine Kf.w_gnil ?_)
  | (refine Kf.w_gcd ?_)
  | (refine Kf.w_bits ?_)
  | (refine Kf.w_two ?_)
  | (refine Kf.w_ipI ?_)
  | (refine L2.iteT ?_)
  | (refine L2.iteF ?_)
  | (refine Kf.iteNT ?_)
  | (refine Kf.iteNF ?_)
  | (refine' Kf.ite_decT ?sth ?_; (case sth => exact rfl))
  | (refine' Kf.ite_decF ?sth ?_; (case sth => with_unfolding_all (intro e; cases e; done)))
  | (refine' Kf.ite_ndecF ?sth ?_; (case sth => exact rfl))
  | (refine' Kf.ite_ndecT ?sth ?_; (case sth => with_unfolding_all (intro e; cases e; done)))
  | (refine' Kf.ite_viT ?sth ?_; (case sth => (with_unfolding_all walk_at "om2")))
  | (refine' Kf.ite_viF ?sth ?_; (case sth => (with_unfolding_all walk_at "om2")))
  | (refine' Kf.ite_nviT ?sth ?_; (case sth => (with_unfolding_all walk_at "om2")))
  | (refine' Kf.ite_nviF ?sth ?_; (case sth => (with_unfolding_all walk_at "om2")))
  | (refine' Kf.ite_decT ?sth ?_; (case sth => (with_unfolding_all walk_at "om2")))
  | (refine' Kf.ite_decF ?sth ?_; (case sth => (with_unfolding_all walk_at "om2")))
  | with_unfolding_all walk_at "calls")
local macro_rules | `(tactic| walk_at "go") => `(tactic| repeat walk_at "st")

namespace Kf
open PySem PySem.Spec PyProof.Rows L2
section
variable {P : Program} {w : World} {K : PySem.W.Frag} {mg : Str → Option Value} {base : Heap}
/-- a number below n is drawn -/
def spTake (K : PySem.W.Frag) : Sp := fun vs H Q _ => ∃ (v : V) (n : Int), vs = [v, .int n] ∧ PoolAt H v ∧ 0 < n ∧ n < 1073741824 ∧ ∀ r H', Ext H H' → 0 ≤ r → r < n → Q (.int r) H'
theorem ok_take (D : Df K mg "_law_take" s__law_take P__law_take) (b_int : mg "int" = none) : Pr P w K mg base "_law_take" 1 P__law_take (spTake K) := by
  refine D.ok sc__law_take (fun vs H Q E h => ?_) (fun f cdv A outer s H vs Q E hr h => ?_)
  · obtain ⟨v, n, rfl, _⟩ := h; rfl
  obtain ⟨v, n, rfl, ⟨a, c, k, b, sp, rfl, hH⟩, n0, n1, q⟩ := h
  have nd := sc__law_take.nd
  have fin : ∀ (x c' k' : Int) (b' : Bool) (s' : Int) (H' : Hp), H' = upd H a (.lst [.int c', .int k', .bl b', .int s']) → Q (.int (x.fmod n)) H' := fun x c' k' b' s' H' e => by
    subst e
    exact q _ _ (Ext.pool hH ⟨_, _, _, _, rfl⟩ ⟨_, _, _, _, rfl⟩) (fmod_pos n0).1 (fmod_pos n0).2
  refine ⟨_, (pss_cons (ps_set (i := 2) nd rfl (Or.inl rfl) (pe_ix (ix_listK (K := K) rfl) (pv 0) pe_int (fun _ _ => rfl)))
      (pss_cons (ps_asg (pe_op op_add (pv 2) pe_int) (pg_sub (pv 0) pe_int set_list))
      (pss_cons (ps_set (i := 3) nd rfl (Or.inl rfl) (pe_ix (ix_listK (K := K) rfl) (pv 0) pe_int (fun _ _ => rfl)))
      (pss_cons (ps_if (PW.pt (pw_and (pt_val (pe_ix (ix_listK (K := K) rfl) (pv 0) pe_int (fun _ _ => rfl))) (pw_and1 (pt_cmpR op_gt (pv 3) pe_int (nomark _))))) (pss_cons (ps_asg (pe_op op_fdivN (pv 3) (pv 1)) (pg_sub (pv 0) pe_int set_list))
      (pss_one (ps_ret (pe_op op_modN (pe_callTy call_int1 (by rfl) b_int (by decide +kernel) (pa_cons (pv 3) pa_nil)) (pv 1))))) pss_nil)
      (pss_cons (ps_if (pt_val (pe_ix (ix_listK (K := K) rfl) (pv 0) pe_int (fun _ _ => rfl))) (pss_one (ps_set (i := 3) nd rfl (Or.inl rfl) (pe_ix (ix_listK (K := K) rfl) (pv 0) pe_int (fun _ _ => rfl)))) pss_nil)
      (pss_cons (ps_set (i := 4) nd rfl (Or.inl rfl) (pe_op op_modN (pe_callTy call_int1 (by rfl) b_int (by decide +kernel) (pa_cons (pe_op op_add (pe_op op_add (pv 3) (pe_op op_mul pe_int (pv 2))) pe_int) pa_nil)) pe_int))
      (pss_cons (ps_set (i := 4) nd rfl (Or.inl rfl) (pe_op op_modN (pe_callTy call_int1 (by rfl) b_int (by decide +kernel) (pa_cons (pe_op op_mul (pv 4) (pe_op op_add (pv 4) pe_int)) pa_nil)) pe_int))
      (pss_cons (ps_set (i := 4) nd rfl (Or.inl rfl) (pe_op op_modN (pe_callTy call_int1 (by rfl) b_int (by decide +kernel) (pa_cons (pe_op op_add (pe_op op_mul (pv 4) (pe_op op_add (pv 4) pe_int)) (pe_op op_mul pe_int (pv 2))) pa_nil)) pe_int))
      (pss_one (ps_ret (pe_op op_modN (pe_callTy call_int1 (by rfl) b_int (by decide +kernel) (pa_cons (pe_op op_fdivN (pv 4) pe_int) pa_nil)) (pv 1)))))))))))), ?_⟩
  refine w_start (σ := [some _, some _, none, none, none]) rfl ?_
  walk_at "go"
  refine ite_b (fun c1 => ?_) (fun c1 => ?_)
  · walk_at "go"
    refine ite_d (fun c2 => ?_) (fun c2 => ?_)
    · walk_at "go"
      rw [upd_upd]
      exact fin _ _ _ _ _ _ rfl
    · subst c1
      walk_at "go"
      exact fin _ _ _ _ _ _ rfl
  · subst c1
    walk_at "go"
    exact fin _ _ _ _ _ _ rfl
end
section
variable {P : Program} {w : World} {K : PySem.W.Frag} {mg : Str → Option Value} {base : Heap} {H : Hp} {Q : VK} {E : XK}
theorem call_take {v : V} {n : Int} (hp : PoolAt H v) (n0 : 0 < n) (n1 : n < 1073741824) (q : ∀ r H', Ext H H' → 0 ≤ r → r < n → Q (.int r) H') : spTake K ([v, .int n] ++ []) H Q E := ⟨v, n, rfl, hp, n0, n1, q⟩
theorem call_pool {a : Addr} {ns : List Int} {k : Int} (hs : SqL K H a (ns.map V.int)) (h0 : 0 ≤ k) (q : ∀ p H', Ext H H' → H p = none → PoolAt H' (.ref p) → Q (.ref p) H') : spPool K ([.ref a, .int k] ++ []) H Q E := ⟨a, ns, k, rfl, hs, h0, q⟩
/-- a pool of its own, or the given one -/
def spTurn (K : PySem.W.Frag) : Sp := fun vs H Q _ => ∃ (a : Addr) (ns : List Int) (v : V) (k : Int), vs = [.ref a, v, .int k] ∧ SqL K H a (ns.map V.int) ∧ PoolAt H v ∧ 0 ≤ k ∧ ∀ u H', Ext H H' → PoolAt H' u → Q u H'
theorem call_turn {a : Addr} {ns : List Int} {v : V} {k : Int} (hs : SqL K H a (ns.map V.int)) (hp : PoolAt H v) (h0 : 0 ≤ k) (q : ∀ u H', Ext H H' → PoolAt H' u → Q u H') : spTurn K ([.ref a, v, .int k] ++ []) H Q E := ⟨a, ns, v, k, rfl, hs, hp, h0, q⟩
end
end Kf

end
section
set_option Elab.async false
set_option linter.all false
set_option maxRecDepth 100000
set_option maxHeartbeats 4000000
local macro_rules | `(tactic| walk_at "npl") => `(tactic| first | exact Kf.npl rfl | exact Kf.npl_ints _ | exact Kf.npl_one _ _ | exact Kf.npl_refs _ | assumption)
local macro_rules | `(tactic| walk_at "nn") => `(tactic| first
  | assumption
  | (refine' Kf.Ext.non ?nne ?nnh; (case nne => assumption); (case nnh => walk_at "nn")))
local macro_rules | `(tactic| walk_at "ext") => `(tactic| first
  | assumption
  | exact Kf.Ext.refl
  | (refine' Kf.Ext.newer ?exa ?exn; (case exn => assumption); (case exa => walk_at "ext"))
  | (refine' Kf.Ext.own ?exa ?exn; (case exn => walk_at "nn"); (case exa => walk_at "ext"))
  | (refine' Kf.Ext.trans ?exa ?exb; (case exb => assumption); (case exa => walk_at "ext")))
local macro_rules | `(tactic| walk_at "pool") => `(tactic| first
  | assumption
  | (refine' Kf.PoolAt.ext ?plh ?ple; (case plh => assumption); (case ple => walk_at "ext"))
  | (refine' Kf.PoolAt.upd ?plh ?plo ?pln; (case plo => assumption); (case pln => walk_at "npl"); (case plh => walk_at "pool")))
local macro_rules | `(tactic| walk_at "lk") => `(tactic| first
  | assumption
  | exact L2.upd_same
  | (refine' Kf.upd_old ?lkn ?lkh; (case lkn => assumption); (case lkh => walk_at "lk"))
  | (refine' Kf.upd_oth ?lkn ?lkh; (case lkn => (first | assumption | (apply Ne.symm; assumption))); (case lkh => walk_at "lk"))
  | (refine' Kf.Ext.get ?lke ?lkh ?lkn; (case lke => assumption); (case lkh => walk_at "lk"); (case lkn => walk_at "npl"))
  | (refine' L2.Same.at ?lke ?lkh; (case lke => assumption); (case lkh => walk_at "lk")))
local macro_rules | `(tactic| walk_at "sq") => `(tactic| first
  | assumption
  | (refine' L2.SqL.of ?sqh; (case sqh => walk_at "lk"))
  | (refine' L2.SqT.of ?sqh; (case sqh => walk_at "lk"))
  | (refine' Kf.Ext.seqL ?sqe ?sqh ?sqn; (case sqh => assumption); (case sqe => walk_at "ext"); (case sqn => walk_at "npl"))
  | (refine' Kf.Ext.seqT ?sqe ?sqh; (case sqh => assumption); (case sqe => walk_at "ext")))
local macro_rules | `(tactic| walk_at "at") => `(tactic| first | exact L2.atI_nat (j := 0) rfl | exact L2.atI_nat (j := 1) rfl | exact L2.atI_nat (j := 2) rfl | exact L2.atI_nat (j := 3) rfl | exact L2.atI_nat (j := 4) rfl | assumption)
local macro_rules | `(tactic| walk_at "ixn") => `(tactic| first | exact Kf.ixN_nat (j := 0) rfl | exact Kf.ixN_nat (j := 1) rfl | exact Kf.ixN_nat (j := 2) rfl | exact Kf.ixN_nat (j := 3) rfl | assumption)
local macro_rules | `(tactic| walk_at "set") => `(tactic| (first | (simp only [List.set_cons_succ, List.set_cons_zero]; rfl) | rfl))
local macro_rules | `(tactic| walk_at "om") => `(tactic| first | decide | omega | (simp only [List.length_map, List.length_cons, List.length_nil] at *; omega))
local macro_rules | `(tactic| walk_at "calls") => `(tactic| first
  | (with_reducible refine' Kf.call_take ?clp ?cla ?clb ?clq; (case clp => walk_at "pool"); (case cla => walk_at "om"); (case clb => walk_at "om"); intro r H' hE h0 h1)
  | (with_reducible refine' Kf.call_pool ?cls ?cla ?clq; (case cls => walk_at "sq"); (case cla => walk_at "om"); intro p H' hE hN hP)
  | (with_reducible refine' Kf.call_turn ?cls ?clp ?cla ?clq; (case cls => walk_at "sq"); (case clp => walk_at "pool"); (case cla => walk_at "om"); intro u H' hE hP))
local macro_rules | `(tactic| walk_at "side") => `(tactic| first
  | exact Kf.cmul_fmod (by decide) (by decide)
  | exact rfl
  | decide
  | omega
  | assumption
  | (refine ⟨?_, ?_⟩ <;> decide)
  | (refine ⟨?_, ?_, ?_⟩ <;> decide)
  | (refine ⟨?_, ?_⟩ <;> omega)
  | (refine Or.inl ⟨?_, ?_⟩ <;> decide)
  | (refine Or.inr ⟨?_, ?_⟩ <;> decide)
  | (refine Or.inl ⟨?_, ?_⟩ <;> omega)
  | (refine Or.inr ⟨?_, ?_⟩ <;> omega))
local macro_rules | `(tactic| walk_at "kit") => `(tactic| first | exact Kf.isi_int_int | exact Kf.isi_int_bool | exact Kf.isi_int_str | exact Kf.isi_int_list | exact Kf.isi_int_tuple | exact Kf.isi_bool_int | exact Kf.isi_bool_bool | exact Kf.isi_bool_str | exact Kf.isi_bool_list | exact Kf.isi_bool_tuple | exact Kf.isi_str_int | exact Kf.isi_str_bool | exact Kf.isi_str_str | exact Kf.isi_str_list | exact Kf.isi_str_tuple | exact Kf.isi_non_list | exact Kf.isi_non_tuple | exact Kf.isi_list_list | exact Kf.isi_list_tuple | exact Kf.isi_tuple_list | exact Kf.isi_tuple_tuple | exact Kf.isi_dict_dict)
local macro_rules | `(tactic| walk_at "ty") => `(tactic| first
  | exact L2.TyX.base (L2.TyOf.int _)
  | exact L2.TyX.base (L2.TyOf.bl _)
  | exact L2.TyX.base (L2.TyOf.str _)
  | exact L2.TyX.base L2.TyOf.non
  | (refine' L2.TyX.base (L2.TyOf.lst ?tyh); (case tyh => walk_at "lk"))
  | (refine' L2.TyX.base (L2.TyOf.tup ?tyh); (case tyh => walk_at "lk"))
  | (refine' L2.TyX.base (L2.TyOf.dK ?tyh); (case tyh => walk_at "lk")))
local macro_rules | `(tactic| walk_at "om2") => `(tactic| first | assumption | decide | omega)
local macro_rules | `(tactic| walk_at "st") => `(tactic| with_reducible first
  | (refine Kf.w_var rfl ?_)
  | (refine Kf.w_c ?_)
  | (refine Kf.w_seq ?_)
  | (refine Kf.w_asg ?_)
  | (refine' Kf.w_gname ?sth ?_; (case sth => with_unfolding_all walk_at "set"))
  | (refine Kf.w_op ?_)
  | (refine Kf.w_un ?_)
  | (refine Kf.w_rU ?_)
  | (refine Kf.w_rI0 ?_)
  | (refine' Kf.w_rI ?sth ?_; (case sth => with_unfolding_all walk_at "side"))
  | (refine' Kf.w_rEq ?sth ?_; (case sth => with_unfolding_all rfl))
  | (refine' Kf.w_rNe ?sth ?_; (case sth => with_unfolding_all rfl))
  | (refine Kf.w_tTest ?_)
  | (refine Kf.w_tB ?_)
  | (refine Kf.w_exbl ?_)
  | (refine Kf.w_exint ?_)
  | (refine Kf.w_ifS ?_)
  | (refine Kf.w_ret ?_)
  | (refine Kf.w_retN ?_)
  | (refine Kf.w_drop ?_)
  | (refine Kf.w_and ?_)
  | (refine Kf.w_or ?_)
  | (refine Kf.w_not ?_)
  | (refine Kf.w_andV ?_)
  | (refine Kf.w_orV ?_)
  | (refine Kf.w_notV ?_)
  | (refine Kf.w_if ?_)
  | (refine Kf.w_lc ?_)
  | (refine Kf.w_for ?_)
  | (refine Kf.w_rng1 ?_)
  | (refine' Kf.w_rng1x ?sth ?stg ?_; (case sth => with_unfolding_all walk_at "om"); (case stg => with_unfolding_all walk_at "om"))
  | (refine Kf.w_ilist ?_)
  | (refine Kf.w_iseq ?_)
  | (refine Kf.w_itup ?_)
  | (refine' Kf.w_ilistx ?sth ?_; (case sth => with_unfolding_all walk_at "sq"))
  | (refine' Kf.w_itupx ?sth ?_; (case sth => with_unfolding_all walk_at "sq"))
  | (refine' Kf.w_wipe ?sth ?_; (case sth => with_unfolding_all rfl))
  | (refine Kf.w_yes ?_)
  | (refine' Kf.w_isi ?sth ?stg ?_; (case sth => with_unfolding_all walk_at "ty"); (case stg => walk_at "kit"))
  | (refine Kf.w_isN ?_)
  | (refine Kf.w_notN ?_)
  | (refine Kf.w_cb ?_)
  | (refine Kf.w_nil ?_)
  | (refine Kf.w_cons ?_)
  | (refine Kf.w_tup ?_)
  | (refine Kf.w_lst ?_)
  | (refine' Kf.w_lines ?sth ?_; (case sth => with_unfolding_all rfl))
  | (refine Kf.w_call ?_)
  | (refine Kf.w_next ?_)
  | (refine Kf.w_break ?_)
  | (refine Kf.w_cont ?_)
  | (refine Kf.w_dnewK ?_)
  | (refine Kf.w_dget ?_)
  | (refine Kf.w_sl ?_)
  | (refine Kf.w_nopart ?_)
  | (refine Kf.w_part ?_)
  | (refine Kf.w_bm ?_)
  | (refine Kf.w_bm0 ?_)
  | (refine' Kf.w_bmL ?sth ?_; (case sth => with_unfolding_all walk_at "lk"))
  | (refine' Kf.w_cat ?sth ?stg ?stf ?_; (case sth => with_unfolding_all walk_at "lk"); (case stg => with_unfolding_all walk_at "lk"); (case stf => with_unfolding_all walk_at "om"))
  | (refine' Kf.w_slL ?sth ?_; (case sth => with_unfolding_all walk_at "sq"))
  | (refine' Kf.w_inL ?sth ?_; (case sth => with_unfolding_all walk_at "sq"))
  | (refine' Kf.w_inT ?sth ?_; (case sth => with_unfolding_all walk_at "sq"))
  | (refine' Kf.w_ninL ?sth ?_; (case sth => with_unfolding_all walk_at "sq"))
  | (refine' Kf.w_ninT ?sth ?_; (case sth => with_unfolding_all walk_at "sq"))
  | (refine' Kf.w_listof ?sth ?_; (case sth => with_unfolding_all walk_at "sq"))
  | (refine' Kf.w_tupof ?sth ?_; (case sth => with_unfolding_all walk_at "sq"))
  | (refine Kf.w_listRev ?_)
  | (refine Kf.w_gsub ?_)
  | (refine' Kf.w_ixL ?sth ?stg ?_; (case sth => with_unfolding_all walk_at "sq"); (case stg => with_unfolding_all walk_at "at"))
  | (refine' Kf.w_ixT ?sth ?stg ?_; (case sth => with_unfolding_all walk_at "sq"); (case stg => with_unfolding_all walk_at "at"))
  | (refine' Kf.w_setL ?sth ?stg ?_; (case sth => with_unfolding_all walk_at "lk"); (case stg => with_unfolding_all walk_at "ixn"))
  | (refine' Kf.w_len ?sth ?_; (case sth => with_unfolding_all walk_at "sq"))
  | (refine' Kf.w_lenT ?sth ?_; (case sth => with_unfolding_all walk_at "sq"))
  | (refine Kf.w_int1 ?_)
  | (refine Kf.w_intb ?_)
  | (refine Kf.w_abs ?_)
  | (refine Kf.w_aug rfl ?_)
  | (refine Kf.w_par ?_)
  | (refine' Kf.w_gtup ?sth ?stg ?_; (case sth => with_unfolding_all walk_at "sq"); (case stg => with_unfolding_all exact rfl))
  | (refine' Kf.w_glst ?sth ?stg ?_; (case sth => with_unfolding_all walk_at "sq"); (case stg => with_unfolding_all exact rfl))
  | (refine Kf.w_rng2 ?_)
  | (refine Kf.w_rng3 ?_)
  | (refine' Kf.w_rng2x ?sth ?stg ?stf ?ste ?_; (case sth => with_unfolding_all walk_at "om"); (case stg => with_unfolding_all walk_at "om"); (case stf => with_unfolding_all walk_at "om"); (case ste => with_unfolding_all walk_at "om"))
  | (refine Kf.w_gcons ?_)
  | (refine Kf.w_gnil ?_)
  | (refine Kf.w_gcd ?_)
  | (refine Kf.w_bits ?_)
  | (refine Kf.w_two ?_)
  | (refine Kf.w_ipI ?_)
  | (refine L2.iteT ?_)
  | (refine L2.iteF ?_)
  | (refine Kf.iteNT ?_)
  | (refine Kf.iteNF ?_)
  | (refine' Kf.ite_decT ?sth ?_; (case sth => exact rfl))
  | (refine' Kf.ite_decF ?sth ?_; (case sth => with_unfolding_all (intro e; cases e; done)))
  | (refine' Kf.ite_ndecF ?sth ?_; (case sth => exact rfl))
  | (refine' Kf.ite_ndecT ?sth ?_; (case sth => with_unfolding_all (intro e; cases e; done)))
  | (refine' Kf.ite_viT ?sth ?_; (case sth => (with_unfolding_all walk_at "om2")))
  | (refine' Kf.ite_viF ?sth ?_; (case sth => (with_unfolding_all walk_at "om2")))
  | (refine' Kf.ite_nviT ?sth ?_; (case sth => (with_unfolding_all walk_at "om2")))
  | (refine' Kf.ite_nviF ?sth ?_; (case sth => (with_unfolding_all walk_at "om2")))
  | (refine' Kf.ite_decT ?sth ?_; (case sth => (with_unfolding_all walk_at "om2")))
  | (refine' Kf.ite_decF ?sth ?_; (case sth => (with_unfolding_all walk_at "om2")))
  | with_unfolding_all walk_at "calls")
local macro_rules | `(tactic| walk_at "go") => `(tactic| repeat walk_at "st")

namespace Kf
open PySem PySem.Spec PyProof.Rows L2
abbrev s__law_whole : Stmt := topS 28
abbrev N__law_whole : List Str := ["value"]
abbrev P__law_whole : List Str := ["value"]
theorem sc__law_whole : FnScope N__law_whole P__law_whole (defScope s__law_whole) := ⟨rfl, rfl, rfl, by decide +kernel, rfl, by decide +kernel, by decide +kernel⟩
/-! ### data: numbers, texts, truths, None, lists, tuples -/
mutual
inductive Dq (H : Hp) : V → PyData → Prop
  | non : Dq H .non .none
  | bl (b : Bool) : Dq H (.bl b) (.bool b)
  | int (i : Int) : Dq H (.int i) (.int i)
  | str (x : Str) : Dq H (.str x) (.str x)
  | lst {a : Addr} {xs : List V} {ds : List PyData} : H a = some (.lst xs) → ¬ Pl (.lst xs) → DqAll H xs ds → Dq H (.ref a) (.list ds)
  | tup {a : Addr} {xs : List V} {ds : List PyData} : H a = some (.tup xs) → DqAll H xs ds → Dq H (.ref a) (.tuple ds)
inductive DqAll (H : Hp) : List V → List PyData → Prop
  | nil : DqAll H [] []
  | cons {v : V} {vs : List V} {d : PyData} {ds : List PyData} : Dq H v d → DqAll H vs ds → DqAll H (v :: vs) (d :: ds)
end
mutual
theorem Dq.ext {H H' : Hp} (e : Ext H H') : ∀ {v : V} {d : PyData}, Dq H v d → Dq H' v d
  | _, _, .non => .non
  | _, _, .bl b => .bl b
  | _, _, .int i => .int i
  | _, _, .str x => .str x
  | _, _, .lst h n r => .lst (e.get h n) n (DqAll.ext e r)
  | _, _, .tup h r => .tup (e.get h (npl rfl)) (DqAll.ext e r)
theorem DqAll.ext {H H' : Hp} (e : Ext H H') : ∀ {vs : List V} {ds : List PyData}, DqAll H vs ds → DqAll H' vs ds
  | _, _, .nil => .nil
  | _, _, .cons h r => .cons (Dq.ext e h) (DqAll.ext e r)
end
mutual
theorem Dq.dp {H : Hp} {K : PySem.W.Frag} : ∀ {v : V} {d : PyData}, Dq H v d → Dp K H v d
  | _, _, .non => .non
  | _, _, .bl b => .bl b
  | _, _, .int i => .int i
  | _, _, .str x => .str x
  | _, _, .lst h _ r => .lst (SqL.of h) (DqAll.dp r)
  | _, _, .tup h r => .tup (SqT.of h) (DqAll.dp r)
theorem DqAll.dp {H : Hp} {K : PySem.W.Frag} : ∀ {vs : List V} {ds : List PyData}, DqAll H vs ds → DpAll K H vs ds
  | _, _, .nil => .nil
  | _, _, .cons h r => .cons (Dq.dp h) (DqAll.dp r)
end
theorem DqAll.len {H : Hp} : ∀ {vs : List V} {ds : List PyData}, DqAll H vs ds → vs.length = ds.length
  | _, _, .nil => rfl
  | _, _, .cons _ r => by simp [DqAll.len r]
theorem DqAll.get {H : Hp} : ∀ {vs : List V} {ds : List PyData} {i : Nat} {v : V}, DqAll H vs ds → vs[i]? = some v → ∃ d, ds[i]? = some d ∧ Dq H v d
  | _, _, _, _, .nil, h => by simp at h
  | _, _, 0, _, .cons q r, h => by
    simp at h
    subst h
    exact ⟨_, rfl, q⟩
  | _, _, i + 1, _, .cons q r, h => by
    obtain ⟨d, e, q'⟩ := DqAll.get (i := i) r (by simpa using h)
    exact ⟨d, by simpa using e, q'⟩
theorem DqAll.ints {H : Hp} : ∀ ns : List Int, DqAll H (ns.map V.int) (ns.map PyData.int)
  | [] => .nil
  | n :: r => .cons (.int n) (DqAll.ints r)
/-- few levels, no list of more than a thousand -/
def Sm : Nat → PyData → Prop
  | 0, .list _ => False
  | 0, .tuple _ => False
  | n + 1, .list ds => ds.length ≤ 1000 ∧ ∀ d ∈ ds, Sm n d
  | n + 1, .tuple ds => ds.length ≤ 1000 ∧ ∀ d ∈ ds, Sm n d
  | _, .dict _ => False
  | _, _ => True
def spWhole (K : PySem.W.Frag) : Sp := fun vs H Q _ => ∃ i : Int, vs = [.int i] ∧ Q (.bl true) H
def spAlike (n : Nat) : Sp := fun vs H Q _ => ∃ (t u : V) (d : PyData), vs = [t, u] ∧ Dq H t d ∧ Dq H u d ∧ Sm n d ∧ ∀ H', Ext H H' → Q (.bl true) H'
section
variable {P : Program} {w : World} {K : PySem.W.Frag} {mg : Str → Option Value} {base : Heap} {H : Hp} {Q : VK} {E : XK}
theorem call_whole {i : Int} (q : Q (.bl true) H) : spWhole K ([.int i] ++ []) H Q E := ⟨i, rfl, q⟩
theorem call_alike {n : Nat} {t u : V} {d : PyData} (h1 : Dq H t d) (h2 : Dq H u d) (hs : Sm n d) (q : ∀ H', Ext H H' → Q (.bl true) H') : spAlike n ([t, u] ++ []) H Q E := ⟨t, u, d, rfl, h1, h2, hs, q⟩
theorem ok_whole (D : Df K mg "_law_whole" s__law_whole P__law_whole) (b_isinstance : mg "isinstance" = none) (b_int : mg "int" = none) (b_bool : mg "bool" = none) : Pr P w K mg base "_law_whole" 1 P__law_whole (spWhole K) := by
  refine D.ok sc__law_whole (fun vs H Q E h => ?_) (fun f cdv A outer s H vs Q E hr h => ?_)
  · obtain ⟨i, rfl, _⟩ := h; rfl
  obtain ⟨i, rfl, q⟩ := h
  have nd := sc__law_whole.nd
  refine ⟨_, (pss_one (ps_ret (pe_and (pe_callB (call_isiK1 (K := K) rfl) (by rfl) b_isinstance (by decide +kernel) (pa_cons (pv 0) (pa_cons (pe_bltn (v := .ty "int") (by rfl) b_int (by decide +kernel) rfl) pa_nil))) (pe_one (pe_not (pe_callB (call_isiK1 (K := K) rfl) (by rfl) b_isinstance (by decide +kernel) (pa_cons (pv 0) (pa_cons (pe_bltn (v := .ty "bool") (by rfl) b_bool (by decide +kernel) rfl) pa_nil)))))))), ?_⟩
  refine w_start (σ := [some _]) rfl ?_
  walk_at "go"
  exact q
theorem Df.never {x : Str} {st : Stmt} {ps : List Str} (D : Df K mg x st ps) (sp : Sp) (h : ∀ vs H Q E, ¬ sp vs H Q E) : Pr P w K mg base x 0 ps sp := by
  obtain ⟨f, fd, F, b, g⟩ := D.ex
  obtain ⟨oc, od, kV, doc, pm, an, cdv, ct, osl, e, lk, hcd⟩ := F.ex
  exact ⟨f, fd, ⟨fun vs H Q E q => absurd q (h _ _ _ _), fun A outer s H args us vs Q E _ _ _ _ q => absurd q (h _ _ _ _)⟩, b, F.kp, g, oc, od, osl, lk⟩
end
abbrev s__law_alike : Stmt := topS 30
abbrev N__law_alike : List Str := ["told", "due", "k"]
abbrev P__law_alike : List Str := ["told", "due"]
theorem sc__law_alike : FnScope N__law_alike P__law_alike (defScope s__law_alike) := ⟨rfl, rfl, rfl, by decide +kernel, rfl, by decide +kernel, by decide +kernel⟩
theorem neB {a : Bool} : (!decide (V.bl a = V.bl a)) = false := by simp
section
variable {P : Program} {w : World} {K : PySem.W.Frag} {mg : Str → Option Value} {base : Heap} {H : Hp} {Q : VK} {E : XK}
theorem ok_alike_step {n m : Nat} (D : Df K mg "_law_alike" s__law_alike P__law_alike) (b_isinstance : mg "isinstance" = none) (b_int : mg "int" = none) (b_bool : mg "bool" = none) (b_list : mg "list" = none) (b_tuple : mg "tuple" = none) (b_str : mg "str" = none) (b_len : mg "len" = none) (b_range : mg "range" = none)
    (p__law_whole : Pr P w K mg base "_law_whole" 1 P__law_whole (spWhole K)) (sp : Sp) (p__law_alike : Pr P w K mg base "_law_alike" m P__law_alike sp) (hm : m ≤ n + 1) (hsp : ∀ k vs H Q E, n = k + 1 → spAlike k vs H Q E → sp vs H Q E) : Pr P w K mg base "_law_alike" (n + 2) P__law_alike (spAlike n) := by
  refine D.ok sc__law_alike (fun vs H Q E h => ?_) (fun f cdv A outer s H vs Q E hr h => ?_)
  · obtain ⟨t, u, d, rfl, _⟩ := h; rfl
  obtain ⟨t, u, d, rfl, h1, h2, hs, q⟩ := h
  have nd := sc__law_alike.nd
  have hr1 : Room 1 _ := hr.mono (j := 1) (by omega)
  have hrm := hr.mono hm
  refine ⟨_, (pss_cons (ps_if (PW.pt (pw_or (pt_val (pe_callB (call_isiK1 (K := K) rfl) (by rfl) b_isinstance (by decide +kernel) (pa_cons (pv 1) (pa_cons (pe_bltn (v := .ty "list") (by rfl) b_list (by decide +kernel) rfl) pa_nil)))) (pw_or1 (pt_val (pe_callB (call_isiK1 (K := K) rfl) (by rfl) b_isinstance (by decide +kernel) (pa_cons (pv 1) (pa_cons (pe_bltn (v := .ty "tuple") (by rfl) b_tuple (by decide +kernel) rfl) pa_nil))))))) (pss_cons (ps_if (PW.pt (pw_or (pt_cmpR op_ne (pe_callB (call_isiK1 (K := K) rfl) (by rfl) b_isinstance (by decide +kernel) (pa_cons (pv 0) (pa_cons (pe_bltn (v := .ty "list") (by rfl) b_list (by decide +kernel) rfl) pa_nil))) (pe_callB (call_isiK1 (K := K) rfl) (by rfl) b_isinstance (by decide +kernel) (pa_cons (pv 1) (pa_cons (pe_bltn (v := .ty "list") (by rfl) b_list (by decide +kernel) rfl) pa_nil))) (nomark _)) (pw_or1 (pt_cmpR op_ne (pe_callB (call_isiK1 (K := K) rfl) (by rfl) b_isinstance (by decide +kernel) (pa_cons (pv 0) (pa_cons (pe_bltn (v := .ty "tuple") (by rfl) b_tuple (by decide +kernel) rfl) pa_nil))) (pe_callB (call_isiK1 (K := K) rfl) (by rfl) b_isinstance (by decide +kernel) (pa_cons (pv 1) (pa_cons (pe_bltn (v := .ty "tuple") (by rfl) b_tuple (by decide +kernel) rfl) pa_nil))) (nomark _))))) (pss_one (ps_ret pe_bl)) pss_nil)
      (pss_cons (ps_if (pt_cmpR op_ne (pe_callB (call_lenK (K := K) rfl) (by rfl) b_len PySem.boot_len (pa_cons (pv 0) pa_nil)) (pe_callB (call_lenK (K := K) rfl) (by rfl) b_len PySem.boot_len (pa_cons (pv 1) pa_nil)) (nomark _)) (pss_one (ps_ret pe_bl)) pss_nil)
      (pss_one (ps_ret (pe_cmpR op_eq (pe_callB (call_lenK (K := K) rfl) (by rfl) b_len PySem.boot_len (pa_cons (pe_lc (own := [("k", 2)]) rfl nd (pi_range1 (by rfl) b_range (pa_cons (pe_callB (call_lenK (K := K) rfl) (by rfl) b_len PySem.boot_len (pa_cons (pv 1) pa_nil)) pa_nil)) (blkOk_by (N := N__law_alike) (sc := defScope s__law_alike) (by decide +kernel)) (fun _ _ _ _ _ => pg_name (i := 2) nd rfl (Or.inl rfl)) (fun _ _ _ _ _ => pts_one (pt_not (pt_val (pe_callP p__law_alike hrm (pa_cons (pe_ix (ix_seqK (K := K) rfl) (pv 0) (pv 2) (fun _ _ => rfl)) (pa_cons (pe_ix (ix_seqK (K := K) rfl) (pv 1) (pv 2) (fun _ _ => rfl)) pa_nil)) (Nat.le_refl _))))) (fun _ _ _ _ _ => (pv 2))) pa_nil)) pe_int (nomark _)))))) pss_nil)
      (pss_cons (ps_if (pt_cmp (pc_isN (pv 1))) (pss_one (ps_ret (pe_cmp (pc_isN (pv 0))))) pss_nil)
      (pss_cons (ps_if (pt_val (pe_callB (call_isiK1 (K := K) rfl) (by rfl) b_isinstance (by decide +kernel) (pa_cons (pv 1) (pa_cons (pe_bltn (v := .ty "bool") (by rfl) b_bool (by decide +kernel) rfl) pa_nil)))) (pss_one (ps_ret (pe_and (pe_callB (call_isiK1 (K := K) rfl) (by rfl) b_isinstance (by decide +kernel) (pa_cons (pv 0) (pa_cons (pe_bltn (v := .ty "bool") (by rfl) b_bool (by decide +kernel) rfl) pa_nil))) (pe_one (pe_cmpR op_eq (pv 0) (pv 1) (nomark _)))))) pss_nil)
      (pss_cons (ps_if (pt_val (pe_callB (call_isiK1 (K := K) rfl) (by rfl) b_isinstance (by decide +kernel) (pa_cons (pv 1) (pa_cons (pe_bltn (v := .ty "str") (by rfl) b_str (by decide +kernel) rfl) pa_nil)))) (pss_one (ps_ret (pe_and (pe_callB (call_isiK1 (K := K) rfl) (by rfl) b_isinstance (by decide +kernel) (pa_cons (pv 0) (pa_cons (pe_bltn (v := .ty "str") (by rfl) b_str (by decide +kernel) rfl) pa_nil))) (pe_one (pe_cmpR op_eq (pv 0) (pv 1) (nomark _)))))) pss_nil)
      (pss_one (ps_ret (pe_and (pe_callP p__law_whole hr1 (pa_cons (pv 0) pa_nil) (Nat.le_refl _)) (pe_one (pe_cmpR op_eq (pv 0) (pv 1) (nomark _)))))))))), ?_⟩
  cases h2 with
  | non =>
    cases h1
    refine w_start (σ := [some _, some _, none]) rfl ?_
    walk_at "go"
    exact q _ Ext.refl
  | bl b =>
    cases h1
    refine w_start (σ := [some _, some _, none]) rfl ?_
    walk_at "go"
    rw [decide_eq_true rfl]
    exact q _ Ext.refl
  | int i =>
    cases h1
    refine w_start (σ := [some _, some _, none]) rfl ?_
    walk_at "go"
    refine call_whole ?_
    walk_at "go"
    rw [decide_eq_true rfl]
    exact q _ Ext.refl
  | str x =>
    cases h1
    refine w_start (σ := [some _, some _, none]) rfl ?_
    walk_at "go"
    rw [decide_eq_true rfl]
    exact q _ Ext.refl
  | @lst b ys ds hb nb rb =>
    cases h1 with
    | @lst a xs _ ha na ra =>
      cases n with
      | zero => exact hs.elim
      | succ n =>
        obtain ⟨hl, hs⟩ := hs
        have e1 := ra.len
        have e2 := rb.len
        refine w_start (σ := [some _, some _, none]) rfl ?_
        walk_at "go"
        refine lc_r (R := fun _ acc _ => acc = []) rfl (fun _ _ _ _ _ h => h) ?_ ?_
        · rintro i acc D' H1 hi hD hacc hE rfl
          have hia : i < xs.length := by omega
          have hib : i < ys.length := by omega
          obtain ⟨d, hd, q1⟩ := ra.get (List.getElem?_eq_getElem hia)
          obtain ⟨d', hd', q2⟩ := rb.get (List.getElem?_eq_getElem hib)
          rw [hd] at hd'
          cases hd'
          walk_at "go"
          simp only [Int.zero_add]
          refine .inl ⟨_, _, _, _, rfl, rfl, SqL.of (hE.get ha na), atI_nat (j := i) (List.getElem?_eq_getElem hia), ?_⟩
          walk_at "go"
          refine .inl ⟨_, _, _, _, rfl, rfl, SqL.of (hE.get hb nb), atI_nat (j := i) (List.getElem?_eq_getElem hib), ?_⟩
          walk_at "go"
          refine hsp n _ _ _ _ rfl (call_alike (q1.ext hE) (q2.ext hE) (hs d (List.mem_of_getElem? hd)) fun H' hE' => ?_)
          walk_at "go"
          exact LcP.skip hacc npl_nil hE hE' rfl
        · rintro D' acc H1 hD hacc hE rfl
          walk_at "go"
          exact q _ hE
  | @tup b ys ds hb rb =>
    cases h1 with
    | @tup a xs _ ha ra =>
      cases n with
      | zero => exact hs.elim
      | succ n =>
        obtain ⟨hl, hs⟩ := hs
        have e1 := ra.len
        have e2 := rb.len
        refine w_start (σ := [some _, some _, none]) rfl ?_
        walk_at "go"
        refine lc_r (R := fun _ acc _ => acc = []) rfl (fun _ _ _ _ _ h => h) ?_ ?_
        · rintro i acc D' H1 hi hD hacc hE rfl
          have hia : i < xs.length := by omega
          have hib : i < ys.length := by omega
          obtain ⟨d, hd, q1⟩ := ra.get (List.getElem?_eq_getElem hia)
          obtain ⟨d', hd', q2⟩ := rb.get (List.getElem?_eq_getElem hib)
          rw [hd] at hd'
          cases hd'
          walk_at "go"
          simp only [Int.zero_add]
          refine .inr (.inl ⟨_, _, _, _, rfl, rfl, SqT.of (hE.get ha (npl rfl)), atI_nat (j := i) (List.getElem?_eq_getElem hia), ?_⟩)
          walk_at "go"
          refine .inr (.inl ⟨_, _, _, _, rfl, rfl, SqT.of (hE.get hb (npl rfl)), atI_nat (j := i) (List.getElem?_eq_getElem hib), ?_⟩)
          walk_at "go"
          refine hsp n _ _ _ _ rfl (call_alike (q1.ext hE) (q2.ext hE) (hs d (List.mem_of_getElem? hd)) fun H' hE' => ?_)
          walk_at "go"
          exact LcP.skip hacc npl_nil hE hE' rfl
        · rintro D' acc H1 hD hacc hE rfl
          walk_at "go"
          exact q _ hE
theorem ok_alike (D : Df K mg "_law_alike" s__law_alike P__law_alike) (b_isinstance : mg "isinstance" = none) (b_int : mg "int" = none) (b_bool : mg "bool" = none) (b_list : mg "list" = none) (b_tuple : mg "tuple" = none) (b_str : mg "str" = none) (b_len : mg "len" = none) (b_range : mg "range" = none)
    (p__law_whole : Pr P w K mg base "_law_whole" 1 P__law_whole (spWhole K)) : ∀ n : Nat, Pr P w K mg base "_law_alike" (n + 2) P__law_alike (spAlike n)
  | 0 => ok_alike_step D b_isinstance b_int b_bool b_list b_tuple b_str b_len b_range p__law_whole (fun _ _ _ _ => False) (D.never _ fun _ _ _ _ h => h) (by omega) (fun k vs H Q E e _ => by omega)
  | n + 1 => ok_alike_step D b_isinstance b_int b_bool b_list b_tuple b_str b_len b_range p__law_whole _ (ok_alike D b_isinstance b_int b_bool b_list b_tuple b_str b_len b_range p__law_whole n) (by omega) (fun k vs H Q E e h => by
    have e' : n = k := by omega
    subst e'
    exact h)
end
end Kf

end
section
set_option Elab.async false
set_option linter.all false
set_option maxRecDepth 100000
set_option maxHeartbeats 4000000
namespace Kf
open PySem PySem.Spec PyProof.Rows L2
theorem npl_nobl {xs : List V} (h : ∀ x ∈ xs, ∀ b, x ≠ .bl b) : ¬ Pl (.lst xs) := by
  rintro ⟨c, k, b, s, e⟩
  have e := HO.lst.inj e
  subst e
  exact h (.bl b) (by simp) b rfl
/-! ### lists of data -/
def isSq : PyData → Prop
  | .list _ => True
  | .tuple _ => True
  | _ => False
theorem DqAll.nobl {H : Hp} : ∀ {vs : List V} {ds : List PyData}, DqAll H vs ds → (∀ d ∈ ds, isSq d) → ∀ x ∈ vs, ∀ b, x ≠ .bl b
  | _, _, .nil, _, x, hx, b, e => by cases hx
  | _, _, .cons h t, hd, x, hx, b, e => by
    rcases List.mem_cons.mp hx with z | z
    · subst z e
      cases h
      exact hd _ List.mem_cons_self
    · exact DqAll.nobl t (fun d hd' => hd d (List.mem_cons_of_mem _ hd')) x z b e
theorem DqAll.npl {H : Hp} {vs : List V} {ds : List PyData} (h : DqAll H vs ds) (hd : ∀ d ∈ ds, isSq d) : ¬ Pl (.lst vs) := npl_nobl (h.nobl hd)
theorem DqAll.snoc {H : Hp} {v : V} {d : PyData} (q : Dq H v d) : ∀ {vs : List V} {ds : List PyData}, DqAll H vs ds → DqAll H (vs ++ [v]) (ds ++ [d])
  | _, _, .nil => .cons q .nil
  | _, _, .cons h t => .cons h (DqAll.snoc q t)
theorem DqAll.append {H : Hp} {ws : List V} {es : List PyData} (q : DqAll H ws es) : ∀ {vs : List V} {ds : List PyData}, DqAll H vs ds → DqAll H (vs ++ ws) (ds ++ es)
  | _, _, .nil => q
  | _, _, .cons h t => .cons h (DqAll.append q t)
theorem DqAll.drop {H : Hp} : ∀ {vs : List V} {ds : List PyData} (n : Nat), DqAll H vs ds → DqAll H (vs.drop n) (ds.drop n)
  | _, _, 0, h => h
  | _, _, _ + 1, .nil => .nil
  | _, _, n + 1, .cons _ t => DqAll.drop n t
theorem DqAll.take {H : Hp} : ∀ {vs : List V} {ds : List PyData} (n : Nat), DqAll H vs ds → DqAll H (vs.take n) (ds.take n)
  | _, _, 0, _ => .nil
  | _, _, _ + 1, .nil => .nil
  | _, _, n + 1, .cons h t => .cons h (DqAll.take n t)
theorem Dq.ls {H : Hp} {v : V} {ds : List PyData} (h : Dq H v (.list ds)) : ∃ a vs, v = .ref a ∧ H a = some (.lst vs) ∧ ¬ Pl (.lst vs) ∧ DqAll H vs ds := by
  cases h with
  | lst h n r => exact ⟨_, _, rfl, h, n, r⟩
abbrev lsD (r : List Int) : PyData := .list (r.map .int)
abbrev tpD (c : List Int) : PyData := .tuple (c.map .int)
theorem sq_ls (rs : List (List Int)) : ∀ d ∈ rs.map lsD, isSq d := fun d hd => by
  obtain ⟨r, _, e⟩ := List.mem_map.mp hd
  subst e; trivial
theorem sq_tp (rs : List (List Int)) : ∀ d ∈ rs.map tpD, isSq d := fun d hd => by
  obtain ⟨r, _, e⟩ := List.mem_map.mp hd
  subst e; trivial
theorem map_at {α : Type} {f : α → PyData} {l : List α} {i : Nat} {d : PyData} (h : (l.map f)[i]? = some d) : ∃ a, l[i]? = some a ∧ d = f a := by
  rw [List.getElem?_map] at h
  cases e : l[i]? with
  | none => rw [e] at h; cases h
  | some a => rw [e] at h; exact ⟨a, rfl, (Option.some.inj h).symm⟩
theorem DqAll.rev {H : Hp} : ∀ {vs : List V} {ds : List PyData}, DqAll H vs ds → DqAll H vs.reverse ds.reverse
  | _, _, .nil => .nil
  | _, _, .cons h t => by rw [List.reverse_cons, List.reverse_cons]; exact DqAll.append (.cons h .nil) (DqAll.rev t)
theorem DqAll.el {H : Hp} {vs : List V} {ds : List PyData} {i : Nat} {d : PyData} (h : DqAll H vs ds) (e : ds[i]? = some d) : ∃ v, vs[i]? = some v ∧ Dq H v d := by
  have hi : i < vs.length := by rw [h.len]; exact (List.getElem?_eq_some_iff.mp e).1
  obtain ⟨d', e', q⟩ := h.get (List.getElem?_eq_getElem hi)
  rw [e] at e'
  cases e'
  exact ⟨_, List.getElem?_eq_getElem hi, q⟩
/-- a list of its own at a, all under it beside it -/
def Own (H : Hp) (a : Addr) (ds : List PyData) : Prop := ∃ vs, H a = some (.lst vs) ∧ DqAll (del H a) vs ds
theorem Own.ext {H H' : Hp} {a : Addr} {ds : List PyData} (o : Own H a ds) (hd : ∀ d ∈ ds, isSq d) (e : Ext H H') : Own H' a ds := by
  obtain ⟨vs, h, r⟩ := o
  exact ⟨vs, e.get h (r.npl hd), r.ext (Ext.del e)⟩
theorem Own.nil {H : Hp} {p : Addr} : Own (upd H p (.lst [])) p [] := ⟨[], upd_same, .nil⟩
theorem Own.push {H : Hp} {a : Addr} {vs : List V} {ds : List PyData} {v : V} {d : PyData} (r : DqAll (del H a) vs ds) (q : Dq (del H a) v d) : Own (upd H a (.lst (vs ++ [v]))) a (ds ++ [d]) := ⟨_, upd_same, by rw [del_upd]; exact r.snoc q⟩
theorem Own.dq {H : Hp} {a : Addr} {ds : List PyData} (o : Own H a ds) (hd : ∀ d ∈ ds, isSq d) : Dq H (.ref a) (.list ds) := by
  obtain ⟨vs, h, r⟩ := o
  exact .lst h (r.npl hd) (r.ext del_sub)
theorem small_len {vs : List V} {n : Nat} (h : vs.length = n) (l : n ≤ 1000) : vs.length < sizeLine := small1000 (by omega)
end Kf

end
section
set_option maxRecDepth 100000
namespace R0
/-- p / q in lowest terms -/
theorem low_num {p q : Int} (h0 : 0 < q) (hc : Int.gcd p q = 1) : (Rat.divInt p q).num = p := by
  rw [Rat.num_divInt, Int.sign_eq_one_of_pos h0, Int.gcd_comm, hc]; simp
theorem low_den {p q : Int} (h0 : 0 < q) (hc : Int.gcd p q = 1) : ((Rat.divInt p q).den : Int) = q := by
  rw [Rat.den_divInt, if_neg (by omega), Int.gcd_comm, hc, Nat.div_one]; omega
theorem gcd_one {p q u v : Int} (h : p * u + q * v = 1 ∨ p * u + q * v = -1) : Int.gcd p q = 1 := by
  have h1 : ((Int.gcd p q : Nat) : Int) ∣ p * u + q * v := Int.dvd_add (Int.dvd_mul_of_dvd_left (Int.gcd_dvd_left _ _)) (Int.dvd_mul_of_dvd_left (Int.gcd_dvd_right _ _))
  have h2 : ((Int.gcd p q : Nat) : Int) ∣ 1 := by
    rcases h with h | h
    · rw [h] at h1; exact h1
    · rw [h] at h1; exact (Int.dvd_neg.mp h1)
  have h3 := Int.natAbs_dvd_natAbs.mpr h2
  simpa using h3
/-- numbers of less than n bits -/
def Bd (n : Nat) (r : Rat) : Prop := r.num.natAbs < 2 ^ n ∧ r.den < 2 ^ n
theorem Bd.up {n m : Nat} {r : Rat} (h : Bd n r) (l : n ≤ m) : Bd m r := ⟨Nat.lt_of_lt_of_le h.1 (Nat.pow_le_pow_right (by decide) l), Nat.lt_of_lt_of_le h.2 (Nat.pow_le_pow_right (by decide) l)⟩
theorem Bd.div {n : Nat} {p q : Int} (hp : p.natAbs < 2 ^ n) (hq : q.natAbs < 2 ^ n) (h0 : q ≠ 0) : Bd n (Rat.divInt p q) := by
  constructor
  · rw [Rat.num_divInt, Int.natAbs_ediv_of_dvd (Int.dvd_mul_of_dvd_right (Int.gcd_dvd_right _ _)), Int.natAbs_mul, Int.natAbs_sign_of_ne_zero h0, Nat.one_mul]
    exact Nat.lt_of_le_of_lt (Nat.div_le_self _ _) hp
  · rw [Rat.den_divInt, if_neg h0]
    exact Nat.lt_of_le_of_lt (Nat.div_le_self _ _) hq
theorem den_ne (a : Rat) : ((a.den : Int) : Rat) ≠ 0 := by
  have := a.den_nz; intro e; exact this (by exact_mod_cast e)
theorem at_div (a : Rat) : ((a.num : Int) : Rat) / ((a.den : Int) : Rat) = a := by
  have ha := Rat.num_divInt_den a
  rw [Rat.divInt_eq_div] at ha
  exact ha
theorem num_ne {a : Rat} (h : a ≠ 0) : ((a.num : Int) : Rat) ≠ 0 := by
  intro e
  have := at_div a
  rw [e] at this
  exact h (by rw [← this]; grind)
theorem add_div (a b : Rat) : Rat.divInt (a.num * b.den + b.num * a.den) (a.den * b.den) = a + b := by
  rw [Rat.divInt_eq_div, Rat.intCast_add, Rat.intCast_mul, Rat.intCast_mul, Rat.intCast_mul]
  have ha := at_div a; have hb := at_div b; have na := den_ne a; have nb := den_ne b
  generalize ((a.num : Int) : Rat) = p at *
  generalize ((b.num : Int) : Rat) = q at *
  generalize ((a.den : Int) : Rat) = s at *
  generalize ((b.den : Int) : Rat) = t at *
  subst ha hb
  grind
theorem sub_div (a b : Rat) : Rat.divInt (a.num * b.den - b.num * a.den) (a.den * b.den) = a - b := by
  rw [Rat.divInt_eq_div, Rat.intCast_sub, Rat.intCast_mul, Rat.intCast_mul, Rat.intCast_mul]
  have ha := at_div a; have hb := at_div b; have na := den_ne a; have nb := den_ne b
  generalize ((a.num : Int) : Rat) = p at *
  generalize ((b.num : Int) : Rat) = q at *
  generalize ((a.den : Int) : Rat) = s at *
  generalize ((b.den : Int) : Rat) = t at *
  subst ha hb
  grind
theorem mul_div (a b : Rat) : Rat.divInt (a.num * b.num) (a.den * b.den) = a * b := by
  rw [Rat.divInt_eq_div, Rat.intCast_mul, Rat.intCast_mul]
  have ha := at_div a; have hb := at_div b; have na := den_ne a; have nb := den_ne b
  generalize ((a.num : Int) : Rat) = p at *
  generalize ((b.num : Int) : Rat) = q at *
  generalize ((a.den : Int) : Rat) = s at *
  generalize ((b.den : Int) : Rat) = t at *
  subst ha hb
  grind
theorem over_div {a b : Rat} (h : b ≠ 0) : Rat.divInt (a.num * b.den) (a.den * b.num) = a / b := by
  rw [Rat.divInt_eq_div, Rat.intCast_mul, Rat.intCast_mul]
  have ha := at_div a; have hb := at_div b; have na := den_ne a; have nb := den_ne b; have nn := num_ne h
  generalize ((a.num : Int) : Rat) = p at *
  generalize ((b.num : Int) : Rat) = q at *
  generalize ((a.den : Int) : Rat) = s at *
  generalize ((b.den : Int) : Rat) = t at *
  subst ha hb
  grind
/-! ### what the two ends of the division give -/
theorem ratio_pos {p q : Int} (h : 0 < q) : (Rat.divInt p q).num = p.fdiv (Nat.gcd p.natAbs q.natAbs : Nat) ∧ ((Rat.divInt p q).den : Int) = q.fdiv (Nat.gcd p.natAbs q.natAbs : Nat) := by
  have e : Nat.gcd p.natAbs q.natAbs = Int.gcd q p := by rw [Int.gcd_comm]; rfl
  rw [e, Int.fdiv_eq_ediv_of_nonneg _ (by omega), Int.fdiv_eq_ediv_of_nonneg _ (by omega), Rat.num_divInt, Rat.den_divInt, if_neg (by omega), Int.sign_eq_one_of_pos h, Int.one_mul]
  refine ⟨rfl, ?_⟩
  rw [Int.natCast_ediv, Int.natAbs_of_nonneg (by omega)]
theorem ratio_neg {p q : Int} (h : q < 0) : (Rat.divInt p q).num = p.fdiv (-(Nat.gcd p.natAbs q.natAbs : Nat)) ∧ ((Rat.divInt p q).den : Int) = q.fdiv (-(Nat.gcd p.natAbs q.natAbs : Nat)) := by
  have e : Rat.divInt p q = Rat.divInt (-p) (-q) := by
    rw [Rat.divInt_eq_div, Rat.divInt_eq_div, Rat.intCast_neg, Rat.intCast_neg]
    have : ((q : Int) : Rat) ≠ 0 := by intro z; have z : q = 0 := by exact_mod_cast z
                                       omega
    grind
  have h2 := ratio_pos (p := -p) (q := -q) (by omega)
  rw [← e, Int.natAbs_neg, Int.natAbs_neg] at h2
  have k : ∀ x g : Int, (-x).fdiv g = x.fdiv (-g) := fun x g => by
    have := Int.neg_fdiv_neg x (-g)
    rw [Int.neg_neg] at this
    exact this
  rw [k, k] at h2
  exact h2
theorem gcd_bits {p q : Int} {n : Nat} (hq : q.natAbs < 2 ^ n) (h0 : q ≠ 0) : Nat.gcd p.natAbs q.natAbs < 2 ^ n ∧ 0 < Nat.gcd p.natAbs q.natAbs := by
  have h : 0 < q.natAbs := by omega
  exact ⟨Nat.lt_of_le_of_lt (Nat.gcd_le_right _ h) hq, Nat.gcd_pos_of_pos_right _ h⟩
/-! ### tails -/
/-- the tail's top and bottom -/
def tt : List Int → Int × Int
  | [] => (1, 0)
  | a :: l => (a * (tt l).1 + (tt l).2, (tt l).1)
def Row (l : List Int) : Prop := ∀ a ∈ l, 1 ≤ a ∧ a ≤ 1000000
theorem tt_pos : ∀ {l : List Int}, Row l → 1 ≤ (tt l).1 ∧ 0 ≤ (tt l).2
  | [], _ => ⟨by decide, by decide⟩
  | a :: l, h => by
    obtain ⟨h1, h2⟩ := tt_pos (l := l) fun x hx => h x (List.mem_cons_of_mem _ hx)
    obtain ⟨h3, h4⟩ := h a List.mem_cons_self
    refine ⟨?_, by show 0 ≤ (tt l).1; omega⟩
    show 1 ≤ a * (tt l).1 + (tt l).2
    have : 1 * 1 ≤ a * (tt l).1 := Int.mul_le_mul h3 h1 (by omega) (by omega)
    omega
theorem tt_gcd : ∀ l : List Int, Int.gcd (tt l).1 (tt l).2 = 1
  | [] => by decide
  | a :: l => by
    show Int.gcd (a * (tt l).1 + (tt l).2) (tt l).1 = 1
    have h := tt_gcd l
    rw [Int.gcd_comm, Int.add_comm, Int.mul_comm, Int.gcd_add_mul_left_right]
    exact h
def Small (l : List Int) : Prop := ∀ a ∈ l, a.natAbs ≤ 1000000
theorem tt_bits : ∀ {l : List Int}, Small l → (tt l).1.natAbs ≤ 2 ^ (21 * l.length) ∧ (tt l).2.natAbs ≤ 2 ^ (21 * l.length)
  | [], _ => ⟨by decide, by decide⟩
  | a :: l, h => by
    obtain ⟨h1, h2⟩ := tt_bits (l := l) fun x hx => h x (List.mem_cons_of_mem _ hx)
    have h3 := h a List.mem_cons_self
    have e : 2 ^ (21 * (a :: l).length) = 2097152 * 2 ^ (21 * l.length) := by
      rw [List.length_cons, Nat.mul_add, Nat.pow_add, Nat.mul_comm]
    rw [e]
    refine ⟨?_, ?_⟩
    · show (a * (tt l).1 + (tt l).2).natAbs ≤ _
      have m := Int.natAbs_add_le (a * (tt l).1) (tt l).2
      have m2 : (a * (tt l).1).natAbs ≤ 1000000 * 2 ^ (21 * l.length) := by rw [Int.natAbs_mul]; exact Nat.mul_le_mul h3 h1
      omega
    · show (tt l).1.natAbs ≤ _
      omega
theorem bits_lt {x n : Nat} (h : x ≤ 2 ^ (21 * n)) (hn : n ≤ 41) : x < 2 ^ 900 := by
  set_option exponentiation.threshold 1000 in
  exact Nat.lt_of_le_of_lt h (Nat.pow_lt_pow_right (by decide) (by omega))
/-! ### the values -/
/-- the tail as a ratio -/
def xr (l : List Int) : Rat := Rat.divInt (tt l).1 (tt l).2
theorem cast_ne {q : Int} (h : q ≠ 0) : ((q : Int) : Rat) ≠ 0 := fun z => h (by exact_mod_cast z)
theorem xr_num {l : List Int} (h : 0 < (tt l).2) : (xr l).num = (tt l).1 := low_num h (tt_gcd l)
theorem xr_den {l : List Int} (h : 0 < (tt l).2) : ((xr l).den : Int) = (tt l).2 := low_den h (tt_gcd l)
theorem xr_one (a : Int) : xr [a] = (a : Rat) := by
  show Rat.divInt (a * 1 + 0) 1 = _
  rw [Rat.divInt_eq_div]; simp; grind
/-- one step of the fraction -/
theorem xr_step {a b : Int} {l : List Int} (h : Row (b :: l)) : xr (a :: b :: l) = (a : Rat) + 1 / xr (b :: l) := by
  have h1 := (tt_pos h).1
  have h2 := (tt_pos (l := l) fun x hx => h x (List.mem_cons_of_mem _ hx)).1
  have e1 : (tt (a :: b :: l)).1 = a * (tt (b :: l)).1 + (tt l).1 := rfl
  have e2 : (tt (a :: b :: l)).2 = (tt (b :: l)).1 := rfl
  have e3 : (tt (b :: l)).2 = (tt l).1 := rfl
  unfold xr
  rw [Rat.divInt_eq_div, Rat.divInt_eq_div, e1, e2, e3, Rat.intCast_add, Rat.intCast_mul]
  have n1 := cast_ne (q := (tt (b :: l)).1) (by omega)
  have n2 := cast_ne (q := (tt l).1) (by omega)
  generalize (((tt (b :: l)).1 : Int) : Rat) = p at *
  generalize (((tt l).1 : Int) : Rat) = q at *
  grind
theorem inv_low {p q : Int} (hp : 0 < p) (hq : q ≠ 0) : (1 : Rat) / Rat.divInt p q = Rat.divInt q p := by
  rw [Rat.divInt_eq_div, Rat.divInt_eq_div]
  have n1 := cast_ne (q := p) (by omega)
  have n2 := cast_ne hq
  generalize ((p : Int) : Rat) = p at *
  generalize ((q : Int) : Rat) = q at *
  grind
/-- the product of the tails is the first one's top -/
theorem prod_step {a b : Int} {l : List Int} (h : Row (b :: l)) : xr (a :: b :: l) * (((tt (b :: l)).1 : Int) : Rat) = (((tt (a :: b :: l)).1 : Int) : Rat) := by
  have h1 := (tt_pos h).1
  have e2 : (tt (a :: b :: l)).2 = (tt (b :: l)).1 := rfl
  unfold xr
  rw [Rat.divInt_eq_div, e2]
  have n1 := cast_ne (q := (tt (b :: l)).1) (by omega)
  generalize (((tt (b :: l)).1 : Int) : Rat) = p at *
  generalize (((tt (a :: b :: l)).1 : Int) : Rat) = q at *
  grind
/-! ### fronts -/
/-- before, last behind the numbers l (the first number stands in last) -/
def fr : (Int × Int) × (Int × Int) → List Int → (Int × Int) × (Int × Int)
  | s, [] => s
  | s, a :: l => fr (s.2, (a * s.2.1 + s.1.1, a * s.2.2 + s.1.2)) l
/-- what is held all the way: the determinant, the signs, the sum -/
structure Fok (T0 S0 : Int) (k : Nat) (s : (Int × Int) × (Int × Int)) (l : List Int) : Prop where
  det : s.2.1 * s.1.2 - s.1.1 * s.2.2 = 2 * ((k : Int) % 2) - 1
  q1 : 1 ≤ s.2.2
  q0 : 0 ≤ s.1.2
  top : T0 = s.2.1 * (tt l).1 + s.1.1 * (tt l).2
  bot : S0 = s.2.2 * (tt l).1 + s.1.2 * (tt l).2
  b1 : s.2.1.natAbs ≤ 2 ^ (21 * (k + 1))
  b2 : s.2.2.natAbs ≤ 2 ^ (21 * (k + 1))
  b3 : s.1.1.natAbs ≤ 2 ^ (21 * (k + 1))
  b4 : s.1.2.natAbs ≤ 2 ^ (21 * (k + 1))
theorem Fok.init {a : Int} {l : List Int} (h : a.natAbs ≤ 1000000) : Fok (tt (a :: l)).1 (tt (a :: l)).2 0 ((1, 0), (a, 1)) l where
  det := by simp
  q1 := by simp
  q0 := by simp
  top := by show a * (tt l).1 + (tt l).2 = a * (tt l).1 + 1 * (tt l).2; omega
  bot := by show (tt l).1 = 1 * (tt l).1 + 0 * (tt l).2; omega
  b1 := by show a.natAbs ≤ 2 ^ 21; omega
  b2 := by show (1 : Int).natAbs ≤ 2 ^ 21; decide
  b3 := by show (1 : Int).natAbs ≤ 2 ^ 21; decide
  b4 := by show (0 : Int).natAbs ≤ 2 ^ 21; decide
theorem Fok.next {T0 S0 a : Int} {k : Nat} {s : (Int × Int) × (Int × Int)} {l : List Int} (f : Fok T0 S0 k s (a :: l)) (h1 : 1 ≤ a) (h2 : a ≤ 1000000) : Fok T0 S0 (k + 1) (s.2, (a * s.2.1 + s.1.1, a * s.2.2 + s.1.2)) l := by
  obtain ⟨⟨p0, q0⟩, ⟨p1, q1⟩⟩ := s
  obtain ⟨det, f1, f0, top, bot, b1, b2, b3, b4⟩ := f
  dsimp only at *
  have tt1 : (tt (a :: l)).1 = a * (tt l).1 + (tt l).2 := rfl
  have tt2 : (tt (a :: l)).2 = (tt l).1 := rfl
  rw [tt1, tt2] at top bot
  have e : 2 ^ (21 * (k + 1 + 1)) = 2097152 * 2 ^ (21 * (k + 1)) := by
    rw [Nat.mul_add 21 (k + 1) 1, Nat.pow_add, Nat.mul_comm]
  have ab : a.natAbs ≤ 1000000 := by omega
  have bn : ∀ x y : Int, x.natAbs ≤ 2 ^ (21 * (k + 1)) → y.natAbs ≤ 2 ^ (21 * (k + 1)) → (a * x + y).natAbs ≤ 2 ^ (21 * (k + 1 + 1)) := fun x y hx hy => by
    rw [e]
    have m := Int.natAbs_add_le (a * x) y
    have m2 : (a * x).natAbs ≤ 1000000 * 2 ^ (21 * (k + 1)) := by rw [Int.natAbs_mul]; exact Nat.mul_le_mul ab hx
    omega
  constructor
  · dsimp only
    have : (a * p1 + p0) * q1 - p1 * (a * q1 + q0) = -(p1 * q0 - p0 * q1) := by grind
    rw [this, det]; omega
  · dsimp only
    have : 1 * 1 ≤ a * q1 := Int.mul_le_mul h1 f1 (by omega) (by omega)
    omega
  · dsimp only; omega
  · dsimp only; rw [top]; grind
  · dsimp only; rw [bot]; grind
  · exact bn _ _ b1 b3
  · exact bn _ _ b2 b4
  · rw [e]; dsimp only; omega
  · rw [e]; dsimp only; omega
theorem Fok.gcd {T0 S0 : Int} {k : Nat} {s : (Int × Int) × (Int × Int)} {l : List Int} (f : Fok T0 S0 k s l) : Int.gcd s.2.1 s.2.2 = 1 := by
  refine gcd_one (u := s.1.2) (v := -s.1.1) ?_
  have h := f.det
  have : s.2.1 * s.1.2 + s.2.2 * -s.1.1 = s.2.1 * s.1.2 - s.1.1 * s.2.2 := by grind
  rw [this, h]; omega
/-! ### the way down to the greatest common divisor -/
structure Eu (p q : Int) (L i : Nat) (a b : Int) : Prop where
  g : Nat.gcd a.natAbs b.natAbs = Nat.gcd p.natAbs q.natAbs
  b0 : 0 ≤ b
  a0 : 0 ≤ a
  z : i = 0 → b = q
  s : 1 ≤ i → b < a ∧ a * b * 2 ^ (i - 1) < 2 ^ (2 * L)
theorem Eu.init {p q : Int} {L : Nat} {a : Int} (hq : 0 < q) (h0 : 0 ≤ a) (h : a.natAbs = p.natAbs) : Eu p q L 0 a q := ⟨by rw [h], by omega, h0, fun _ => rfl, fun h => by omega⟩
theorem Eu.next {p q : Int} {L i : Nat} {a b : Int} (e : Eu p q L i a b) (hq : q < 2 ^ L) (hb : b ≠ 0) : Eu p q L (i + 1) b (a.fmod b) := by
  obtain ⟨g, b0, a0, z, s⟩ := e
  have bp : 0 < b := by omega
  have f : a.fmod b = a % b := Int.fmod_eq_emod_of_nonneg a b0
  have m0 := Int.emod_nonneg a hb
  have m1 := Int.emod_lt_of_pos a bp
  refine ⟨?_, by rw [f]; exact m0, b0, fun h => by omega, fun _ => ⟨by rw [f]; exact m1, ?_⟩⟩
  · rw [← g, f]
    have e1 : (a % b).natAbs = a.natAbs % b.natAbs := by rw [Int.natAbs_emod_of_nonneg a0]
    rw [e1, Nat.gcd_comm b.natAbs, ← Nat.gcd_rec, Nat.gcd_comm]
  · rw [f, Nat.add_sub_cancel]
    by_cases hi : i = 0
    · subst hi
      have hz := z rfl
      rw [Int.pow_zero, Int.mul_one]
      have l1 : b * (a % b) ≤ b * b := Int.mul_le_mul_of_nonneg_left (by omega) b0
      have l2 : b * b < 2 ^ L * 2 ^ L := by
        have hb' : b < 2 ^ L := by omega
        have x1 : b * b ≤ b * 2 ^ L := Int.mul_le_mul_of_nonneg_left (by omega) b0
        have x2 : b * 2 ^ L < 2 ^ L * 2 ^ L := Int.mul_lt_mul_of_pos_right hb' (by omega)
        omega
      have e2 : (2 : Int) ^ (2 * L) = 2 ^ L * 2 ^ L := by rw [Nat.two_mul, Int.pow_add]
      omega
    · obtain ⟨s1, s2⟩ := s (by omega)
      have d := Int.mul_ediv_add_emod a b
      have d1 : 1 ≤ a / b := Int.le_ediv_of_mul_le bp (by omega)
      have d2 : b * 1 ≤ b * (a / b) := Int.mul_le_mul_of_nonneg_left d1 b0
      have h2 : 2 * (a % b) ≤ a := by omega
      have e3 : (2 : Int) ^ i = 2 ^ (i - 1) * 2 := by
        have : i = i - 1 + 1 := by omega
        rw [this, Int.pow_succ, Nat.add_sub_cancel]
      have P : (0 : Int) < 2 ^ (i - 1) := Int.pow_pos (by decide)
      have l1 : b * (2 * (a % b)) ≤ b * a := Int.mul_le_mul_of_nonneg_left h2 b0
      have l2 : b * (2 * (a % b)) * 2 ^ (i - 1) ≤ b * a * 2 ^ (i - 1) := Int.mul_le_mul_of_nonneg_right l1 (by omega)
      have e4 : b * (a % b) * 2 ^ i = b * (2 * (a % b)) * 2 ^ (i - 1) := by rw [e3]; grind
      rw [e4]
      have e5 : b * a * 2 ^ (i - 1) = a * b * 2 ^ (i - 1) := by grind
      omega
theorem Eu.ends {p q : Int} {L : Nat} {a b : Int} (e : Eu p q L (2 * L + 5) a b) : b = 0 := by
  obtain ⟨s1, s2⟩ := e.s (by omega)
  have b0 := e.b0
  by_cases h : b = 0
  · exact h
  · exfalso
    have h1 : 1 * 1 ≤ a * b := Int.mul_le_mul (by omega) (by omega) (by omega) (by omega)
    have P : (0 : Int) < 2 ^ (2 * L + 5 - 1) := Int.pow_pos (by decide)
    have l1 : 1 * 2 ^ (2 * L + 5 - 1) ≤ a * b * 2 ^ (2 * L + 5 - 1) := Int.mul_le_mul_of_nonneg_right (by omega) (by omega)
    have e5 : (2 : Int) ^ (2 * L + 5 - 1) = 2 ^ (2 * L) * 16 := by
      have : 2 * L + 5 - 1 = 2 * L + 4 := by omega
      rw [this, Int.pow_add]; rfl
    have P2 : (0 : Int) < 2 ^ (2 * L) := Int.pow_pos (by decide)
    omega
theorem Eu.gcd {p q : Int} {L i : Nat} {a b : Int} (e : Eu p q L i a b) (h : b = 0) : a = (Nat.gcd p.natAbs q.natAbs : Nat) := by
  subst h
  have g := e.g
  have a0 := e.a0
  rw [Int.natAbs_zero, Nat.gcd_zero_right] at g
  omega
end R0

end
section
set_option Elab.async false
set_option linter.all false
set_option maxRecDepth 100000
set_option maxHeartbeats 4000000
local macro_rules | `(tactic| walk_at "npl") => `(tactic| first | exact Kf.npl rfl | exact Kf.npl_ints _ | exact Kf.npl_one _ _ | exact Kf.npl_refs _ | assumption)
local macro_rules | `(tactic| walk_at "nn") => `(tactic| first
  | assumption
  | (refine' Kf.Ext.non ?nne ?nnh; (case nne => assumption); (case nnh => walk_at "nn")))
local macro_rules | `(tactic| walk_at "ext") => `(tactic| first
  | assumption
  | exact Kf.Ext.refl
  | (refine' Kf.Ext.newer ?exa ?exn; (case exn => assumption); (case exa => walk_at "ext"))
  | (refine' Kf.Ext.own ?exa ?exn; (case exn => walk_at "nn"); (case exa => walk_at "ext"))
  | (refine' Kf.Ext.trans ?exa ?exb; (case exb => assumption); (case exa => walk_at "ext")))
local macro_rules | `(tactic| walk_at "pool") => `(tactic| first
  | assumption
  | (refine' Kf.PoolAt.ext ?plh ?ple; (case plh => assumption); (case ple => walk_at "ext"))
  | (refine' Kf.PoolAt.upd ?plh ?plo ?pln; (case plo => assumption); (case pln => walk_at "npl"); (case plh => walk_at "pool")))
local macro_rules | `(tactic| walk_at "lk") => `(tactic| first
  | assumption
  | exact L2.upd_same
  | (refine' Kf.upd_old ?lkn ?lkh; (case lkn => assumption); (case lkh => walk_at "lk"))
  | (refine' Kf.upd_oth ?lkn ?lkh; (case lkn => (first | assumption | (apply Ne.symm; assumption))); (case lkh => walk_at "lk"))
  | (refine' Kf.Ext.get ?lke ?lkh ?lkn; (case lke => assumption); (case lkh => walk_at "lk"); (case lkn => walk_at "npl"))
  | (refine' L2.Same.at ?lke ?lkh; (case lke => assumption); (case lkh => walk_at "lk")))
local macro_rules | `(tactic| walk_at "sq") => `(tactic| first
  | assumption
  | (refine' L2.SqL.of ?sqh; (case sqh => walk_at "lk"))
  | (refine' L2.SqT.of ?sqh; (case sqh => walk_at "lk"))
  | (refine' Kf.Ext.seqL ?sqe ?sqh ?sqn; (case sqh => assumption); (case sqe => walk_at "ext"); (case sqn => walk_at "npl"))
  | (refine' Kf.Ext.seqT ?sqe ?sqh; (case sqh => assumption); (case sqe => walk_at "ext")))
local macro_rules | `(tactic| walk_at "at") => `(tactic| first | exact L2.atI_nat (j := 0) rfl | exact L2.atI_nat (j := 1) rfl | exact L2.atI_nat (j := 2) rfl | exact L2.atI_nat (j := 3) rfl | exact L2.atI_nat (j := 4) rfl | assumption)
local macro_rules | `(tactic| walk_at "ixn") => `(tactic| first | exact Kf.ixN_nat (j := 0) rfl | exact Kf.ixN_nat (j := 1) rfl | exact Kf.ixN_nat (j := 2) rfl | exact Kf.ixN_nat (j := 3) rfl | assumption)
local macro_rules | `(tactic| walk_at "set") => `(tactic| (first | (simp only [List.set_cons_succ, List.set_cons_zero]; rfl) | rfl))
local macro_rules | `(tactic| walk_at "om") => `(tactic| first | decide | omega | (simp only [List.length_map, List.length_cons, List.length_nil] at *; omega))
local macro_rules | `(tactic| walk_at "calls") => `(tactic| first
  | (with_reducible refine' Kf.call_take ?clp ?cla ?clb ?clq; (case clp => walk_at "pool"); (case cla => walk_at "om"); (case clb => walk_at "om"); intro r H' hE h0 h1)
  | (with_reducible refine' Kf.call_pool ?cls ?cla ?clq; (case cls => walk_at "sq"); (case cla => walk_at "om"); intro p H' hE hN hP)
  | (with_reducible refine' Kf.call_turn ?cls ?clp ?cla ?clq; (case cls => walk_at "sq"); (case clp => walk_at "pool"); (case cla => walk_at "om"); intro u H' hE hP))
local macro_rules | `(tactic| walk_at "side") => `(tactic| first
  | exact Kf.cmul_fmod (by decide) (by decide)
  | exact rfl
  | decide
  | omega
  | assumption
  | (refine ⟨?_, ?_⟩ <;> decide)
  | (refine ⟨?_, ?_, ?_⟩ <;> decide)
  | (refine ⟨?_, ?_⟩ <;> omega)
  | (refine Or.inl ⟨?_, ?_⟩ <;> decide)
  | (refine Or.inr ⟨?_, ?_⟩ <;> decide)
  | (refine Or.inl ⟨?_, ?_⟩ <;> omega)
  | (refine Or.inr ⟨?_, ?_⟩ <;> omega))
local macro_rules | `(tactic| walk_at "kit") => `(tactic| first | exact Kf.isi_int_int | exact Kf.isi_int_bool | exact Kf.isi_int_str | exact Kf.isi_int_list | exact Kf.isi_int_tuple | exact Kf.isi_bool_int | exact Kf.isi_bool_bool | exact Kf.isi_bool_str | exact Kf.isi_bool_list | exact Kf.isi_bool_tuple | exact Kf.isi_str_int | exact Kf.isi_str_bool | exact Kf.isi_str_str | exact Kf.isi_str_list | exact Kf.isi_str_tuple | exact Kf.isi_non_list | exact Kf.isi_non_tuple | exact Kf.isi_list_list | exact Kf.isi_list_tuple | exact Kf.isi_tuple_list | exact Kf.isi_tuple_tuple | exact Kf.isi_dict_dict)
local macro_rules | `(tactic| walk_at "ty") => `(tactic| first
  | exact L2.TyX.base (L2.TyOf.int _)
  | exact L2.TyX.base (L2.TyOf.bl _)
  | exact L2.TyX.base (L2.TyOf.str _)
  | exact L2.TyX.base L2.TyOf.non
  | (refine' L2.TyX.base (L2.TyOf.lst ?tyh); (case tyh => walk_at "lk"))
  | (refine' L2.TyX.base (L2.TyOf.tup ?tyh); (case tyh => walk_at "lk"))
  | (refine' L2.TyX.base (L2.TyOf.dK ?tyh); (case tyh => walk_at "lk")))
local macro_rules | `(tactic| walk_at "om2") => `(tactic| first | assumption | decide | omega)
local macro_rules | `(tactic| walk_at "st") => `(tactic| with_reducible first
  | (refine Kf.w_var rfl ?_)
  | (refine Kf.w_c ?_)
  | (refine Kf.w_seq ?_)
  | (refine Kf.w_asg ?_)
  | (refine' Kf.w_gname ?sth ?_; (case sth => with_unfolding_all walk_at "set"))
  | (refine Kf.w_op ?_)
  | (refine Kf.w_un ?_)
  | (refine Kf.w_rU ?_)
  | (refine Kf.w_rI0 ?_)
  | (refine' Kf.w_rI ?sth ?_; (case sth => with_unfolding_all walk_at "side"))
  | (refine' Kf.w_rEq ?sth ?_; (case sth => with_unfolding_all rfl))
  | (refine' Kf.w_rNe ?sth ?_; (case sth => with_unfolding_all rfl))
  | (refine Kf.w_tTest ?_)
  | (refine Kf.w_tB ?_)
  | (refine Kf.w_exbl ?_)
  | (refine Kf.w_exint ?_)
  | (refine Kf.w_ifS ?_)
  | (refine Kf.w_ret ?_)
  | (refine Kf.w_retN ?_)
  | (refine Kf.w_drop ?_)
  | (refine Kf.w_and ?_)
  | (refine Kf.w_or ?_)
  | (refine Kf.w_not ?_)
  | (refine Kf.w_andV ?_)
  | (refine Kf.w_orV ?_)
  | (refine Kf.w_notV ?_)
  | (refine Kf.w_if ?_)
  | (refine Kf.w_lc ?_)
  | (refine Kf.w_for ?_)
  | (refine Kf.w_rng1 ?_)
  | (refine' Kf.w_rng1x ?sth ?stg ?_; (case sth => with_unfolding_all walk_at "om"); (case stg => with_unfolding_all walk_at "om"))
  | (refine Kf.w_ilist ?_)
  | (refine Kf.w_iseq ?_)
  | (refine Kf.w_itup ?_)
  | (refine' Kf.w_ilistx ?sth ?_; (case sth => with_unfolding_all walk_at "sq"))
  | (refine' Kf.w_itupx ?sth ?_; (case sth => with_unfolding_all walk_at "sq"))
  | (refine' Kf.w_wipe ?sth ?_; (case sth => with_unfolding_all rfl))
  | (refine Kf.w_yes ?_)
  | (refine' Kf.w_isi ?sth ?stg ?_; (case sth => with_unfolding_all walk_at "ty"); (case stg => walk_at "kit"))
  | (refine Kf.w_isN ?_)
  | (refine Kf.w_notN ?_)
  | (refine Kf.w_cb ?_)
  | (refine Kf.w_nil ?_)
  | (refine Kf.w_cons ?_)
  | (refine Kf.w_tup ?_)
  | (refine Kf.w_lst ?_)
  | (refine' Kf.w_lines ?sth ?_; (case sth => with_unfolding_all rfl))
  | (refine Kf.w_call ?_)
  | (refine Kf.w_next ?_)
  | (refine Kf.w_break ?_)
  | (refine Kf.w_cont ?_)
  | (refine Kf.w_dnewK ?_)
  | (refine Kf.w_dget ?_)
  | (refine Kf.w_sl ?_)
  | (refine Kf.w_nopart ?_)
  | (refine Kf.w_part ?_)
  | (refine Kf.w_bm ?_)
  | (refine Kf.w_bm0 ?_)
  | (refine' Kf.w_bmL ?sth ?_; (case sth => with_unfolding_all walk_at "lk"))
  | (refine' Kf.w_cat ?sth ?stg ?stf ?_; (case sth => with_unfolding_all walk_at "lk"); (case stg => with_unfolding_all walk_at "lk"); (case stf => with_unfolding_all walk_at "om"))
  | (refine' Kf.w_slL ?sth ?_; (case sth => with_unfolding_all walk_at "sq"))
  | (refine' Kf.w_inL ?sth ?_; (case sth => with_unfolding_all walk_at "sq"))
  | (refine' Kf.w_inT ?sth ?_; (case sth => with_unfolding_all walk_at "sq"))
  | (refine' Kf.w_ninL ?sth ?_; (case sth => with_unfolding_all walk_at "sq"))
  | (refine' Kf.w_ninT ?sth ?_; (case sth => with_unfolding_all walk_at "sq"))
  | (refine' Kf.w_listof ?sth ?_; (case sth => with_unfolding_all walk_at "sq"))
  | (refine' Kf.w_tupof ?sth ?_; (case sth => with_unfolding_all walk_at "sq"))
  | (refine Kf.w_listRev ?_)
  | (refine Kf.w_gsub ?_)
  | (refine' Kf.w_ixL ?sth ?stg ?_; (case sth => with_unfolding_all walk_at "sq"); (case stg => with_unfolding_all walk_at "at"))
  | (refine' Kf.w_ixT ?sth ?stg ?_; (case sth => with_unfolding_all walk_at "sq"); (case stg => with_unfolding_all walk_at "at"))
  | (refine' Kf.w_setL ?sth ?stg ?_; (case sth => with_unfolding_all walk_at "lk"); (case stg => with_unfolding_all walk_at "ixn"))
  | (refine' Kf.w_len ?sth ?_; (case sth => with_unfolding_all walk_at "sq"))
  | (refine' Kf.w_lenT ?sth ?_; (case sth => with_unfolding_all walk_at "sq"))
  | (refine Kf.w_int1 ?_)
  | (refine Kf.w_intb ?_)
  | (refine Kf.w_abs ?_)
  | (refine Kf.w_aug rfl ?_)
  | (refine Kf.w_par ?_)
  | (refine' Kf.w_gtup ?sth ?stg ?_; (case sth => with_unfolding_all walk_at "sq"); (case stg => with_unfolding_all exact rfl))
  | (refine' Kf.w_glst ?sth ?stg ?_; (case sth => with_unfolding_all walk_at "sq"); (case stg => with_unfolding_all exact rfl))
  | (refine Kf.w_rng2 ?_)
  | (refine Kf.w_rng3 ?_)
  | (refine' Kf.w_rng2x ?sth ?stg ?stf ?ste ?_; (case sth => with_unfolding_all walk_at "om"); (case stg => with_unfolding_all walk_at "om"); (case stf => with_unfolding_all walk_at "om"); (case ste => with_unfolding_all walk_at "om"))
  | (refine Kf.w_gcons ?_)
  | (refine Kf.w_gnil ?_)
  | (refine Kf.w_gcd ?_)
  | (refine Kf.w_bits ?_)
  | (refine Kf.w_two ?_)
  | (refine Kf.w_ipI ?_)
  | (refine L2.iteT ?_)
  | (refine L2.iteF ?_)
  | (refine Kf.iteNT ?_)
  | (refine Kf.iteNF ?_)
  | (refine' Kf.ite_decT ?sth ?_; (case sth => exact rfl))
  | (refine' Kf.ite_decF ?sth ?_; (case sth => with_unfolding_all (intro e; cases e; done)))
  | (refine' Kf.ite_ndecF ?sth ?_; (case sth => exact rfl))
  | (refine' Kf.ite_ndecT ?sth ?_; (case sth => with_unfolding_all (intro e; cases e; done)))
  | (refine' Kf.ite_viT ?sth ?_; (case sth => (with_unfolding_all walk_at "om2")))
  | (refine' Kf.ite_viF ?sth ?_; (case sth => (with_unfolding_all walk_at "om2")))
  | (refine' Kf.ite_nviT ?sth ?_; (case sth => (with_unfolding_all walk_at "om2")))
  | (refine' Kf.ite_nviF ?sth ?_; (case sth => (with_unfolding_all walk_at "om2")))
  | (refine' Kf.ite_decT ?sth ?_; (case sth => (with_unfolding_all walk_at "om2")))
  | (refine' Kf.ite_decF ?sth ?_; (case sth => (with_unfolding_all walk_at "om2")))
  | with_unfolding_all walk_at "calls")
local macro_rules | `(tactic| walk_at "go") => `(tactic| repeat walk_at "st")

namespace Kf
open PySem PySem.Spec PyProof.Rows L2
open R0 (Bd)
abbrev pD (p q : Int) : PyData := .tuple [.int p, .int q]
abbrev rD (r : Rat) : PyData := pD r.num (r.den : Int)
theorem Dq.pair {H : Hp} {v : V} {p q : Int} (h : Dq H v (pD p q)) : ∃ a, v = .ref a ∧ H a = some (.tup [.int p, .int q]) := by
  cases h with
  | tup ha r =>
    cases r with
    | cons h1 r =>
      cases r with
      | cons h2 r => cases r; cases h1; cases h2; exact ⟨_, rfl, ha⟩
theorem Dq.of_pair {H : Hp} {a : Addr} {p q : Int} (h : H a = some (.tup [.int p, .int q])) : Dq H (.ref a) (pD p q) := .tup h (.cons (.int _) (.cons (.int _) .nil))
abbrev s_ratio : Stmt := topS 18
abbrev N_ratio : List Str := ["p", "q", "divisor"]
abbrev P_ratio : List Str := ["p", "q"]
theorem sc_ratio : FnScope N_ratio P_ratio (defScope s_ratio) := ⟨rfl, rfl, rfl, by decide +kernel, rfl, by decide +kernel, by decide +kernel⟩
abbrev s_plus : Stmt := topS 19
abbrev N_plus : List Str := ["a", "b"]
abbrev P_plus : List Str := ["a", "b"]
theorem sc_plus : FnScope N_plus P_plus (defScope s_plus) := ⟨rfl, rfl, rfl, by decide +kernel, rfl, by decide +kernel, by decide +kernel⟩
abbrev s_minus : Stmt := topS 20
abbrev N_minus : List Str := ["a", "b"]
abbrev P_minus : List Str := ["a", "b"]
theorem sc_minus : FnScope N_minus P_minus (defScope s_minus) := ⟨rfl, rfl, rfl, by decide +kernel, rfl, by decide +kernel, by decide +kernel⟩
abbrev s_times : Stmt := topS 21
abbrev N_times : List Str := ["a", "b"]
abbrev P_times : List Str := ["a", "b"]
theorem sc_times : FnScope N_times P_times (defScope s_times) := ⟨rfl, rfl, rfl, by decide +kernel, rfl, by decide +kernel, by decide +kernel⟩
abbrev s_over : Stmt := topS 22
abbrev N_over : List Str := ["a", "b"]
abbrev P_over : List Str := ["a", "b"]
theorem sc_over : FnScope N_over P_over (defScope s_over) := ⟨rfl, rfl, rfl, by decide +kernel, rfl, by decide +kernel, by decide +kernel⟩
abbrev s_opposite : Stmt := topS 23
abbrev N_opposite : List Str := ["a"]
abbrev P_opposite : List Str := ["a"]
theorem sc_opposite : FnScope N_opposite P_opposite (defScope s_opposite) := ⟨rfl, rfl, rfl, by decide +kernel, rfl, by decide +kernel, by decide +kernel⟩
abbrev s_compare : Stmt := topS 24
abbrev N_compare : List Str := ["a", "b", "left", "right"]
abbrev P_compare : List Str := ["a", "b"]
theorem sc_compare : FnScope N_compare P_compare (defScope s_compare) := ⟨rfl, rfl, rfl, by decide +kernel, rfl, by decide +kernel, by decide +kernel⟩
section
variable {P : Program} {w : World} {K : PySem.W.Frag} {mg : Str → Option Value} {base : Heap} {H : Hp} {Q : VK} {E : XK}
def spRatio (K : PySem.W.Frag) : Sp := fun vs H Q _ => ∃ p q : Int, vs = [.int p, .int q] ∧ q ≠ 0 ∧ p.natAbs < 2 ^ 8000 ∧ q.natAbs < 2 ^ 8000 ∧ ∀ v H', Ext H H' → Dq H' v (rD (Rat.divInt p q)) → Q v H'
theorem call_ratio {p q : Int} (h0 : q ≠ 0) (h1 : p.natAbs < 2 ^ 8000) (h2 : q.natAbs < 2 ^ 8000) (k : ∀ v H', Ext H H' → Dq H' v (rD (Rat.divInt p q)) → Q v H') : spRatio K [.int p, .int q] H Q E := ⟨p, q, rfl, h0, h1, h2, k⟩
theorem ok_ratio (D : DfD K mg "ratio" s_ratio [.int 1] P_ratio) (m_gcd : mg "gcd" = some (.builtin "math.gcd")) : Pr P w K mg base "ratio" 1 P_ratio (spRatio K) ∧ PrD P w K mg base "ratio" 1 P_ratio [.int 1] (spRatio K) := by
  refine D.ok sc_ratio (fun vs H Q E h => ?_) (fun f cdv A outer s H vs Q E hr h => ?_)
  · obtain ⟨p, q, rfl, _⟩ := h; rfl
  obtain ⟨p, q, rfl, h0, h1, h2, k⟩ := h
  have nd := sc_ratio.nd
  have fin : ∀ (g : Int) (a : Addr), H a = none → (Rat.divInt p q).num = p.fdiv g ∧ ((Rat.divInt p q).den : Int) = q.fdiv g → Q (.ref a) (upd H a (.tup [.int (p.fdiv g), .int (q.fdiv g)])) := fun g a ha e => by
    rw [← e.1, ← e.2]
    exact k _ _ (Ext.new ha) (.of_pair L2.upd_same)
  obtain ⟨gb, g0⟩ := R0.gcd_bits (p := p) h2 h0
  refine ⟨_, (pss_cons (ps_if (pt_cmpR op_eq (pv 1) pe_int (nomark _)) (pss_one (ps_dead)) pss_nil)
      (pss_cons (ps_set (i := 2) nd rfl (Or.inl rfl) (pe_callBfun cr_gcd (by rfl) m_gcd (pa_cons (pv 0) (pa_cons (pv 1) pa_nil))))
      (pss_cons (ps_if (pt_cmpR op_lt (pv 1) pe_int (nomark _)) (pss_one (ps_set (i := 2) nd rfl (Or.inl rfl) (pe_un un_neg (pv 2)))) pss_nil)
      (pss_one (ps_ret (pe_tup (pa_cons (pe_op op_fdivX (pv 0) (pv 2)) (pa_cons (pe_op op_fdivX (pv 1) (pv 2)) pa_nil)))))))), ?_⟩
  refine w_start (σ := [some _, some _, none]) rfl ?_
  walk_at "go"
  generalize hg : Nat.gcd p.natAbs q.natAbs = g at gb g0 ⊢
  refine ite_d (fun c => ?_) (fun c => ?_)
  · walk_at "go"
    have gb' : (-(g : Int)).natAbs < 2 ^ 8000 := by omega
    refine w_wdiv (by omega) gb' (by decide) (by decide) ?_
    walk_at "go"
    refine w_wdiv (by omega) gb' (by decide) (by decide) ?_
    walk_at "go"
    intro a ha
    exact fin _ a ha (by rw [← hg]; exact R0.ratio_neg c)
  · walk_at "go"
    have gb' : ((g : Int)).natAbs < 2 ^ 8000 := by omega
    refine w_wdiv (by omega) gb' (by decide) (by decide) ?_
    walk_at "go"
    refine w_wdiv (by omega) gb' (by decide) (by decide) ?_
    walk_at "go"
    intro a ha
    exact fin _ a ha (by rw [← hg]; exact R0.ratio_pos (by omega))
end
end Kf

end
section
set_option Elab.async false
set_option linter.all false
set_option maxRecDepth 100000
set_option maxHeartbeats 4000000
local macro_rules | `(tactic| walk_at "npl") => `(tactic| first | exact Kf.npl rfl | exact Kf.npl_ints _ | exact Kf.npl_one _ _ | exact Kf.npl_refs _ | assumption)
local macro_rules | `(tactic| walk_at "nn") => `(tactic| first
  | assumption
  | (refine' Kf.Ext.non ?nne ?nnh; (case nne => assumption); (case nnh => walk_at "nn")))
local macro_rules | `(tactic| walk_at "ext") => `(tactic| first
  | assumption
  | exact Kf.Ext.refl
  | (refine' Kf.Ext.newer ?exa ?exn; (case exn => assumption); (case exa => walk_at "ext"))
  | (refine' Kf.Ext.own ?exa ?exn; (case exn => walk_at "nn"); (case exa => walk_at "ext"))
  | (refine' Kf.Ext.trans ?exa ?exb; (case exb => assumption); (case exa => walk_at "ext")))
local macro_rules | `(tactic| walk_at "pool") => `(tactic| first
  | assumption
  | (refine' Kf.PoolAt.ext ?plh ?ple; (case plh => assumption); (case ple => walk_at "ext"))
  | (refine' Kf.PoolAt.upd ?plh ?plo ?pln; (case plo => assumption); (case pln => walk_at "npl"); (case plh => walk_at "pool")))
local macro_rules | `(tactic| walk_at "lk") => `(tactic| first
  | assumption
  | exact L2.upd_same
  | (refine' Kf.upd_old ?lkn ?lkh; (case lkn => assumption); (case lkh => walk_at "lk"))
  | (refine' Kf.upd_oth ?lkn ?lkh; (case lkn => (first | assumption | (apply Ne.symm; assumption))); (case lkh => walk_at "lk"))
  | (refine' Kf.Ext.get ?lke ?lkh ?lkn; (case lke => assumption); (case lkh => walk_at "lk"); (case lkn => walk_at "npl"))
  | (refine' L2.Same.at ?lke ?lkh; (case lke => assumption); (case lkh => walk_at "lk")))
local macro_rules | `(tactic| walk_at "sq") => `(tactic| first
  | assumption
  | (refine' L2.SqL.of ?sqh; (case sqh => walk_at "lk"))
  | (refine' L2.SqT.of ?sqh; (case sqh => walk_at "lk"))
  | (refine' Kf.Ext.seqL ?sqe ?sqh ?sqn; (case sqh => assumption); (case sqe => walk_at "ext"); (case sqn => walk_at "npl"))
  | (refine' Kf.Ext.seqT ?sqe ?sqh; (case sqh => assumption); (case sqe => walk_at "ext")))
local macro_rules | `(tactic| walk_at "at") => `(tactic| first | exact L2.atI_nat (j := 0) rfl | exact L2.atI_nat (j := 1) rfl | exact L2.atI_nat (j := 2) rfl | exact L2.atI_nat (j := 3) rfl | exact L2.atI_nat (j := 4) rfl | assumption)
local macro_rules | `(tactic| walk_at "ixn") => `(tactic| first | exact Kf.ixN_nat (j := 0) rfl | exact Kf.ixN_nat (j := 1) rfl | exact Kf.ixN_nat (j := 2) rfl | exact Kf.ixN_nat (j := 3) rfl | assumption)
local macro_rules | `(tactic| walk_at "set") => `(tactic| (first | (simp only [List.set_cons_succ, List.set_cons_zero]; rfl) | rfl))
local macro_rules | `(tactic| walk_at "om") => `(tactic| first | decide | omega | (simp only [List.length_map, List.length_cons, List.length_nil] at *; omega))
local macro_rules | `(tactic| walk_at "calls") => `(tactic| first
  | (with_reducible refine' Kf.call_take ?clp ?cla ?clb ?clq; (case clp => walk_at "pool"); (case cla => walk_at "om"); (case clb => walk_at "om"); intro r H' hE h0 h1)
  | (with_reducible refine' Kf.call_pool ?cls ?cla ?clq; (case cls => walk_at "sq"); (case cla => walk_at "om"); intro p H' hE hN hP)
  | (with_reducible refine' Kf.call_turn ?cls ?clp ?cla ?clq; (case cls => walk_at "sq"); (case clp => walk_at "pool"); (case cla => walk_at "om"); intro u H' hE hP))
local macro_rules | `(tactic| walk_at "side") => `(tactic| first
  | exact Kf.cmul_fmod (by decide) (by decide)
  | exact rfl
  | decide
  | omega
  | assumption
  | (refine ⟨?_, ?_⟩ <;> decide)
  | (refine ⟨?_, ?_, ?_⟩ <;> decide)
  | (refine ⟨?_, ?_⟩ <;> omega)
  | (refine Or.inl ⟨?_, ?_⟩ <;> decide)
  | (refine Or.inr ⟨?_, ?_⟩ <;> decide)
  | (refine Or.inl ⟨?_, ?_⟩ <;> omega)
  | (refine Or.inr ⟨?_, ?_⟩ <;> omega))
local macro_rules | `(tactic| walk_at "kit") => `(tactic| first | exact Kf.isi_int_int | exact Kf.isi_int_bool | exact Kf.isi_int_str | exact Kf.isi_int_list | exact Kf.isi_int_tuple | exact Kf.isi_bool_int | exact Kf.isi_bool_bool | exact Kf.isi_bool_str | exact Kf.isi_bool_list | exact Kf.isi_bool_tuple | exact Kf.isi_str_int | exact Kf.isi_str_bool | exact Kf.isi_str_str | exact Kf.isi_str_list | exact Kf.isi_str_tuple | exact Kf.isi_non_list | exact Kf.isi_non_tuple | exact Kf.isi_list_list | exact Kf.isi_list_tuple | exact Kf.isi_tuple_list | exact Kf.isi_tuple_tuple | exact Kf.isi_dict_dict)
local macro_rules | `(tactic| walk_at "ty") => `(tactic| first
  | exact L2.TyX.base (L2.TyOf.int _)
  | exact L2.TyX.base (L2.TyOf.bl _)
  | exact L2.TyX.base (L2.TyOf.str _)
  | exact L2.TyX.base L2.TyOf.non
  | (refine' L2.TyX.base (L2.TyOf.lst ?tyh); (case tyh => walk_at "lk"))
  | (refine' L2.TyX.base (L2.TyOf.tup ?tyh); (case tyh => walk_at "lk"))
  | (refine' L2.TyX.base (L2.TyOf.dK ?tyh); (case tyh => walk_at "lk")))
local macro_rules | `(tactic| walk_at "om2") => `(tactic| first | assumption | decide | omega)
local macro_rules | `(tactic| walk_at "st") => `(tactic| with_reducible first
  | (refine Kf.w_var rfl ?_)
  | (refine Kf.w_c ?_)
  | (refine Kf.w_seq ?_)
  | (refine Kf.w_asg ?_)
  | (refine' Kf.w_gname ?sth ?_; (case sth => with_unfolding_all walk_at "set"))
  | (refine Kf.w_op ?_)
  | (refine Kf.w_un ?_)
  | (refine Kf.w_rU ?_)
  | (refine Kf.w_rI0 ?_)
  | (refine' Kf.w_rI ?sth ?_; (case sth => with_unfolding_all walk_at "side"))
  | (refine' Kf.w_rEq ?sth ?_; (case sth => with_unfolding_all rfl))
  | (refine' Kf.w_rNe ?sth ?_; (case sth => with_unfolding_all rfl))
  | (refine Kf.w_tTest ?_)
  | (refine Kf.w_tB ?_)
  | (refine Kf.w_exbl ?_)
  | (refine Kf.w_exint ?_)
  | (refine Kf.w_ifS ?_)
  | (refine Kf.w_ret ?_)
  | (refine Kf.w_retN ?_)
  | (refine Kf.w_drop ?_)
  | (refine Kf.w_and ?_)
  | (refine Kf.w_or ?_)
  | (refine Kf.w_not ?_)
  | (refine Kf.w_andV ?_)
  | (refine Kf.w_orV ?_)
  | (refine Kf.w_notV ?_)
  | (refine Kf.w_if ?_)
  | (refine Kf.w_lc ?_)
  | (refine Kf.w_for ?_)
  | (refine Kf.w_rng1 ?_)
  | (refine' Kf.w_rng1x ?sth ?stg ?_; (case sth => with_unfolding_all walk_at "om"); (case stg => with_unfolding_all walk_at "om"))
  | (refine Kf.w_ilist ?_)
  | (refine Kf.w_iseq ?_)
  | (refine Kf.w_itup ?_)
  | (refine' Kf.w_ilistx ?sth ?_; (case sth => with_unfolding_all walk_at "sq"))
  | (refine' Kf.w_itupx ?sth ?_; (case sth => with_unfolding_all walk_at "sq"))
  | (refine' Kf.w_wipe ?sth ?_; (case sth => with_unfolding_all rfl))
  | (refine Kf.w_yes ?_)
  | (refine' Kf.w_isi ?sth ?stg ?_; (case sth => with_unfolding_all walk_at "ty"); (case stg => walk_at "kit"))
  | (refine Kf.w_isN ?_)
  | (refine Kf.w_notN ?_)
  | (refine Kf.w_cb ?_)
  | (refine Kf.w_nil ?_)
  | (refine Kf.w_cons ?_)
  | (refine Kf.w_tup ?_)
  | (refine Kf.w_lst ?_)
  | (refine' Kf.w_lines ?sth ?_; (case sth => with_unfolding_all rfl))
  | (refine Kf.w_call ?_)
  | (refine Kf.w_next ?_)
  | (refine Kf.w_break ?_)
  | (refine Kf.w_cont ?_)
  | (refine Kf.w_dnewK ?_)
  | (refine Kf.w_dget ?_)
  | (refine Kf.w_sl ?_)
  | (refine Kf.w_nopart ?_)
  | (refine Kf.w_part ?_)
  | (refine Kf.w_bm ?_)
  | (refine Kf.w_bm0 ?_)
  | (refine' Kf.w_bmL ?sth ?_; (case sth => with_unfolding_all walk_at "lk"))
  | (refine' Kf.w_cat ?sth ?stg ?stf ?_; (case sth => with_unfolding_all walk_at "lk"); (case stg => with_unfolding_all walk_at "lk"); (case stf => with_unfolding_all walk_at "om"))
  | (refine' Kf.w_slL ?sth ?_; (case sth => with_unfolding_all walk_at "sq"))
  | (refine' Kf.w_inL ?sth ?_; (case sth => with_unfolding_all walk_at "sq"))
  | (refine' Kf.w_inT ?sth ?_; (case sth => with_unfolding_all walk_at "sq"))
  | (refine' Kf.w_ninL ?sth ?_; (case sth => with_unfolding_all walk_at "sq"))
  | (refine' Kf.w_ninT ?sth ?_; (case sth => with_unfolding_all walk_at "sq"))
  | (refine' Kf.w_listof ?sth ?_; (case sth => with_unfolding_all walk_at "sq"))
  | (refine' Kf.w_tupof ?sth ?_; (case sth => with_unfolding_all walk_at "sq"))
  | (refine Kf.w_listRev ?_)
  | (refine Kf.w_gsub ?_)
  | (refine' Kf.w_ixL ?sth ?stg ?_; (case sth => with_unfolding_all walk_at "sq"); (case stg => with_unfolding_all walk_at "at"))
  | (refine' Kf.w_ixT ?sth ?stg ?_; (case sth => with_unfolding_all walk_at "sq"); (case stg => with_unfolding_all walk_at "at"))
  | (refine' Kf.w_setL ?sth ?stg ?_; (case sth => with_unfolding_all walk_at "lk"); (case stg => with_unfolding_all walk_at "ixn"))
  | (refine' Kf.w_len ?sth ?_; (case sth => with_unfolding_all walk_at "sq"))
  | (refine' Kf.w_lenT ?sth ?_; (case sth => with_unfolding_all walk_at "sq"))
  | (refine Kf.w_int1 ?_)
  | (refine Kf.w_intb ?_)
  | (refine Kf.w_abs ?_)
  | (refine Kf.w_aug rfl ?_)
  | (refine Kf.w_par ?_)
  | (refine' Kf.w_gtup ?sth ?stg ?_; (case sth => with_unfolding_all walk_at "sq"); (case stg => with_unfolding_all exact rfl))
  | (refine' Kf.w_glst ?sth ?stg ?_; (case sth => with_unfolding_all walk_at "sq"); (case stg => with_unfolding_all exact rfl))
  | (refine Kf.w_rng2 ?_)
  | (refine Kf.w_rng3 ?_)
  | (refine' Kf.w_rng2x ?sth ?stg ?stf ?ste ?_; (case sth => with_unfolding_all walk_at "om"); (case stg => with_unfolding_all walk_at "om"); (case stf => with_unfolding_all walk_at "om"); (case ste => with_unfolding_all walk_at "om"))
  | (refine Kf.w_gcons ?_)
  | (refine Kf.w_gnil ?_)
  | (refine Kf.w_gcd ?_)
  | (refine Kf.w_bits ?_)
  | (refine Kf.w_two ?_)
  | (refine Kf.w_ipI ?_)
  | (refine L2.iteT ?_)
  | (refine L2.iteF ?_)
  | (refine Kf.iteNT ?_)
  | (refine Kf.iteNF ?_)
  | (refine' Kf.ite_decT ?sth ?_; (case sth => exact rfl))
  | (refine' Kf.ite_decF ?sth ?_; (case sth => with_unfolding_all (intro e; cases e; done)))
  | (refine' Kf.ite_ndecF ?sth ?_; (case sth => exact rfl))
  | (refine' Kf.ite_ndecT ?sth ?_; (case sth => with_unfolding_all (intro e; cases e; done)))
  | (refine' Kf.ite_viT ?sth ?_; (case sth => (with_unfolding_all walk_at "om2")))
  | (refine' Kf.ite_viF ?sth ?_; (case sth => (with_unfolding_all walk_at "om2")))
  | (refine' Kf.ite_nviT ?sth ?_; (case sth => (with_unfolding_all walk_at "om2")))
  | (refine' Kf.ite_nviF ?sth ?_; (case sth => (with_unfolding_all walk_at "om2")))
  | (refine' Kf.ite_decT ?sth ?_; (case sth => (with_unfolding_all walk_at "om2")))
  | (refine' Kf.ite_decF ?sth ?_; (case sth => (with_unfolding_all walk_at "om2")))
  | with_unfolding_all walk_at "calls")
local macro_rules | `(tactic| walk_at "go") => `(tactic| repeat walk_at "st")

namespace Kf
open PySem PySem.Spec PyProof.Rows L2
open R0 (Bd)
theorem Bd.n {r : Rat} (h : Bd 2000 r) : r.num.natAbs < 2 ^ 2000 := h.1
theorem Bd.d {r : Rat} (h : Bd 2000 r) : ((r.den : Int)).natAbs < 2 ^ 2000 := h.2
theorem den_nz (r : Rat) : (r.den : Int) ≠ 0 := by have := r.den_nz; omega
theorem num_nz {r : Rat} (h : r ≠ 0) : r.num ≠ 0 := fun e => R0.num_ne h (by rw [e]; rfl)
theorem lt_up {x : Nat} {n m : Nat} (h : x < 2 ^ n) (l : n ≤ m) : x < 2 ^ m := Nat.lt_of_lt_of_le h (Nat.pow_le_pow_right (by decide) l)
theorem mul_bits {i j : Int} {a b m : Nat} (ha : i.natAbs < 2 ^ a) (hb : j.natAbs < 2 ^ b) (l : a + b ≤ m) : (i * j).natAbs < 2 ^ m := lt_up (wide_lt ha hb) l
theorem add_bits {i j : Int} {a m : Nat} (ha : i.natAbs < 2 ^ a) (hb : j.natAbs < 2 ^ a) (l : a + 1 ≤ m) : (i + j).natAbs < 2 ^ m := by
  refine lt_up (n := a + 1) ?_ l
  have := Int.natAbs_add_le i j
  rw [Nat.pow_succ]; omega
theorem sub_bits {i j : Int} {a m : Nat} (ha : i.natAbs < 2 ^ a) (hb : j.natAbs < 2 ^ a) (l : a + 1 ≤ m) : (i - j).natAbs < 2 ^ m := by
  rw [Int.sub_eq_add_neg]
  exact add_bits ha (by rw [Int.natAbs_neg]; exact hb) l
section
variable {P : Program} {w : World} {K : PySem.W.Frag} {mg : Str → Option Value} {base : Heap} {H : Hp} {Q : VK} {E : XK}
def spTwo (K : PySem.W.Frag) (g : Rat → Rat → Rat) : Sp := fun vs H Q _ => ∃ (x y : V) (a b : Rat), vs = [x, y] ∧ Dq H x (rD a) ∧ Dq H y (rD b) ∧ Bd 2000 a ∧ Bd 2000 b ∧ ∀ v H', Ext H H' → Dq H' v (rD (g a b)) → Q v H'
theorem call_two {g : Rat → Rat → Rat} {x y : V} {a b : Rat} (hx : Dq H x (rD a)) (hy : Dq H y (rD b)) (ba : Bd 2000 a) (bb : Bd 2000 b) (q : ∀ v H', Ext H H' → Dq H' v (rD (g a b)) → Q v H') : spTwo K g ([x, y] ++ []) H Q E := ⟨x, y, a, b, rfl, hx, hy, ba, bb, q⟩
def spOver (K : PySem.W.Frag) : Sp := fun vs H Q _ => ∃ (x y : V) (a b : Rat), vs = [x, y] ∧ Dq H x (rD a) ∧ Dq H y (rD b) ∧ Bd 2000 a ∧ Bd 2000 b ∧ b ≠ 0 ∧ ∀ v H', Ext H H' → Dq H' v (rD (a / b)) → Q v H'
theorem call_over {x y : V} {a b : Rat} (hx : Dq H x (rD a)) (hy : Dq H y (rD b)) (ba : Bd 2000 a) (bb : Bd 2000 b) (b0 : b ≠ 0) (q : ∀ v H', Ext H H' → Dq H' v (rD (a / b)) → Q v H') : spOver K ([x, y] ++ []) H Q E := ⟨x, y, a, b, rfl, hx, hy, ba, bb, b0, q⟩
def spOpp (K : PySem.W.Frag) : Sp := fun vs H Q _ => ∃ (x : V) (p q : Int), vs = [x] ∧ Dq H x (pD p q) ∧ ∀ v H', Ext H H' → Dq H' v (pD (-p) q) → Q v H'
theorem call_opp {x : V} {p q : Int} (hx : Dq H x (pD p q)) (k : ∀ v H', Ext H H' → Dq H' v (pD (-p) q) → Q v H') : spOpp K ([x] ++ []) H Q E := ⟨x, p, q, rfl, hx, k⟩
def spCmp (K : PySem.W.Frag) : Sp := fun vs H Q _ => ∃ (x y : V) (p q p' q' : Int), vs = [x, y] ∧ Dq H x (pD p q) ∧ Dq H y (pD p' q') ∧ p.natAbs < 2 ^ 2000 ∧ q.natAbs < 2 ^ 2000 ∧ p'.natAbs < 2 ^ 2000 ∧ q'.natAbs < 2 ^ 2000 ∧
  Q (.int (if p * q' < p' * q then -1 else if p' * q < p * q' then 1 else 0)) H
theorem call_cmp {x y : V} {p q p' q' : Int} (hx : Dq H x (pD p q)) (hy : Dq H y (pD p' q')) (b1 : p.natAbs < 2 ^ 2000) (b2 : q.natAbs < 2 ^ 2000) (b3 : p'.natAbs < 2 ^ 2000) (b4 : q'.natAbs < 2 ^ 2000) (k : Q (.int (if p * q' < p' * q then -1 else if p' * q < p * q' then 1 else 0)) H) :
    spCmp K ([x, y] ++ []) H Q E := ⟨x, y, p, q, p', q', rfl, hx, hy, b1, b2, b3, b4, k⟩
theorem ok_plus (D : Df K mg "plus" s_plus P_plus) (p_ratio : Pr P w K mg base "ratio" 1 P_ratio (spRatio K)) : Pr P w K mg base "plus" 2 P_plus (spTwo K (fun a b => a + b)) := by
  refine D.ok sc_plus (fun vs H Q E h => ?_) (fun f cdv A outer s H vs Q E hr h => ?_)
  · obtain ⟨x, y, a, b, rfl, _⟩ := h; rfl
  obtain ⟨x, y, a, b, rfl, hx, hy, ba, bb, k⟩ := h
  obtain ⟨ax, rfl, hx⟩ := hx.pair
  obtain ⟨ay, rfl, hy⟩ := hy.pair
  have nd := sc_plus.nd
  refine ⟨_, (pss_one (ps_ret (pe_callP p_ratio hr (pa_cons (pe_op op_add (pe_op op_mulW (pe_ix (ix_tupK (K := K) rfl) (pv 0) pe_int (fun _ _ => rfl)) (pe_ix (ix_tupK (K := K) rfl) (pv 1) pe_int (fun _ _ => rfl))) (pe_op op_mulW (pe_ix (ix_tupK (K := K) rfl) (pv 1) pe_int (fun _ _ => rfl)) (pe_ix (ix_tupK (K := K) rfl) (pv 0) pe_int (fun _ _ => rfl)))) (pa_cons (pe_op op_mulW (pe_ix (ix_tupK (K := K) rfl) (pv 0) pe_int (fun _ _ => rfl)) (pe_ix (ix_tupK (K := K) rfl) (pv 1) pe_int (fun _ _ => rfl))) pa_nil))))), ?_⟩
  refine w_start (σ := [some _, some _]) rfl ?_
  walk_at "go"
  refine w_wmul (Bd.n ba) (Bd.d bb) (by decide) (by decide) (by decide) ?_
  walk_at "go"
  refine w_wmul (Bd.n bb) (Bd.d ba) (by decide) (by decide) (by decide) ?_
  walk_at "go"
  refine w_wmul (Bd.d ba) (Bd.d bb) (by decide) (by decide) (by decide) ?_
  walk_at "go"
  refine call_ratio (Int.mul_ne_zero (den_nz a) (den_nz b)) (add_bits (a := 4000) (mul_bits (Bd.n ba) (Bd.d bb) (by decide)) (mul_bits (Bd.n bb) (Bd.d ba) (by decide)) (by decide)) (mul_bits (Bd.d ba) (Bd.d bb) (by decide)) fun v H' hE hv => ?_
  walk_at "go"
  rw [R0.add_div] at hv
  exact k v H' hE hv
theorem ok_minus (D : Df K mg "minus" s_minus P_minus) (p_ratio : Pr P w K mg base "ratio" 1 P_ratio (spRatio K)) : Pr P w K mg base "minus" 2 P_minus (spTwo K (fun a b => a - b)) := by
  refine D.ok sc_minus (fun vs H Q E h => ?_) (fun f cdv A outer s H vs Q E hr h => ?_)
  · obtain ⟨x, y, a, b, rfl, _⟩ := h; rfl
  obtain ⟨x, y, a, b, rfl, hx, hy, ba, bb, k⟩ := h
  obtain ⟨ax, rfl, hx⟩ := hx.pair
  obtain ⟨ay, rfl, hy⟩ := hy.pair
  have nd := sc_minus.nd
  refine ⟨_, (pss_one (ps_ret (pe_callP p_ratio hr (pa_cons (pe_op op_sub (pe_op op_mulW (pe_ix (ix_tupK (K := K) rfl) (pv 0) pe_int (fun _ _ => rfl)) (pe_ix (ix_tupK (K := K) rfl) (pv 1) pe_int (fun _ _ => rfl))) (pe_op op_mulW (pe_ix (ix_tupK (K := K) rfl) (pv 1) pe_int (fun _ _ => rfl)) (pe_ix (ix_tupK (K := K) rfl) (pv 0) pe_int (fun _ _ => rfl)))) (pa_cons (pe_op op_mulW (pe_ix (ix_tupK (K := K) rfl) (pv 0) pe_int (fun _ _ => rfl)) (pe_ix (ix_tupK (K := K) rfl) (pv 1) pe_int (fun _ _ => rfl))) pa_nil))))), ?_⟩
  refine w_start (σ := [some _, some _]) rfl ?_
  walk_at "go"
  refine w_wmul (Bd.n ba) (Bd.d bb) (by decide) (by decide) (by decide) ?_
  walk_at "go"
  refine w_wmul (Bd.n bb) (Bd.d ba) (by decide) (by decide) (by decide) ?_
  walk_at "go"
  refine w_wmul (Bd.d ba) (Bd.d bb) (by decide) (by decide) (by decide) ?_
  walk_at "go"
  refine call_ratio (Int.mul_ne_zero (den_nz a) (den_nz b)) (sub_bits (a := 4000) (mul_bits (Bd.n ba) (Bd.d bb) (by decide)) (mul_bits (Bd.n bb) (Bd.d ba) (by decide)) (by decide)) (mul_bits (Bd.d ba) (Bd.d bb) (by decide)) fun v H' hE hv => ?_
  walk_at "go"
  rw [R0.sub_div] at hv
  exact k v H' hE hv
theorem ok_times (D : Df K mg "times" s_times P_times) (p_ratio : Pr P w K mg base "ratio" 1 P_ratio (spRatio K)) : Pr P w K mg base "times" 2 P_times (spTwo K (fun a b => a * b)) := by
  refine D.ok sc_times (fun vs H Q E h => ?_) (fun f cdv A outer s H vs Q E hr h => ?_)
  · obtain ⟨x, y, a, b, rfl, _⟩ := h; rfl
  obtain ⟨x, y, a, b, rfl, hx, hy, ba, bb, k⟩ := h
  obtain ⟨ax, rfl, hx⟩ := hx.pair
  obtain ⟨ay, rfl, hy⟩ := hy.pair
  have nd := sc_times.nd
  refine ⟨_, (pss_one (ps_ret (pe_callP p_ratio hr (pa_cons (pe_op op_mulW (pe_ix (ix_tupK (K := K) rfl) (pv 0) pe_int (fun _ _ => rfl)) (pe_ix (ix_tupK (K := K) rfl) (pv 1) pe_int (fun _ _ => rfl))) (pa_cons (pe_op op_mulW (pe_ix (ix_tupK (K := K) rfl) (pv 0) pe_int (fun _ _ => rfl)) (pe_ix (ix_tupK (K := K) rfl) (pv 1) pe_int (fun _ _ => rfl))) pa_nil))))), ?_⟩
  refine w_start (σ := [some _, some _]) rfl ?_
  walk_at "go"
  refine w_wmul (Bd.n ba) (Bd.n bb) (by decide) (by decide) (by decide) ?_
  walk_at "go"
  refine w_wmul (Bd.d ba) (Bd.d bb) (by decide) (by decide) (by decide) ?_
  walk_at "go"
  refine call_ratio (Int.mul_ne_zero (den_nz a) (den_nz b)) (mul_bits (Bd.n ba) (Bd.n bb) (by decide)) (mul_bits (Bd.d ba) (Bd.d bb) (by decide)) fun v H' hE hv => ?_
  walk_at "go"
  rw [R0.mul_div] at hv
  exact k v H' hE hv
theorem ok_over (D : Df K mg "over" s_over P_over) (p_ratio : Pr P w K mg base "ratio" 1 P_ratio (spRatio K)) : Pr P w K mg base "over" 2 P_over (spOver K) := by
  refine D.ok sc_over (fun vs H Q E h => ?_) (fun f cdv A outer s H vs Q E hr h => ?_)
  · obtain ⟨x, y, a, b, rfl, _⟩ := h; rfl
  obtain ⟨x, y, a, b, rfl, hx, hy, ba, bb, b0, k⟩ := h
  obtain ⟨ax, rfl, hx⟩ := hx.pair
  obtain ⟨ay, rfl, hy⟩ := hy.pair
  have nd := sc_over.nd
  refine ⟨_, (pss_one (ps_ret (pe_callP p_ratio hr (pa_cons (pe_op op_mulW (pe_ix (ix_tupK (K := K) rfl) (pv 0) pe_int (fun _ _ => rfl)) (pe_ix (ix_tupK (K := K) rfl) (pv 1) pe_int (fun _ _ => rfl))) (pa_cons (pe_op op_mulW (pe_ix (ix_tupK (K := K) rfl) (pv 0) pe_int (fun _ _ => rfl)) (pe_ix (ix_tupK (K := K) rfl) (pv 1) pe_int (fun _ _ => rfl))) pa_nil))))), ?_⟩
  refine w_start (σ := [some _, some _]) rfl ?_
  walk_at "go"
  refine w_wmul (Bd.n ba) (Bd.d bb) (by decide) (by decide) (by decide) ?_
  walk_at "go"
  refine w_wmul (Bd.d ba) (Bd.n bb) (by decide) (by decide) (by decide) ?_
  walk_at "go"
  refine call_ratio (Int.mul_ne_zero (den_nz a) (num_nz b0)) (mul_bits (Bd.n ba) (Bd.d bb) (by decide)) (mul_bits (Bd.d ba) (Bd.n bb) (by decide)) fun v H' hE hv => ?_
  walk_at "go"
  rw [R0.over_div b0] at hv
  exact k v H' hE hv
theorem ok_opposite (D : Df K mg "opposite" s_opposite P_opposite) : Pr P w K mg base "opposite" 1 P_opposite (spOpp K) := by
  refine D.ok sc_opposite (fun vs H Q E h => ?_) (fun f cdv A outer s H vs Q E hr h => ?_)
  · obtain ⟨x, p, q, rfl, _⟩ := h; rfl
  obtain ⟨x, p, q, rfl, hx, k⟩ := h
  obtain ⟨ax, rfl, hx⟩ := hx.pair
  have nd := sc_opposite.nd
  refine ⟨_, (pss_one (ps_ret (pe_tup (pa_cons (pe_un un_neg (pe_ix (ix_tupK (K := K) rfl) (pv 0) pe_int (fun _ _ => rfl))) (pa_cons (pe_ix (ix_tupK (K := K) rfl) (pv 0) pe_int (fun _ _ => rfl)) pa_nil))))), ?_⟩
  refine w_start (σ := [some _]) rfl ?_
  walk_at "go"
  intro a ha
  exact k _ _ (Ext.new ha) (.of_pair L2.upd_same)
theorem ok_compare (D : Df K mg "compare" s_compare P_compare) : Pr P w K mg base "compare" 1 P_compare (spCmp K) := by
  refine D.ok sc_compare (fun vs H Q E h => ?_) (fun f cdv A outer s H vs Q E hr h => ?_)
  · obtain ⟨x, y, p, q, p', q', rfl, _⟩ := h; rfl
  obtain ⟨x, y, p, q, p', q', rfl, hx, hy, b1, b2, b3, b4, k⟩ := h
  obtain ⟨ax, rfl, hx⟩ := hx.pair
  obtain ⟨ay, rfl, hy⟩ := hy.pair
  have nd := sc_compare.nd
  refine ⟨_, (pss_cons (ps_set (i := 2) nd rfl (Or.inl rfl) (pe_op op_mulW (pe_ix (ix_tupK (K := K) rfl) (pv 0) pe_int (fun _ _ => rfl)) (pe_ix (ix_tupK (K := K) rfl) (pv 1) pe_int (fun _ _ => rfl))))
      (pss_cons (ps_set (i := 3) nd rfl (Or.inl rfl) (pe_op op_mulW (pe_ix (ix_tupK (K := K) rfl) (pv 1) pe_int (fun _ _ => rfl)) (pe_ix (ix_tupK (K := K) rfl) (pv 0) pe_int (fun _ _ => rfl))))
      (pss_cons (ps_if (pt_cmpR op_lt (pv 2) (pv 3) (nomark _)) (pss_one (ps_ret (pe_un un_neg pe_int))) pss_nil)
      (pss_cons (ps_if (pt_cmpR op_gt (pv 2) (pv 3) (nomark _)) (pss_one (ps_ret pe_int)) pss_nil)
      (pss_one (ps_ret pe_int)))))), ?_⟩
  refine w_start (σ := [some _, some _, none, none]) rfl ?_
  walk_at "go"
  refine w_wmul b1 b4 (by decide) (by decide) (by decide) ?_
  walk_at "go"
  refine w_wmul b3 b2 (by decide) (by decide) (by decide) ?_
  walk_at "go"
  refine ite_d (fun c => ?_) (fun c => ?_)
  · rw [if_pos c] at k
    walk_at "go"
    exact k
  · rw [if_neg c] at k
    walk_at "go"
    refine ite_d (fun c2 => ?_) (fun c2 => ?_)
    · rw [if_pos c2] at k
      walk_at "go"
      exact k
    · rw [if_neg c2] at k
      walk_at "go"
      exact k
end
end Kf

end
section
set_option Elab.async false
set_option linter.all false
set_option maxRecDepth 100000
set_option maxHeartbeats 4000000
local macro_rules | `(tactic| walk_at "npl") => `(tactic| first | exact Kf.npl rfl | exact Kf.npl_ints _ | exact Kf.npl_one _ _ | exact Kf.npl_refs _ | assumption)
local macro_rules | `(tactic| walk_at "nn") => `(tactic| first
  | assumption
  | (refine' Kf.Ext.non ?nne ?nnh; (case nne => assumption); (case nnh => walk_at "nn")))
local macro_rules | `(tactic| walk_at "ext") => `(tactic| first
  | assumption
  | exact Kf.Ext.refl
  | (refine' Kf.Ext.newer ?exa ?exn; (case exn => assumption); (case exa => walk_at "ext"))
  | (refine' Kf.Ext.own ?exa ?exn; (case exn => walk_at "nn"); (case exa => walk_at "ext"))
  | (refine' Kf.Ext.trans ?exa ?exb; (case exb => assumption); (case exa => walk_at "ext")))
local macro_rules | `(tactic| walk_at "pool") => `(tactic| first
  | assumption
  | (refine' Kf.PoolAt.ext ?plh ?ple; (case plh => assumption); (case ple => walk_at "ext"))
  | (refine' Kf.PoolAt.upd ?plh ?plo ?pln; (case plo => assumption); (case pln => walk_at "npl"); (case plh => walk_at "pool")))
local macro_rules | `(tactic| walk_at "lk") => `(tactic| first
  | assumption
  | exact L2.upd_same
  | (refine' Kf.upd_old ?lkn ?lkh; (case lkn => assumption); (case lkh => walk_at "lk"))
  | (refine' Kf.upd_oth ?lkn ?lkh; (case lkn => (first | assumption | (apply Ne.symm; assumption))); (case lkh => walk_at "lk"))
  | (refine' Kf.Ext.get ?lke ?lkh ?lkn; (case lke => assumption); (case lkh => walk_at "lk"); (case lkn => walk_at "npl"))
  | (refine' L2.Same.at ?lke ?lkh; (case lke => assumption); (case lkh => walk_at "lk")))
local macro_rules | `(tactic| walk_at "sq") => `(tactic| first
  | assumption
  | (refine' L2.SqL.of ?sqh; (case sqh => walk_at "lk"))
  | (refine' L2.SqT.of ?sqh; (case sqh => walk_at "lk"))
  | (refine' Kf.Ext.seqL ?sqe ?sqh ?sqn; (case sqh => assumption); (case sqe => walk_at "ext"); (case sqn => walk_at "npl"))
  | (refine' Kf.Ext.seqT ?sqe ?sqh; (case sqh => assumption); (case sqe => walk_at "ext")))
local macro_rules | `(tactic| walk_at "at") => `(tactic| first | exact L2.atI_nat (j := 0) rfl | exact L2.atI_nat (j := 1) rfl | exact L2.atI_nat (j := 2) rfl | exact L2.atI_nat (j := 3) rfl | exact L2.atI_nat (j := 4) rfl | assumption)
local macro_rules | `(tactic| walk_at "ixn") => `(tactic| first | exact Kf.ixN_nat (j := 0) rfl | exact Kf.ixN_nat (j := 1) rfl | exact Kf.ixN_nat (j := 2) rfl | exact Kf.ixN_nat (j := 3) rfl | assumption)
local macro_rules | `(tactic| walk_at "set") => `(tactic| (first | (simp only [List.set_cons_succ, List.set_cons_zero]; rfl) | rfl))
local macro_rules | `(tactic| walk_at "om") => `(tactic| first | decide | omega | (simp only [List.length_map, List.length_cons, List.length_nil] at *; omega))
local macro_rules | `(tactic| walk_at "calls") => `(tactic| first
  | (with_reducible refine' Kf.call_take ?clp ?cla ?clb ?clq; (case clp => walk_at "pool"); (case cla => walk_at "om"); (case clb => walk_at "om"); intro r H' hE h0 h1)
  | (with_reducible refine' Kf.call_pool ?cls ?cla ?clq; (case cls => walk_at "sq"); (case cla => walk_at "om"); intro p H' hE hN hP)
  | (with_reducible refine' Kf.call_turn ?cls ?clp ?cla ?clq; (case cls => walk_at "sq"); (case clp => walk_at "pool"); (case cla => walk_at "om"); intro u H' hE hP))
local macro_rules | `(tactic| walk_at "side") => `(tactic| first
  | exact Kf.cmul_fmod (by decide) (by decide)
  | exact rfl
  | decide
  | omega
  | assumption
  | (refine ⟨?_, ?_⟩ <;> decide)
  | (refine ⟨?_, ?_, ?_⟩ <;> decide)
  | (refine ⟨?_, ?_⟩ <;> omega)
  | (refine Or.inl ⟨?_, ?_⟩ <;> decide)
  | (refine Or.inr ⟨?_, ?_⟩ <;> decide)
  | (refine Or.inl ⟨?_, ?_⟩ <;> omega)
  | (refine Or.inr ⟨?_, ?_⟩ <;> omega))
local macro_rules | `(tactic| walk_at "kit") => `(tactic| first | exact Kf.isi_int_int | exact Kf.isi_int_bool | exact Kf.isi_int_str | exact Kf.isi_int_list | exact Kf.isi_int_tuple | exact Kf.isi_bool_int | exact Kf.isi_bool_bool | exact Kf.isi_bool_str | exact Kf.isi_bool_list | exact Kf.isi_bool_tuple | exact Kf.isi_str_int | exact Kf.isi_str_bool | exact Kf.isi_str_str | exact Kf.isi_str_list | exact Kf.isi_str_tuple | exact Kf.isi_non_list | exact Kf.isi_non_tuple | exact Kf.isi_list_list | exact Kf.isi_list_tuple | exact Kf.isi_tuple_list | exact Kf.isi_tuple_tuple | exact Kf.isi_dict_dict)
local macro_rules | `(tactic| walk_at "ty") => `(tactic| first
  | exact L2.TyX.base (L2.TyOf.int _)
  | exact L2.TyX.base (L2.TyOf.bl _)
  | exact L2.TyX.base (L2.TyOf.str _)
  | exact L2.TyX.base L2.TyOf.non
  | (refine' L2.TyX.base (L2.TyOf.lst ?tyh); (case tyh => walk_at "lk"))
  | (refine' L2.TyX.base (L2.TyOf.tup ?tyh); (case tyh => walk_at "lk"))
  | (refine' L2.TyX.base (L2.TyOf.dK ?tyh); (case tyh => walk_at "lk")))
local macro_rules | `(tactic| walk_at "om2") => `(tactic| first | assumption | decide | omega)
local macro_rules | `(tactic| walk_at "st") => `(tactic| with_reducible first
  | (refine Kf.w_var rfl ?_)
  | (refine Kf.w_c ?_)
  | (refine Kf.w_seq ?_)
  | (refine Kf.w_asg ?_)
  | (refine' Kf.w_gname ?sth ?_; (case sth => with_unfolding_all walk_at "set"))
  | (refine Kf.w_op ?_)
  | (refine Kf.w_un ?_)
  | (refine Kf.w_rU ?_)
  | (refine Kf.w_rI0 ?_)
  | (refine' Kf.w_rI ?sth ?_; (case sth => with_unfolding_all walk_at "side"))
  | (refine' Kf.w_rEq ?sth ?_; (case sth => with_unfolding_all rfl))
  | (refine' Kf.w_rNe ?sth ?_; (case sth => with_unfolding_all rfl))
  | (refine Kf.w_tTest ?_)
  | (refine Kf.w_tB ?_)
  | (refine Kf.w_exbl ?_)
  | (refine Kf.w_exint ?_)
  | (refine Kf.w_ifS ?_)
  | (refine Kf.w_ret ?_)
  | (refine Kf.w_retN ?_)
  | (refine Kf.w_drop ?_)
  | (refine Kf.w_and ?_)
  | (refine Kf.w_or ?_)
  | (refine Kf.w_not ?_)
  | (refine Kf.w_andV ?_)
  | (refine Kf.w_orV ?_)
  | (refine Kf.w_notV ?_)
  | (refine Kf.w_if ?_)
  | (refine Kf.w_lc ?_)
  | (refine Kf.w_for ?_)
  | (refine Kf.w_rng1 ?_)
  | (refine' Kf.w_rng1x ?sth ?stg ?_; (case sth => with_unfolding_all walk_at "om"); (case stg => with_unfolding_all walk_at "om"))
  | (refine Kf.w_ilist ?_)
  | (refine Kf.w_iseq ?_)
  | (refine Kf.w_itup ?_)
  | (refine' Kf.w_ilistx ?sth ?_; (case sth => with_unfolding_all walk_at "sq"))
  | (refine' Kf.w_itupx ?sth ?_; (case sth => with_unfolding_all walk_at "sq"))
  | (refine' Kf.w_wipe ?sth ?_; (case sth => with_unfolding_all rfl))
  | (refine Kf.w_yes ?_)
  | (refine' Kf.w_isi ?sth ?stg ?_; (case sth => with_unfolding_all walk_at "ty"); (case stg => walk_at "kit"))
  | (refine Kf.w_isN ?_)
  | (refine Kf.w_notN ?_)
  | (refine Kf.w_cb ?_)
  | (refine Kf.w_nil ?_)
  | (refine Kf.w_cons ?_)
  | (refine Kf.w_tup ?_)
  | (refine Kf.w_lst ?_)
  | (refine' Kf.w_lines ?sth ?_; (case sth => with_unfolding_all rfl))
  | (refine Kf.w_call ?_)
  | (refine Kf.w_next ?_)
  | (refine Kf.w_break ?_)
  | (refine Kf.w_cont ?_)
  | (refine Kf.w_dnewK ?_)
  | (refine Kf.w_dget ?_)
  | (refine Kf.w_sl ?_)
  | (refine Kf.w_nopart ?_)
  | (refine Kf.w_part ?_)
  | (refine Kf.w_bm ?_)
  | (refine Kf.w_bm0 ?_)
  | (refine' Kf.w_bmL ?sth ?_; (case sth => with_unfolding_all walk_at "lk"))
  | (refine' Kf.w_cat ?sth ?stg ?stf ?_; (case sth => with_unfolding_all walk_at "lk"); (case stg => with_unfolding_all walk_at "lk"); (case stf => with_unfolding_all walk_at "om"))
  | (refine' Kf.w_slL ?sth ?_; (case sth => with_unfolding_all walk_at "sq"))
  | (refine' Kf.w_inL ?sth ?_; (case sth => with_unfolding_all walk_at "sq"))
  | (refine' Kf.w_inT ?sth ?_; (case sth => with_unfolding_all walk_at "sq"))
  | (refine' Kf.w_ninL ?sth ?_; (case sth => with_unfolding_all walk_at "sq"))
  | (refine' Kf.w_ninT ?sth ?_; (case sth => with_unfolding_all walk_at "sq"))
  | (refine' Kf.w_listof ?sth ?_; (case sth => with_unfolding_all walk_at "sq"))
  | (refine' Kf.w_tupof ?sth ?_; (case sth => with_unfolding_all walk_at "sq"))
  | (refine Kf.w_listRev ?_)
  | (refine Kf.w_gsub ?_)
  | (refine' Kf.w_ixL ?sth ?stg ?_; (case sth => with_unfolding_all walk_at "sq"); (case stg => with_unfolding_all walk_at "at"))
  | (refine' Kf.w_ixT ?sth ?stg ?_; (case sth => with_unfolding_all walk_at "sq"); (case stg => with_unfolding_all walk_at "at"))
  | (refine' Kf.w_setL ?sth ?stg ?_; (case sth => with_unfolding_all walk_at "lk"); (case stg => with_unfolding_all walk_at "ixn"))
  | (refine' Kf.w_len ?sth ?_; (case sth => with_unfolding_all walk_at "sq"))
  | (refine' Kf.w_lenT ?sth ?_; (case sth => with_unfolding_all walk_at "sq"))
  | (refine Kf.w_int1 ?_)
  | (refine Kf.w_intb ?_)
  | (refine Kf.w_abs ?_)
  | (refine Kf.w_aug rfl ?_)
  | (refine Kf.w_par ?_)
  | (refine' Kf.w_gtup ?sth ?stg ?_; (case sth => with_unfolding_all walk_at "sq"); (case stg => with_unfolding_all exact rfl))
  | (refine' Kf.w_glst ?sth ?stg ?_; (case sth => with_unfolding_all walk_at "sq"); (case stg => with_unfolding_all exact rfl))
  | (refine Kf.w_rng2 ?_)
  | (refine Kf.w_rng3 ?_)
  | (refine' Kf.w_rng2x ?sth ?stg ?stf ?ste ?_; (case sth => with_unfolding_all walk_at "om"); (case stg => with_unfolding_all walk_at "om"); (case stf => with_unfolding_all walk_at "om"); (case ste => with_unfolding_all walk_at "om"))
  | (refine Kf.w_gcons ?_)
  | (refine Kf.w_gnil ?_)
  | (refine Kf.w_gcd ?_)
  | (refine Kf.w_bits ?_)
  | (refine Kf.w_two ?_)
  | (refine Kf.w_ipI ?_)
  | (refine L2.iteT ?_)
  | (refine L2.iteF ?_)
  | (refine Kf.iteNT ?_)
  | (refine Kf.iteNF ?_)
  | (refine' Kf.ite_decT ?sth ?_; (case sth => exact rfl))
  | (refine' Kf.ite_decF ?sth ?_; (case sth => with_unfolding_all (intro e; cases e; done)))
  | (refine' Kf.ite_ndecF ?sth ?_; (case sth => exact rfl))
  | (refine' Kf.ite_ndecT ?sth ?_; (case sth => with_unfolding_all (intro e; cases e; done)))
  | (refine' Kf.ite_viT ?sth ?_; (case sth => (with_unfolding_all walk_at "om2")))
  | (refine' Kf.ite_viF ?sth ?_; (case sth => (with_unfolding_all walk_at "om2")))
  | (refine' Kf.ite_nviT ?sth ?_; (case sth => (with_unfolding_all walk_at "om2")))
  | (refine' Kf.ite_nviF ?sth ?_; (case sth => (with_unfolding_all walk_at "om2")))
  | (refine' Kf.ite_decT ?sth ?_; (case sth => (with_unfolding_all walk_at "om2")))
  | (refine' Kf.ite_decF ?sth ?_; (case sth => (with_unfolding_all walk_at "om2")))
  | with_unfolding_all walk_at "calls")
local macro_rules | `(tactic| walk_at "go") => `(tactic| repeat walk_at "st")

namespace Kf
open PySem PySem.Spec PyProof.Rows L2
open R0 (Bd Eu)
abbrev s__law_lowest : Stmt := topS 29
abbrev N__law_lowest : List Str := ["p", "q", "a", "b", "k"]
abbrev P__law_lowest : List Str := ["p", "q"]
theorem sc__law_lowest : FnScope N__law_lowest P__law_lowest (defScope s__law_lowest) := ⟨rfl, rfl, rfl, by decide +kernel, rfl, by decide +kernel, by decide +kernel⟩
section
variable {P : Program} {w : World} {K : PySem.W.Frag} {mg : Str → Option Value} {base : Heap} {H : Hp} {Q : VK} {E : XK}
def spLow (K : PySem.W.Frag) : Sp := fun vs H Q _ => ∃ p q : Int, vs = [.int p, .int q] ∧ 0 < q ∧ q.natAbs < 2 ^ 8000 ∧ ∀ v H', Ext H H' → Dq H' v (rD (Rat.divInt p q)) → Q v H'
theorem call_low {p q : Int} (h0 : 0 < q) (h2 : q.natAbs < 2 ^ 8000) (k : ∀ v H', Ext H H' → Dq H' v (rD (Rat.divInt p q)) → Q v H') : spLow K ([.int p, .int q] ++ []) H Q E := ⟨p, q, rfl, h0, h2, k⟩
theorem bits_lt {q : Int} (h : 0 < q) : q < 2 ^ Builtin.Int.intBits q := by
  unfold Builtin.Int.intBits
  rw [if_neg (by simp; omega)]
  have h1 := Nat.lt_log2_self (n := q.natAbs)
  have h2 : ((q.natAbs : Nat) : Int) < ((2 ^ (q.natAbs.log2 + 1) : Nat) : Int) := by exact_mod_cast h1
  have h3 : ((2 ^ (q.natAbs.log2 + 1) : Nat) : Int) = (2 : Int) ^ (q.natAbs.log2 + 1) := by exact_mod_cast rfl
  omega
theorem bits_le {q : Int} {n : Nat} (h : q.natAbs < 2 ^ n) (h0 : 0 < n) : Builtin.Int.intBits q ≤ n := by
  unfold Builtin.Int.intBits
  have := PySem.Flt.log2_lt_of h0 h
  split <;> omega
theorem ok_lowest (D : Df K mg "_law_lowest" s__law_lowest P__law_lowest) (b_abs : mg "abs" = none) (b_int : mg "int" = none) (b_range : mg "range" = none) : Pr P w K mg base "_law_lowest" 1 P__law_lowest (spLow K) := by
  refine D.ok sc__law_lowest (fun vs H Q E h => ?_) (fun f cdv A outer s H vs Q E hr h => ?_)
  · obtain ⟨p, q, rfl, _⟩ := h; rfl
  obtain ⟨p, q, rfl, h0, h2, k⟩ := h
  have nd := sc__law_lowest.nd
  obtain ⟨gb, g0⟩ := R0.gcd_bits (p := p) h2 (by omega)
  have L0 := bits_lt h0
  have L1 := bits_le h2 (by decide)
  generalize hL : Builtin.Int.intBits q = L at L0 L1
  have fin : ∀ (a : Addr) (g : Int) (H' : Hp), Ext H H' → H' a = none → g = (Nat.gcd p.natAbs q.natAbs : Nat) → Q (.ref a) (upd H' a (.tup [.int (p.fdiv g), .int (q.fdiv g)])) := fun a g H' hE ha e => by
    subst e
    rw [← (R0.ratio_pos (p := p) h0).1, ← (R0.ratio_pos (p := p) h0).2]
    exact k _ _ (hE.newer ha) (.of_pair L2.upd_same)
  refine ⟨_, (pss_cons (ps_set (i := 2) nd rfl (Or.inl rfl) (pe_callB call_abs (by rfl) b_abs (by decide +kernel) (pa_cons (pv 0) pa_nil)))
      (pss_cons (ps_set (i := 3) nd rfl (Or.inl rfl) (pv 1))
      (pss_cons (ps_for PassesOwn.never rfl (pi_range1 (by rfl) b_range (pa_cons (pe_op op_add (pe_op op_mulW pe_int (pe_bits (pv 3))) pe_int) pa_nil)) (pg_name (i := 4) nd rfl (Or.inl rfl)) (pss_cons (ps_if (pt_cmpR op_eq (pv 3) pe_int (nomark _)) (pss_one (ps_break)) pss_nil)
      (pss_one (ps_par (i := 2) (j := 3) rfl nd rfl rfl (by decide) rfl rfl (pa_cons (pv 3) (pa_cons (pe_op op_modN (pe_callTy call_int1 (by rfl) b_int (by decide +kernel) (pa_cons (pv 2) pa_nil)) (pe_callTy call_int1 (by rfl) b_int (by decide +kernel) (pa_cons (pv 3) pa_nil))) pa_nil)) (by rfl)))))
      (pss_one (ps_ret (pe_tup (pa_cons (pe_op op_fdivX (pv 0) (pv 2)) (pa_cons (pe_op op_fdivX (pv 1) (pv 2)) pa_nil)))))))), ?_⟩
  refine w_start (σ := [some _, some _, none, none, none]) rfl ?_
  walk_at "go"
  rw [hL]
  refine w_wmul (a := 2) (b := 14) (by decide) (by omega) (by decide) (by decide) (by decide) ?_
  walk_at "go"
  have en : ((2 * (L : Int)) + 5).toNat = 2 * L + 5 := by omega
  rw [en]
  refine for_range (fun i σ H' => ∃ (a b : Int) (y : Option V), σ = [some (.int p), some (.int q), some (.int a), some (.int b), y] ∧ Ext H H' ∧ Eu p q L i a b) ⟨_, _, _, rfl, Ext.refl, Eu.init h0 (by split <;> omega) (by split <;> omega)⟩ ?_ ?_
  · rintro i σ H1 hi ⟨a, b, y, rfl, hE, eu⟩
    walk_at "go"
    refine ite_vi (fun c => ?_) (fun c => ?_)
    · walk_at "go"
      have eg := eu.gcd c
      refine w_wdiv (b := 8000) (by omega) (by omega) (by decide) (by decide) ?_
      walk_at "go"
      refine w_wdiv (b := 8000) (by omega) (by omega) (by decide) (by decide) ?_
      walk_at "go"
      intro x hx
      exact fin x a H1 hE hx eg
    · walk_at "go"
      exact ⟨_, _, _, rfl, hE, eu.next L0 c⟩
  · rintro σ H1 ⟨a, b, y, rfl, hE, eu⟩
    have eg := eu.gcd eu.ends
    walk_at "go"
    refine w_wdiv (b := 8000) (by omega) (by omega) (by decide) (by decide) ?_
    walk_at "go"
    refine w_wdiv (b := 8000) (by omega) (by omega) (by decide) (by decide) ?_
    walk_at "go"
    intro x hx
    exact fin x a H1 hE hx eg
end
end Kf

end
section
set_option Elab.async false
set_option linter.all false
set_option maxRecDepth 100000
set_option maxHeartbeats 4000000
local macro_rules | `(tactic| walk_at "npl") => `(tactic| first | exact Kf.npl rfl | exact Kf.npl_ints _ | exact Kf.npl_one _ _ | exact Kf.npl_refs _ | assumption)
local macro_rules | `(tactic| walk_at "nn") => `(tactic| first
  | assumption
  | (refine' Kf.Ext.non ?nne ?nnh; (case nne => assumption); (case nnh => walk_at "nn")))
local macro_rules | `(tactic| walk_at "ext") => `(tactic| first
  | assumption
  | exact Kf.Ext.refl
  | (refine' Kf.Ext.newer ?exa ?exn; (case exn => assumption); (case exa => walk_at "ext"))
  | (refine' Kf.Ext.own ?exa ?exn; (case exn => walk_at "nn"); (case exa => walk_at "ext"))
  | (refine' Kf.Ext.trans ?exa ?exb; (case exb => assumption); (case exa => walk_at "ext")))
local macro_rules | `(tactic| walk_at "pool") => `(tactic| first
  | assumption
  | (refine' Kf.PoolAt.ext ?plh ?ple; (case plh => assumption); (case ple => walk_at "ext"))
  | (refine' Kf.PoolAt.upd ?plh ?plo ?pln; (case plo => assumption); (case pln => walk_at "npl"); (case plh => walk_at "pool")))
local macro_rules | `(tactic| walk_at "lk") => `(tactic| first
  | assumption
  | exact L2.upd_same
  | (refine' Kf.upd_old ?lkn ?lkh; (case lkn => assumption); (case lkh => walk_at "lk"))
  | (refine' Kf.upd_oth ?lkn ?lkh; (case lkn => (first | assumption | (apply Ne.symm; assumption))); (case lkh => walk_at "lk"))
  | (refine' Kf.Ext.get ?lke ?lkh ?lkn; (case lke => assumption); (case lkh => walk_at "lk"); (case lkn => walk_at "npl"))
  | (refine' L2.Same.at ?lke ?lkh; (case lke => assumption); (case lkh => walk_at "lk")))
local macro_rules | `(tactic| walk_at "sq") => `(tactic| first
  | assumption
  | (refine' L2.SqL.of ?sqh; (case sqh => walk_at "lk"))
  | (refine' L2.SqT.of ?sqh; (case sqh => walk_at "lk"))
  | (refine' Kf.Ext.seqL ?sqe ?sqh ?sqn; (case sqh => assumption); (case sqe => walk_at "ext"); (case sqn => walk_at "npl"))
  | (refine' Kf.Ext.seqT ?sqe ?sqh; (case sqh => assumption); (case sqe => walk_at "ext")))
local macro_rules | `(tactic| walk_at "at") => `(tactic| first | exact L2.atI_nat (j := 0) rfl | exact L2.atI_nat (j := 1) rfl | exact L2.atI_nat (j := 2) rfl | exact L2.atI_nat (j := 3) rfl | exact L2.atI_nat (j := 4) rfl | assumption)
local macro_rules | `(tactic| walk_at "ixn") => `(tactic| first | exact Kf.ixN_nat (j := 0) rfl | exact Kf.ixN_nat (j := 1) rfl | exact Kf.ixN_nat (j := 2) rfl | exact Kf.ixN_nat (j := 3) rfl | assumption)
local macro_rules | `(tactic| walk_at "set") => `(tactic| (first | (simp only [List.set_cons_succ, List.set_cons_zero]; rfl) | rfl))
local macro_rules | `(tactic| walk_at "om") => `(tactic| first | decide | omega | (simp only [List.length_map, List.length_cons, List.length_nil] at *; omega))
local macro_rules | `(tactic| walk_at "calls") => `(tactic| first
  | (with_reducible refine' Kf.call_take ?clp ?cla ?clb ?clq; (case clp => walk_at "pool"); (case cla => walk_at "om"); (case clb => walk_at "om"); intro r H' hE h0 h1)
  | (with_reducible refine' Kf.call_pool ?cls ?cla ?clq; (case cls => walk_at "sq"); (case cla => walk_at "om"); intro p H' hE hN hP)
  | (with_reducible refine' Kf.call_turn ?cls ?clp ?cla ?clq; (case cls => walk_at "sq"); (case clp => walk_at "pool"); (case cla => walk_at "om"); intro u H' hE hP))
local macro_rules | `(tactic| walk_at "side") => `(tactic| first
  | exact Kf.cmul_fmod (by decide) (by decide)
  | exact rfl
  | decide
  | omega
  | assumption
  | (refine ⟨?_, ?_⟩ <;> decide)
  | (refine ⟨?_, ?_, ?_⟩ <;> decide)
  | (refine ⟨?_, ?_⟩ <;> omega)
  | (refine Or.inl ⟨?_, ?_⟩ <;> decide)
  | (refine Or.inr ⟨?_, ?_⟩ <;> decide)
  | (refine Or.inl ⟨?_, ?_⟩ <;> omega)
  | (refine Or.inr ⟨?_, ?_⟩ <;> omega))
local macro_rules | `(tactic| walk_at "kit") => `(tactic| first | exact Kf.isi_int_int | exact Kf.isi_int_bool | exact Kf.isi_int_str | exact Kf.isi_int_list | exact Kf.isi_int_tuple | exact Kf.isi_bool_int | exact Kf.isi_bool_bool | exact Kf.isi_bool_str | exact Kf.isi_bool_list | exact Kf.isi_bool_tuple | exact Kf.isi_str_int | exact Kf.isi_str_bool | exact Kf.isi_str_str | exact Kf.isi_str_list | exact Kf.isi_str_tuple | exact Kf.isi_non_list | exact Kf.isi_non_tuple | exact Kf.isi_list_list | exact Kf.isi_list_tuple | exact Kf.isi_tuple_list | exact Kf.isi_tuple_tuple | exact Kf.isi_dict_dict)
local macro_rules | `(tactic| walk_at "ty") => `(tactic| first
  | exact L2.TyX.base (L2.TyOf.int _)
  | exact L2.TyX.base (L2.TyOf.bl _)
  | exact L2.TyX.base (L2.TyOf.str _)
  | exact L2.TyX.base L2.TyOf.non
  | (refine' L2.TyX.base (L2.TyOf.lst ?tyh); (case tyh => walk_at "lk"))
  | (refine' L2.TyX.base (L2.TyOf.tup ?tyh); (case tyh => walk_at "lk"))
  | (refine' L2.TyX.base (L2.TyOf.dK ?tyh); (case tyh => walk_at "lk")))
local macro_rules | `(tactic| walk_at "om2") => `(tactic| first | assumption | decide | omega)
local macro_rules | `(tactic| walk_at "st") => `(tactic| with_reducible first
  | (refine Kf.w_var rfl ?_)
  | (refine Kf.w_c ?_)
  | (refine Kf.w_seq ?_)
  | (refine Kf.w_asg ?_)
  | (refine' Kf.w_gname ?sth ?_; (case sth => with_unfolding_all walk_at "set"))
  | (refine Kf.w_op ?_)
  | (refine Kf.w_un ?_)
  | (refine Kf.w_rU ?_)
  | (refine Kf.w_rI0 ?_)
  | (refine' Kf.w_rI ?sth ?_; (case sth => with_unfolding_all walk_at "side"))
  | (refine' Kf.w_rEq ?sth ?_; (case sth => with_unfolding_all rfl))
  | (refine' Kf.w_rNe ?sth ?_; (case sth => with_unfolding_all rfl))
  | (refine Kf.w_tTest ?_)
  | (refine Kf.w_tB ?_)
  | (refine Kf.w_exbl ?_)
  | (refine Kf.w_exint ?_)
  | (refine Kf.w_ifS ?_)
  | (refine Kf.w_ret ?_)
  | (refine Kf.w_retN ?_)
  | (refine Kf.w_drop ?_)
  | (refine Kf.w_and ?_)
  | (refine Kf.w_or ?_)
  | (refine Kf.w_not ?_)
  | (refine Kf.w_andV ?_)
  | (refine Kf.w_orV ?_)
  | (refine Kf.w_notV ?_)
  | (refine Kf.w_if ?_)
  | (refine Kf.w_lc ?_)
  | (refine Kf.w_for ?_)
  | (refine Kf.w_rng1 ?_)
  | (refine' Kf.w_rng1x ?sth ?stg ?_; (case sth => with_unfolding_all walk_at "om"); (case stg => with_unfolding_all walk_at "om"))
  | (refine Kf.w_ilist ?_)
  | (refine Kf.w_iseq ?_)
  | (refine Kf.w_itup ?_)
  | (refine' Kf.w_ilistx ?sth ?_; (case sth => with_unfolding_all walk_at "sq"))
  | (refine' Kf.w_itupx ?sth ?_; (case sth => with_unfolding_all walk_at "sq"))
  | (refine' Kf.w_wipe ?sth ?_; (case sth => with_unfolding_all rfl))
  | (refine Kf.w_yes ?_)
  | (refine' Kf.w_isi ?sth ?stg ?_; (case sth => with_unfolding_all walk_at "ty"); (case stg => walk_at "kit"))
  | (refine Kf.w_isN ?_)
  | (refine Kf.w_notN ?_)
  | (refine Kf.w_cb ?_)
  | (refine Kf.w_nil ?_)
  | (refine Kf.w_cons ?_)
  | (refine Kf.w_tup ?_)
  | (refine Kf.w_lst ?_)
  | (refine' Kf.w_lines ?sth ?_; (case sth => with_unfolding_all rfl))
  | (refine Kf.w_call ?_)
  | (refine Kf.w_next ?_)
  | (refine Kf.w_break ?_)
  | (refine Kf.w_cont ?_)
  | (refine Kf.w_dnewK ?_)
  | (refine Kf.w_dget ?_)
  | (refine Kf.w_sl ?_)
  | (refine Kf.w_nopart ?_)
  | (refine Kf.w_part ?_)
  | (refine Kf.w_bm ?_)
  | (refine Kf.w_bm0 ?_)
  | (refine' Kf.w_bmL ?sth ?_; (case sth => with_unfolding_all walk_at "lk"))
  | (refine' Kf.w_cat ?sth ?stg ?stf ?_; (case sth => with_unfolding_all walk_at "lk"); (case stg => with_unfolding_all walk_at "lk"); (case stf => with_unfolding_all walk_at "om"))
  | (refine' Kf.w_slL ?sth ?_; (case sth => with_unfolding_all walk_at "sq"))
  | (refine' Kf.w_inL ?sth ?_; (case sth => with_unfolding_all walk_at "sq"))
  | (refine' Kf.w_inT ?sth ?_; (case sth => with_unfolding_all walk_at "sq"))
  | (refine' Kf.w_ninL ?sth ?_; (case sth => with_unfolding_all walk_at "sq"))
  | (refine' Kf.w_ninT ?sth ?_; (case sth => with_unfolding_all walk_at "sq"))
  | (refine' Kf.w_listof ?sth ?_; (case sth => with_unfolding_all walk_at "sq"))
  | (refine' Kf.w_tupof ?sth ?_; (case sth => with_unfolding_all walk_at "sq"))
  | (refine Kf.w_listRev ?_)
  | (refine Kf.w_gsub ?_)
  | (refine' Kf.w_ixL ?sth ?stg ?_; (case sth => with_unfolding_all walk_at "sq"); (case stg => with_unfolding_all walk_at "at"))
  | (refine' Kf.w_ixT ?sth ?stg ?_; (case sth => with_unfolding_all walk_at "sq"); (case stg => with_unfolding_all walk_at "at"))
  | (refine' Kf.w_setL ?sth ?stg ?_; (case sth => with_unfolding_all walk_at "lk"); (case stg => with_unfolding_all walk_at "ixn"))
  | (refine' Kf.w_len ?sth ?_; (case sth => with_unfolding_all walk_at "sq"))
  | (refine' Kf.w_lenT ?sth ?_; (case sth => with_unfolding_all walk_at "sq"))
  | (refine Kf.w_int1 ?_)
  | (refine Kf.w_intb ?_)
  | (refine Kf.w_abs ?_)
  | (refine Kf.w_aug rfl ?_)
  | (refine Kf.w_par ?_)
  | (refine' Kf.w_gtup ?sth ?stg ?_; (case sth => with_unfolding_all walk_at "sq"); (case stg => with_unfolding_all exact rfl))
  | (refine' Kf.w_glst ?sth ?stg ?_; (case sth => with_unfolding_all walk_at "sq"); (case stg => with_unfolding_all exact rfl))
  | (refine Kf.w_rng2 ?_)
  | (refine Kf.w_rng3 ?_)
  | (refine' Kf.w_rng2x ?sth ?stg ?stf ?ste ?_; (case sth => with_unfolding_all walk_at "om"); (case stg => with_unfolding_all walk_at "om"); (case stf => with_unfolding_all walk_at "om"); (case ste => with_unfolding_all walk_at "om"))
  | (refine Kf.w_gcons ?_)
  | (refine Kf.w_gnil ?_)
  | (refine Kf.w_gcd ?_)
  | (refine Kf.w_bits ?_)
  | (refine Kf.w_two ?_)
  | (refine Kf.w_ipI ?_)
  | (refine L2.iteT ?_)
  | (refine L2.iteF ?_)
  | (refine Kf.iteNT ?_)
  | (refine Kf.iteNF ?_)
  | (refine' Kf.ite_decT ?sth ?_; (case sth => exact rfl))
  | (refine' Kf.ite_decF ?sth ?_; (case sth => with_unfolding_all (intro e; cases e; done)))
  | (refine' Kf.ite_ndecF ?sth ?_; (case sth => exact rfl))
  | (refine' Kf.ite_ndecT ?sth ?_; (case sth => with_unfolding_all (intro e; cases e; done)))
  | (refine' Kf.ite_viT ?sth ?_; (case sth => (with_unfolding_all walk_at "om2")))
  | (refine' Kf.ite_viF ?sth ?_; (case sth => (with_unfolding_all walk_at "om2")))
  | (refine' Kf.ite_nviT ?sth ?_; (case sth => (with_unfolding_all walk_at "om2")))
  | (refine' Kf.ite_nviF ?sth ?_; (case sth => (with_unfolding_all walk_at "om2")))
  | (refine' Kf.ite_decT ?sth ?_; (case sth => (with_unfolding_all walk_at "om2")))
  | (refine' Kf.ite_decF ?sth ?_; (case sth => (with_unfolding_all walk_at "om2")))
  | with_unfolding_all walk_at "calls")
local macro_rules | `(tactic| walk_at "go") => `(tactic| repeat walk_at "st")

namespace Kf
open PySem PySem.Spec PyProof.Rows L2
abbrev s__law_row : Stmt := topS 31
abbrev N__law_row : List Str := ["pool", "style", "many", "row", "k", "number"]
abbrev P__law_row : List Str := ["pool"]
theorem sc__law_row : FnScope N__law_row P__law_row (defScope s__law_row) := ⟨rfl, rfl, rfl, by decide +kernel, rfl, by decide +kernel, by decide +kernel⟩
abbrev s__law_case : Stmt := topS 32
abbrev N__law_case : List Str := ["pool", "row", "many", "start", "factor"]
abbrev P__law_case : List Str := ["pool"]
theorem sc__law_case : FnScope N__law_case P__law_case (defScope s__law_case) := ⟨rfl, rfl, rfl, by decide +kernel, rfl, by decide +kernel, by decide +kernel⟩
section
variable {P : Program} {w : World} {K : PySem.W.Frag} {mg : Str → Option Value} {base : Heap} {H : Hp} {Q : VK} {E : XK}
structure ROk (a : Int) (l : List Int) : Prop where
  hd : a.natAbs ≤ 1000000
  tl : R0.Row l
  l1 : 1 ≤ l.length
  l2 : l.length ≤ 39
def spRow (K : PySem.W.Frag) : Sp := fun vs H Q _ => ∃ v : V, vs = [v] ∧ PoolAt H v ∧ ∀ p H' a l, Ext H H' → H' p = some (.lst ((a :: l).map V.int)) → ROk a l → Q (.ref p) H'
theorem call_row {v : V} (h : PoolAt H v) (q : ∀ p H' a l, Ext H H' → H' p = some (.lst ((a :: l).map V.int)) → ROk a l → Q (.ref p) H') : spRow K ([v] ++ []) H Q E := ⟨v, rfl, h, q⟩
theorem ok_row (D : Df K mg "_law_row" s__law_row P__law_row) (b_range : mg "range" = none) (p__law_take : Pr P w K mg base "_law_take" 1 P__law_take (spTake K)) : Pr P w K mg base "_law_row" 2 P__law_row (spRow K) := by
  refine D.ok sc__law_row (fun vs H Q E h => ?_) (fun f cdv A outer s H vs Q E hr h => ?_)
  · obtain ⟨v, rfl, _⟩ := h; rfl
  obtain ⟨v, rfl, hP, q⟩ := h
  have nd := sc__law_row.nd
  refine ⟨_, (pss_cons (ps_set (i := 1) nd rfl (Or.inl rfl) (pe_callP p__law_take hr (pa_cons (pv 0) (pa_cons pe_int pa_nil))))
      (pss_cons (ps_set (i := 2) nd rfl (Or.inl rfl) (pe_op op_add pe_int (pe_callP p__law_take hr (pa_cons (pv 0) (pa_cons pe_int pa_nil)))))
      (C8.pss_cut (ps_if (pt_cmpR op_eq (pe_callP p__law_take hr (pa_cons (pv 0) (pa_cons pe_int pa_nil))) pe_int (nomark _)) (pss_one (ps_set (i := 2) nd rfl (Or.inl rfl) (pe_op op_add pe_int (pe_callP p__law_take hr (pa_cons (pv 0) (pa_cons pe_int pa_nil)))))) pss_nil)
      (pss_cons (ps_set (i := 3) nd rfl (Or.inl rfl) (pe_lst (pa_cons (pe_op op_sub (pe_callP p__law_take hr (pa_cons (pv 0) (pa_cons pe_int pa_nil))) pe_int) pa_nil)))
      (C8.pss_cut (ps_if (pt_cmpR op_eq (pe_callP p__law_take hr (pa_cons (pv 0) (pa_cons pe_int pa_nil))) pe_int (nomark _)) (pss_one (ps_set (i := 3) nd rfl (Or.inl rfl) (pe_lst (pa_cons (pe_op op_sub (pe_callP p__law_take hr (pa_cons (pv 0) (pa_cons pe_int pa_nil))) pe_int) pa_nil)))) pss_nil)
      (pss_cons (ps_for PassesOwn.never rfl (pi_range1 (by rfl) b_range (pa_cons (pv 2) pa_nil)) (pg_name (i := 4) nd rfl (Or.inl rfl)) (pss_cons (ps_set (i := 5) nd rfl (Or.inl rfl) pe_int)
      (C8.pss_cut (ps_if (pt_cmpR op_eq (pv 1) pe_int (nomark _)) (pss_one (ps_set (i := 5) nd rfl (Or.inl rfl) (pe_op op_add pe_int (pe_callP p__law_take hr (pa_cons (pv 0) (pa_cons pe_int pa_nil)))))) (pss_one (ps_if (PW.pt (pw_or (pt_cmpR op_eq (pv 1) pe_int (nomark _)) (pw_or1 (pt_cmpR op_eq (pe_callP p__law_take hr (pa_cons (pv 0) (pa_cons pe_int pa_nil))) pe_int (nomark _))))) (pss_one (ps_set (i := 5) nd rfl (Or.inl rfl) (pe_op op_add pe_int (pe_callP p__law_take hr (pa_cons (pv 0) (pa_cons pe_int pa_nil)))))) pss_nil)))
      (pss_one (ps_expr (pe_bmK (K := K) rfl PySem.F.plainAttrs_list PySem.F.slot_list_append PySem.F.type_list_append mt_append (pv 3) (pa_cons (pv 5) pa_nil)))))))
      (pss_one (ps_ret (pv 3))))))))), ?_⟩
  refine w_start (σ := [some _, none, none, none, none, none]) rfl ?_
  walk_at "go"
  rename_i st H1 hE1 st0 st1 mn H2 hE2 mn0 mn1
  refine w_cut (fun σ' H' => ∃ many : Int, σ' = [some v, some (.int st), some (.int many), none, none, none] ∧ Ext H H' ∧ 1 ≤ many ∧ many ≤ 39) ?_ ?_
  · walk_at "go"
    rename_i r1 H3 hE3 r10 r11
    refine ite_vi (fun c => ?_) (fun c => ?_)
    · walk_at "go"
      rename_i r2 H4 hE4 r20 r21
      exact ⟨_, rfl, ((hE1.trans hE2).trans hE3).trans hE4, by omega, by omega⟩
    · walk_at "go"
      exact ⟨_, rfl, (hE1.trans hE2).trans hE3, by omega, by omega⟩
  rintro σ' H3 ⟨many, rfl, hE3, m0, m1⟩
  walk_at "go"
  rename_i r1 H4 hE4 r10 r11
  walk_at "go"
  intro p1 hp1
  refine w_cut (fun σ' H' => ∃ (p : Addr) (a : Int), σ' = [some v, some (.int st), some (.int many), some (.ref p), none, none] ∧ Ext H H' ∧ H p = none ∧ H' p = some (.lst [.int a]) ∧ a.natAbs ≤ 1000000) ?_ ?_
  · walk_at "go"
    rename_i r2 H5 hE5 r20 r21
    have hE45 := ((hE3.trans hE4).newer hp1).trans hE5
    have h51 : H5 p1 = some (.lst [.int (r1 - 1000000)]) := hE5.get L2.upd_same (npl rfl)
    refine ite_vi (fun c => ?_) (fun c => ?_)
    · walk_at "go"
      rename_i r3 H6 hE6 r30 r31
      intro p2 hp2
      exact ⟨p2, r3 - 2, rfl, (hE45.trans hE6).newer hp2, (hE45.trans hE6).non hp2, L2.upd_same, by omega⟩
    · walk_at "go"
      exact ⟨p1, r1 - 1000000, rfl, hE45, (hE3.trans hE4).non hp1, h51, by omega⟩
  rintro σ' H5 ⟨p, a, rfl, hE5, hp0, hp, ha⟩
  walk_at "go"
  refine for_range (fun i σ H' => ∃ (l : List Int) (y z : Option V), σ = [some v, some (.int st), some (.int many), some (.ref p), y, z] ∧ Ext H H' ∧ H' p = some (.lst ((a :: l).map V.int)) ∧ R0.Row l ∧ l.length = i) ⟨[], _, _, rfl, hE5, hp, fun x hx => (nomatch hx), rfl⟩ ?_ ?_
  · rintro i σ H6 hi ⟨l, y, z, rfl, hE6, hp6, hR, hl⟩
    walk_at "go"
    refine w_cut (fun σ' H' => ∃ (n : Int), σ' = [some v, some (.int st), some (.int many), some (.ref p), some (.int (0 + (i : Int))), some (.int n)] ∧ Ext H6 H' ∧ 1 ≤ n ∧ n ≤ 1000000) ?_ ?_
    · walk_at "go"
      refine ite_vi (fun c => ?_) (fun c => ?_)
      · walk_at "go"
        rename_i r2 H7 hE7 r20 r21
        exact ⟨_, rfl, hE7, by omega, by omega⟩
      · walk_at "go"
        refine ite_vi (fun c2 => ?_) (fun c2 => ?_)
        · walk_at "go"
          rename_i r2 H7 hE7 r20 r21
          exact ⟨_, rfl, hE7, by omega, by omega⟩
        · walk_at "go"
          rename_i r2 H7 hE7 r20 r21
          refine ite_vi (fun c3 => ?_) (fun c3 => ?_)
          · walk_at "go"
            rename_i r3 H8 hE8 r30 r31
            exact ⟨_, rfl, hE7.trans hE8, by omega, by omega⟩
          · walk_at "go"
            exact ⟨_, rfl, hE7, by omega, by omega⟩
    rintro σ' H7 ⟨n, rfl, hE7, n0, n1⟩
    have hp7 := hE7.get hp6 (npl_ints _)
    walk_at "go"
    refine w_append hp7 (small1000 (by rw [List.length_map, List.length_cons]; omega)) ?_
    walk_at "go"
    refine ⟨l ++ [n], _, _, rfl, (hE6.trans hE7).own hp0, ?_, fun x hx => ?_, by rw [List.length_append, hl]; rfl⟩
    · rw [L2.upd_same, ← List.cons_append, List.map_append]; rfl
    · rcases List.mem_append.mp hx with z | z
      · exact hR x z
      · rw [List.mem_singleton] at z; subst z; exact ⟨n0, n1⟩
  · rintro σ H6 ⟨l, y, z, rfl, hE6, hp6, hR, hl⟩
    walk_at "go"
    exact q p H6 a l hE6 hp6 ⟨ha, hR, by omega, by omega⟩
structure COk (m s f : Int) : Prop where
  m1 : 1 ≤ m
  m2 : m ≤ 40
  s1 : 1 ≤ s
  s2 : s ≤ 1000000000000
  f0 : f ≠ 0
  f1 : f.natAbs ≤ 9
def spCase (K : PySem.W.Frag) : Sp := fun vs H Q _ => ∃ v : V, vs = [v] ∧ PoolAt H v ∧ ∀ p H' ra a l m s f, Ext H H' → H' p = some (.lst [.ref ra, .int m, .int s, .int f]) → H' ra = some (.lst ((a :: l).map V.int)) → ROk a l → COk m s f → Q (.ref p) H'
theorem call_case {v : V} (h : PoolAt H v) (q : ∀ p H' ra a l m s f, Ext H H' → H' p = some (.lst [.ref ra, .int m, .int s, .int f]) → H' ra = some (.lst ((a :: l).map V.int)) → ROk a l → COk m s f → Q (.ref p) H') : spCase K ([v] ++ []) H Q E := ⟨v, rfl, h, q⟩
theorem ok_case (D : Df K mg "_law_case" s__law_case P__law_case) (p__law_take : Pr P w K mg base "_law_take" 1 P__law_take (spTake K)) (p__law_row : Pr P w K mg base "_law_row" 2 P__law_row (spRow K)) : Pr P w K mg base "_law_case" 3 P__law_case (spCase K) := by
  refine D.ok sc__law_case (fun vs H Q E h => ?_) (fun f cdv A outer s H vs Q E hr h => ?_)
  · obtain ⟨v, rfl, _⟩ := h; rfl
  obtain ⟨v, rfl, hP, q⟩ := h
  have nd := sc__law_case.nd
  refine ⟨_, (pss_cons (ps_set (i := 1) nd rfl (Or.inl rfl) (pe_callP p__law_row hr (pa_cons (pv 0) pa_nil)))
      (pss_cons (ps_set (i := 2) nd rfl (Or.inl rfl) (pe_op op_add pe_int (pe_callP p__law_take hr (pa_cons (pv 0) (pa_cons pe_int pa_nil)))))
      (pss_cons (ps_set (i := 3) nd rfl (Or.inl rfl) (pe_op op_add pe_int (pe_callP p__law_take hr (pa_cons (pv 0) (pa_cons pe_int pa_nil)))))
      (C8.pss_cut (ps_if (pt_cmpR op_gt (pe_callP p__law_take hr (pa_cons (pv 0) (pa_cons pe_int pa_nil))) pe_int (nomark _)) (pss_one (ps_set (i := 3) nd rfl (Or.inl rfl) (pe_op op_add (pe_op op_add pe_int (pe_op op_mul (pe_callP p__law_take hr (pa_cons (pv 0) (pa_cons pe_int pa_nil))) pe_int)) (pe_callP p__law_take hr (pa_cons (pv 0) (pa_cons pe_int pa_nil)))))) pss_nil)
      (pss_cons (ps_set (i := 4) nd rfl (Or.inl rfl) (pe_op op_mul (pe_op op_add pe_int (pe_callP p__law_take hr (pa_cons (pv 0) (pa_cons pe_int pa_nil)))) (pe_op op_sub pe_int (pe_op op_mul pe_int (pe_callP p__law_take hr (pa_cons (pv 0) (pa_cons pe_int pa_nil)))))))
      (pss_one (ps_ret (pe_lst (pa_cons (pv 1) (pa_cons (pv 2) (pa_cons (pv 3) (pa_cons (pv 4) pa_nil)))))))))))), ?_⟩
  refine w_start (σ := [some _, none, none, none, none]) rfl ?_
  walk_at "go"
  refine call_row hP fun p H1 a l hE1 hp1 hok => ?_
  have hP1 := hP.ext hE1
  walk_at "go"
  rename_i m H2 hE2 m0 m1 s0 H3 hE3 s00 s01
  have hp3 : H3 p = some (.lst ((a :: l).map V.int)) := (hE2.trans hE3).get hp1 (npl_ints _)
  refine w_cut (fun σ' H' => ∃ (s : Int), σ' = [some v, some (.ref p), some (.int (1 + m)), some (.int s), none] ∧ Ext H3 H' ∧ 1 ≤ s ∧ s ≤ 1000000000000) ?_ ?_
  · walk_at "go"
    rename_i r1 H4 hE4 r10 r11
    refine ite_d (fun c => ?_) (fun c => ?_)
    · walk_at "go"
      rename_i r2 H5 hE5 r20 r21 r3 H6 hE6 r30 r31
      exact ⟨_, rfl, (hE4.trans hE5).trans hE6, by omega, by omega⟩
    · walk_at "go"
      exact ⟨_, rfl, hE4, by omega, by omega⟩
  rintro σ' H4 ⟨s, rfl, hE4, s1, s2⟩
  have hE04 := ((hE1.trans hE2).trans hE3).trans hE4
  have hP4 := hP.ext hE04
  walk_at "go"
  rename_i r2 H5 hE5 r20 r21 r3 H6 hE6 r30 r31
  intro c hc
  have hE46 := (hE4.trans hE5).trans hE6
  refine q c _ p a l _ _ _ (((hE04.trans hE5).trans hE6).newer hc) L2.upd_same (upd_old hc (hE46.get hp3 (npl_ints _))) hok ⟨by omega, by omega, s1, s2, ?_, ?_⟩
  · have : r3 = 0 ∨ r3 = 1 := by omega
    rcases this with e | e <;> subst e <;> omega
  · have : r3 = 0 ∨ r3 = 1 := by omega
    rcases this with e | e <;> subst e <;> omega
end
end Kf

end
section
set_option Elab.async false
set_option linter.all false
set_option maxRecDepth 100000
set_option maxHeartbeats 4000000
local macro_rules | `(tactic| walk_at "npl") => `(tactic| first | exact Kf.npl rfl | exact Kf.npl_ints _ | exact Kf.npl_one _ _ | exact Kf.npl_refs _ | assumption)
local macro_rules | `(tactic| walk_at "nn") => `(tactic| first
  | assumption
  | (refine' Kf.Ext.non ?nne ?nnh; (case nne => assumption); (case nnh => walk_at "nn")))
local macro_rules | `(tactic| walk_at "ext") => `(tactic| first
  | assumption
  | exact Kf.Ext.refl
  | (refine' Kf.Ext.newer ?exa ?exn; (case exn => assumption); (case exa => walk_at "ext"))
  | (refine' Kf.Ext.own ?exa ?exn; (case exn => walk_at "nn"); (case exa => walk_at "ext"))
  | (refine' Kf.Ext.trans ?exa ?exb; (case exb => assumption); (case exa => walk_at "ext")))
local macro_rules | `(tactic| walk_at "pool") => `(tactic| first
  | assumption
  | (refine' Kf.PoolAt.ext ?plh ?ple; (case plh => assumption); (case ple => walk_at "ext"))
  | (refine' Kf.PoolAt.upd ?plh ?plo ?pln; (case plo => assumption); (case pln => walk_at "npl"); (case plh => walk_at "pool")))
local macro_rules | `(tactic| walk_at "lk") => `(tactic| first
  | assumption
  | exact L2.upd_same
  | (refine' Kf.upd_old ?lkn ?lkh; (case lkn => assumption); (case lkh => walk_at "lk"))
  | (refine' Kf.upd_oth ?lkn ?lkh; (case lkn => (first | assumption | (apply Ne.symm; assumption))); (case lkh => walk_at "lk"))
  | (refine' Kf.Ext.get ?lke ?lkh ?lkn; (case lke => assumption); (case lkh => walk_at "lk"); (case lkn => walk_at "npl"))
  | (refine' L2.Same.at ?lke ?lkh; (case lke => assumption); (case lkh => walk_at "lk")))
local macro_rules | `(tactic| walk_at "sq") => `(tactic| first
  | assumption
  | (refine' L2.SqL.of ?sqh; (case sqh => walk_at "lk"))
  | (refine' L2.SqT.of ?sqh; (case sqh => walk_at "lk"))
  | (refine' Kf.Ext.seqL ?sqe ?sqh ?sqn; (case sqh => assumption); (case sqe => walk_at "ext"); (case sqn => walk_at "npl"))
  | (refine' Kf.Ext.seqT ?sqe ?sqh; (case sqh => assumption); (case sqe => walk_at "ext")))
local macro_rules | `(tactic| walk_at "at") => `(tactic| first | exact L2.atI_nat (j := 0) rfl | exact L2.atI_nat (j := 1) rfl | exact L2.atI_nat (j := 2) rfl | exact L2.atI_nat (j := 3) rfl | exact L2.atI_nat (j := 4) rfl | assumption)
local macro_rules | `(tactic| walk_at "ixn") => `(tactic| first | exact Kf.ixN_nat (j := 0) rfl | exact Kf.ixN_nat (j := 1) rfl | exact Kf.ixN_nat (j := 2) rfl | exact Kf.ixN_nat (j := 3) rfl | assumption)
local macro_rules | `(tactic| walk_at "set") => `(tactic| (first | (simp only [List.set_cons_succ, List.set_cons_zero]; rfl) | rfl))
local macro_rules | `(tactic| walk_at "om") => `(tactic| first | decide | omega | (simp only [List.length_map, List.length_cons, List.length_nil] at *; omega))
local macro_rules | `(tactic| walk_at "calls") => `(tactic| first
  | (with_reducible refine' Kf.call_take ?clp ?cla ?clb ?clq; (case clp => walk_at "pool"); (case cla => walk_at "om"); (case clb => walk_at "om"); intro r H' hE h0 h1)
  | (with_reducible refine' Kf.call_pool ?cls ?cla ?clq; (case cls => walk_at "sq"); (case cla => walk_at "om"); intro p H' hE hN hP)
  | (with_reducible refine' Kf.call_turn ?cls ?clp ?cla ?clq; (case cls => walk_at "sq"); (case clp => walk_at "pool"); (case cla => walk_at "om"); intro u H' hE hP))
local macro_rules | `(tactic| walk_at "side") => `(tactic| first
  | exact Kf.cmul_fmod (by decide) (by decide)
  | exact rfl
  | decide
  | omega
  | assumption
  | (refine ⟨?_, ?_⟩ <;> decide)
  | (refine ⟨?_, ?_, ?_⟩ <;> decide)
  | (refine ⟨?_, ?_⟩ <;> omega)
  | (refine Or.inl ⟨?_, ?_⟩ <;> decide)
  | (refine Or.inr ⟨?_, ?_⟩ <;> decide)
  | (refine Or.inl ⟨?_, ?_⟩ <;> omega)
  | (refine Or.inr ⟨?_, ?_⟩ <;> omega))
local macro_rules | `(tactic| walk_at "kit") => `(tactic| first | exact Kf.isi_int_int | exact Kf.isi_int_bool | exact Kf.isi_int_str | exact Kf.isi_int_list | exact Kf.isi_int_tuple | exact Kf.isi_bool_int | exact Kf.isi_bool_bool | exact Kf.isi_bool_str | exact Kf.isi_bool_list | exact Kf.isi_bool_tuple | exact Kf.isi_str_int | exact Kf.isi_str_bool | exact Kf.isi_str_str | exact Kf.isi_str_list | exact Kf.isi_str_tuple | exact Kf.isi_non_list | exact Kf.isi_non_tuple | exact Kf.isi_list_list | exact Kf.isi_list_tuple | exact Kf.isi_tuple_list | exact Kf.isi_tuple_tuple | exact Kf.isi_dict_dict)
local macro_rules | `(tactic| walk_at "ty") => `(tactic| first
  | exact L2.TyX.base (L2.TyOf.int _)
  | exact L2.TyX.base (L2.TyOf.bl _)
  | exact L2.TyX.base (L2.TyOf.str _)
  | exact L2.TyX.base L2.TyOf.non
  | (refine' L2.TyX.base (L2.TyOf.lst ?tyh); (case tyh => walk_at "lk"))
  | (refine' L2.TyX.base (L2.TyOf.tup ?tyh); (case tyh => walk_at "lk"))
  | (refine' L2.TyX.base (L2.TyOf.dK ?tyh); (case tyh => walk_at "lk")))
local macro_rules | `(tactic| walk_at "om2") => `(tactic| first | assumption | decide | omega)
local macro_rules | `(tactic| walk_at "st") => `(tactic| with_reducible first
  | (refine Kf.w_var rfl ?_)
  | (refine Kf.w_c ?_)
  | (refine Kf.w_seq ?_)
  | (refine Kf.w_asg ?_)
  | (refine' Kf.w_gname ?sth ?_; (case sth => with_unfolding_all walk_at "set"))
  | (refine Kf.w_op ?_)
  | (refine Kf.w_un ?_)
  | (refine Kf.w_rU ?_)
  | (refine Kf.w_rI0 ?_)
  | (refine' Kf.w_rI ?sth ?_; (case sth => with_unfolding_all walk_at "side"))
  | (refine' Kf.w_rEq ?sth ?_; (case sth => with_unfolding_all rfl))
  | (refine' Kf.w_rNe ?sth ?_; (case sth => with_unfolding_all rfl))
  | (refine Kf.w_tTest ?_)
  | (refine Kf.w_tB ?_)
  | (refine Kf.w_exbl ?_)
  | (refine Kf.w_exint ?_)
  | (refine Kf.w_ifS ?_)
  | (refine Kf.w_ret ?_)
  | (refine Kf.w_retN ?_)
  | (refine Kf.w_drop ?_)
  | (refine Kf.w_and ?_)
  | (refine Kf.w_or ?_)
  | (refine Kf.w_not ?_)
  | (refine Kf.w_andV ?_)
  | (refine Kf.w_orV ?_)
  | (refine Kf.w_notV ?_)
  | (refine Kf.w_if ?_)
  | (refine Kf.w_lc ?_)
  | (refine Kf.w_for ?_)
  | (refine Kf.w_rng1 ?_)
  | (refine' Kf.w_rng1x ?sth ?stg ?_; (case sth => with_unfolding_all walk_at "om"); (case stg => with_unfolding_all walk_at "om"))
  | (refine Kf.w_ilist ?_)
  | (refine Kf.w_iseq ?_)
  | (refine Kf.w_itup ?_)
  | (refine' Kf.w_ilistx ?sth ?_; (case sth => with_unfolding_all walk_at "sq"))
  | (refine' Kf.w_itupx ?sth ?_; (case sth => with_unfolding_all walk_at "sq"))
  | (refine' Kf.w_wipe ?sth ?_; (case sth => with_unfolding_all rfl))
  | (refine Kf.w_yes ?_)
  | (refine' Kf.w_isi ?sth ?stg ?_; (case sth => with_unfolding_all walk_at "ty"); (case stg => walk_at "kit"))
  | (refine Kf.w_isN ?_)
  | (refine Kf.w_notN ?_)
  | (refine Kf.w_cb ?_)
  | (refine Kf.w_nil ?_)
  | (refine Kf.w_cons ?_)
  | (refine Kf.w_tup ?_)
  | (refine Kf.w_lst ?_)
  | (refine' Kf.w_lines ?sth ?_; (case sth => with_unfolding_all rfl))
  | (refine Kf.w_call ?_)
  | (refine Kf.w_next ?_)
  | (refine Kf.w_break ?_)
  | (refine Kf.w_cont ?_)
  | (refine Kf.w_dnewK ?_)
  | (refine Kf.w_dget ?_)
  | (refine Kf.w_sl ?_)
  | (refine Kf.w_nopart ?_)
  | (refine Kf.w_part ?_)
  | (refine Kf.w_bm ?_)
  | (refine Kf.w_bm0 ?_)
  | (refine' Kf.w_bmL ?sth ?_; (case sth => with_unfolding_all walk_at "lk"))
  | (refine' Kf.w_cat ?sth ?stg ?stf ?_; (case sth => with_unfolding_all walk_at "lk"); (case stg => with_unfolding_all walk_at "lk"); (case stf => with_unfolding_all walk_at "om"))
  | (refine' Kf.w_slL ?sth ?_; (case sth => with_unfolding_all walk_at "sq"))
  | (refine' Kf.w_inL ?sth ?_; (case sth => with_unfolding_all walk_at "sq"))
  | (refine' Kf.w_inT ?sth ?_; (case sth => with_unfolding_all walk_at "sq"))
  | (refine' Kf.w_ninL ?sth ?_; (case sth => with_unfolding_all walk_at "sq"))
  | (refine' Kf.w_ninT ?sth ?_; (case sth => with_unfolding_all walk_at "sq"))
  | (refine' Kf.w_listof ?sth ?_; (case sth => with_unfolding_all walk_at "sq"))
  | (refine' Kf.w_tupof ?sth ?_; (case sth => with_unfolding_all walk_at "sq"))
  | (refine Kf.w_listRev ?_)
  | (refine Kf.w_gsub ?_)
  | (refine' Kf.w_ixL ?sth ?stg ?_; (case sth => with_unfolding_all walk_at "sq"); (case stg => with_unfolding_all walk_at "at"))
  | (refine' Kf.w_ixT ?sth ?stg ?_; (case sth => with_unfolding_all walk_at "sq"); (case stg => with_unfolding_all walk_at "at"))
  | (refine' Kf.w_setL ?sth ?stg ?_; (case sth => with_unfolding_all walk_at "lk"); (case stg => with_unfolding_all walk_at "ixn"))
  | (refine' Kf.w_len ?sth ?_; (case sth => with_unfolding_all walk_at "sq"))
  | (refine' Kf.w_lenT ?sth ?_; (case sth => with_unfolding_all walk_at "sq"))
  | (refine Kf.w_int1 ?_)
  | (refine Kf.w_intb ?_)
  | (refine Kf.w_abs ?_)
  | (refine Kf.w_aug rfl ?_)
  | (refine Kf.w_par ?_)
  | (refine' Kf.w_gtup ?sth ?stg ?_; (case sth => with_unfolding_all walk_at "sq"); (case stg => with_unfolding_all exact rfl))
  | (refine' Kf.w_glst ?sth ?stg ?_; (case sth => with_unfolding_all walk_at "sq"); (case stg => with_unfolding_all exact rfl))
  | (refine Kf.w_rng2 ?_)
  | (refine Kf.w_rng3 ?_)
  | (refine' Kf.w_rng2x ?sth ?stg ?stf ?ste ?_; (case sth => with_unfolding_all walk_at "om"); (case stg => with_unfolding_all walk_at "om"); (case stf => with_unfolding_all walk_at "om"); (case ste => with_unfolding_all walk_at "om"))
  | (refine Kf.w_gcons ?_)
  | (refine Kf.w_gnil ?_)
  | (refine Kf.w_gcd ?_)
  | (refine Kf.w_bits ?_)
  | (refine Kf.w_two ?_)
  | (refine Kf.w_ipI ?_)
  | (refine L2.iteT ?_)
  | (refine L2.iteF ?_)
  | (refine Kf.iteNT ?_)
  | (refine Kf.iteNF ?_)
  | (refine' Kf.ite_decT ?sth ?_; (case sth => exact rfl))
  | (refine' Kf.ite_decF ?sth ?_; (case sth => with_unfolding_all (intro e; cases e; done)))
  | (refine' Kf.ite_ndecF ?sth ?_; (case sth => exact rfl))
  | (refine' Kf.ite_ndecT ?sth ?_; (case sth => with_unfolding_all (intro e; cases e; done)))
  | (refine' Kf.ite_viT ?sth ?_; (case sth => (with_unfolding_all walk_at "om2")))
  | (refine' Kf.ite_viF ?sth ?_; (case sth => (with_unfolding_all walk_at "om2")))
  | (refine' Kf.ite_nviT ?sth ?_; (case sth => (with_unfolding_all walk_at "om2")))
  | (refine' Kf.ite_nviF ?sth ?_; (case sth => (with_unfolding_all walk_at "om2")))
  | (refine' Kf.ite_decT ?sth ?_; (case sth => (with_unfolding_all walk_at "om2")))
  | (refine' Kf.ite_decF ?sth ?_; (case sth => (with_unfolding_all walk_at "om2")))
  | with_unfolding_all walk_at "calls")
local macro_rules | `(tactic| walk_at "go") => `(tactic| repeat walk_at "st")

namespace Kf
open PySem PySem.Spec PyProof.Rows L2
open R0 (tt)
abbrev prD (x : Int × Int) : PyData := pD x.1 x.2
theorem sq_pr (l : List (Int × Int)) : ∀ d ∈ l.map prD, isSq d := fun d hd => by
  obtain ⟨r, _, e⟩ := List.mem_map.mp hd
  subst e; trivial
/-- the tails of all the last pieces -/
def tls : List Int → List (Int × Int)
  | [] => []
  | a :: l => tt (a :: l) :: tls l
theorem tls_len : ∀ l : List Int, (tls l).length = l.length
  | [] => rfl
  | _ :: l => congrArg Nat.succ (tls_len l)
theorem tls_at : ∀ (pre suf : List Int), suf ≠ [] → (tls (pre ++ suf))[pre.length]? = some (tt suf)
  | [], [], h => absurd rfl h
  | [], a :: l, _ => rfl
  | b :: pre, suf, h => by
    show (tt (b :: (pre ++ suf)) :: tls (pre ++ suf))[pre.length + 1]? = _
    rw [List.getElem?_cons_succ]
    exact tls_at pre suf h
abbrev s__law_tails : Stmt := topS 33
abbrev N__law_tails : List Str := ["row", "pairs", "k", "top", "bottom"]
abbrev P__law_tails : List Str := ["row"]
theorem sc__law_tails : FnScope N__law_tails P__law_tails (defScope s__law_tails) := ⟨rfl, rfl, rfl, by decide +kernel, rfl, by decide +kernel, by decide +kernel⟩
abbrev s__law_fronts : Stmt := topS 34
abbrev N__law_fronts : List Str := ["row", "before", "pairs", "k", "last"]
abbrev P__law_fronts : List Str := ["row"]
theorem sc__law_fronts : FnScope N__law_fronts P__law_fronts (defScope s__law_fronts) := ⟨rfl, rfl, rfl, by decide +kernel, rfl, by decide +kernel, by decide +kernel⟩
section
variable {P : Program} {w : World} {K : PySem.W.Frag} {mg : Str → Option Value} {base : Heap} {H : Hp} {Q : VK} {E : XK}
def spTails (K : PySem.W.Frag) : Sp := fun vs H Q _ => ∃ (ra : Addr) (a : Int) (l : List Int), vs = [.ref ra] ∧ H ra = some (.lst ((a :: l).map V.int)) ∧ ROk a l ∧ ∀ v H', Ext H H' → Dq H' v (.list ((tls (a :: l)).map prD)) → Q v H'
theorem call_tails {ra : Addr} {a : Int} {l : List Int} (h : H ra = some (.lst ((a :: l).map V.int))) (ok : ROk a l) (q : ∀ v H', Ext H H' → Dq H' v (.list ((tls (a :: l)).map prD)) → Q v H') : spTails K ([.ref ra] ++ []) H Q E := ⟨ra, a, l, rfl, h, ok, q⟩
theorem split_last : ∀ (a : Int) (l : List Int), ∃ pre c, a :: l = pre ++ [c]
  | a, [] => ⟨[], a, rfl⟩
  | a, b :: l => by
    obtain ⟨pre, c, e⟩ := split_last b l
    exact ⟨a :: pre, c, by rw [e]; rfl⟩
theorem split_end {pre : List Int} (h : 0 < pre.length) : ∃ pre' c, pre = pre' ++ [c] := by
  cases pre with
  | nil => simp at h
  | cons a l => exact split_last a l
theorem row_small {a : Int} {l : List Int} (ok : ROk a l) : ∀ c ∈ a :: l, c.natAbs ≤ 1000000 := fun c hc => by
  rcases List.mem_cons.mp hc with z | z
  · subst z; exact ok.hd
  · have := ok.tl c z; omega
theorem ok_tails (D : Df K mg "_law_tails" s__law_tails P__law_tails) (b_len : mg "len" = none) (b_range : mg "range" = none) (b_list : mg "list" = none) (b_reversed : mg "reversed" = none) : Pr P w K mg base "_law_tails" 1 P__law_tails (spTails K) := by
  refine D.ok sc__law_tails (fun vs H Q E h => ?_) (fun f cdv A outer s H vs Q E hr h => ?_)
  · obtain ⟨ra, a, l, rfl, _⟩ := h; rfl
  obtain ⟨ra, a, l, rfl, hra, ok, q⟩ := h
  have nd := sc__law_tails.nd
  have hln : ((a :: l).map V.int).length = l.length + 1 := by rw [List.length_map, List.length_cons]
  have sm := row_small ok
  have l2 := ok.l2
  obtain ⟨pre0, c0, e0⟩ := split_last a l
  have pl0 : pre0.length = l.length := by have := congrArg List.length e0; simp at this; omega
  refine ⟨_, (pss_cons (ps_set (i := 1) nd rfl (Or.inl rfl) (pe_lst (pa_cons (pe_tup (pa_cons (pe_ix (ix_listK (K := K) rfl) (pv 0) (pe_op op_sub (pe_callB (call_lenK (K := K) rfl) (by rfl) b_len PySem.boot_len (pa_cons (pv 0) pa_nil)) pe_int) (fun _ _ => rfl)) (pa_cons pe_int pa_nil))) pa_nil)))
      (pss_cons (ps_for PassesOwn.never rfl (pi_range1 (by rfl) b_range (pa_cons (pe_op op_sub (pe_callB (call_lenK (K := K) rfl) (by rfl) b_len PySem.boot_len (pa_cons (pv 0) pa_nil)) pe_int) pa_nil)) (pg_name (i := 2) nd rfl (Or.inl rfl)) (pss_cons (ps_asg (pe_ix (ix_listK (K := K) rfl) (pv 1) (pv 2) (fun _ _ => rfl)) (pg_tup (by rfl) (pgs_cons (pg_name (i := 3) nd rfl (Or.inl rfl)) (pgs_cons (pg_name (i := 4) nd rfl (Or.inl rfl)) pgs_nil))))
      (pss_one (ps_expr (pe_bmK (K := K) rfl PySem.F.plainAttrs_list PySem.F.slot_list_append PySem.F.type_list_append mt_append (pv 1) (pa_cons (pe_tup (pa_cons (pe_op op_add (pe_op op_mul (pe_ix (ix_listK (K := K) rfl) (pv 0) (pe_op op_sub (pe_op op_sub (pe_callB (call_lenK (K := K) rfl) (by rfl) b_len PySem.boot_len (pa_cons (pv 0) pa_nil)) pe_int) (pv 2)) (fun _ _ => rfl)) (pv 3)) (pv 4)) (pa_cons (pv 3) pa_nil))) pa_nil))))))
      (pss_one (ps_ret (pe_listRev (K := K) rfl rfl (by rfl) b_list (by rfl) b_reversed (pv 1)))))), ?_⟩
  refine w_start (σ := [some _, none, none, none, none]) rfl ?_
  walk_at "go"
  refine w_ixL (SqL.of hra) (v := .int c0) (by rw [e0]; refine atI_mid (f := V.int) ?_; rw [← e0, hln, pl0]; omega) ?_
  walk_at "go"
  intro p1 hp1
  walk_at "go"
  intro D0 hD0
  have hra0 := upd_old (u := .lst [.ref p1]) hD0 (upd_old (u := .tup [.int c0, .int 1]) hp1 hra)
  walk_at "go"
  have hdD : D0 ≠ p1 := (ne_of_none (upd_same (H := H)) hD0).symm
  refine for_range (fun i σ H' => ∃ (pre suf : List Int) (y z t : Option V), σ = [some (.ref ra), some (.ref D0), y, z, t] ∧ Ext H H' ∧ a :: l = pre ++ suf ∧ suf.length = i + 1 ∧ Own H' D0 ((tls suf).reverse.map prD))
    ⟨pre0, [c0], _, _, _, rfl, (Ext.new hp1).newer hD0, e0, rfl, ⟨[.ref p1], L2.upd_same, ?_⟩⟩ ?_ ?_
  · have : tt [c0] = (c0, 1) := by show (c0 * 1 + 0, (1 : Int)) = _; simp
    show DqAll _ [.ref p1] [prD (tt [c0])]
    rw [this]
    exact .cons (.of_pair (del_at (upd_old hD0 upd_same) (Ne.symm hdD))) .nil
  · rintro i σ H1 hi ⟨pre, suf, y, z, t, rfl, hE, er, hl, vs, hD1, hr1⟩
    have hi' : i < l.length := by rw [hln] at hi; omega
    have prl : pre.length = l.length - i := by have := congrArg List.length er; simp at this; omega
    obtain ⟨pre', c, rfl⟩ := split_end (pre := pre) (by omega)
    rw [List.append_assoc] at er
    have er' : a :: l = pre' ++ c :: suf := er
    rw [List.length_append, List.length_singleton] at prl
    cases suf with
    | nil => simp at hl
    | cons b suf' =>
      have vl := hr1.len
      rw [List.length_map, List.length_reverse, tls_len] at vl
      have hlast : ((tls (b :: suf')).reverse.map prD)[i]? = some (prD (tt (b :: suf'))) := by
        rw [List.getElem?_map]
        have : (tls (b :: suf')).reverse = (tls suf').reverse ++ [tt (b :: suf')] := by
          show (tt (b :: suf') :: tls suf').reverse = _
          rw [List.reverse_cons]
        rw [this, List.getElem?_append_right (by rw [List.length_reverse, tls_len]; simp at hl; omega)]
        have : i - (tls suf').reverse.length = 0 := by rw [List.length_reverse, tls_len]; simp at hl; omega
        rw [this]; rfl
      obtain ⟨v, hv, hq⟩ := hr1.el hlast
      obtain ⟨pa, rfl, hpa⟩ := hq.pair
      have hpa1 := (of_del hpa).2
      have npD : ¬ Pl (.lst vs) := hr1.npl (sq_pr _)
      have hra1 := hE.get hra (npl_ints _)
      walk_at "go"
      refine w_ixL (SqL.of hD1) (v := .ref pa) (by rw [Int.zero_add]; exact atI_nat hv) ?_
      walk_at "go"
      refine w_ixL (SqL.of hra1) (v := .int c) (by rw [er']; refine atI_mid (f := V.int) ?_; rw [← er', hln]; omega) ?_
      have cs := sm c (by rw [er']; simp)
      walk_at "go"
      intro p2 hp2
      have hD2 := upd_old (u := .tup [.int (c * (tt (b :: suf')).1 + (tt (b :: suf')).2), .int (tt (b :: suf')).1]) hp2 hD1
      walk_at "go"
      refine w_append hD2 (small1000 (by rw [vl]; omega)) ?_
      walk_at "go"
      refine ⟨pre', c :: b :: suf', _, _, _, rfl, (hE.newer hp2).own ((Ext.new hp1).non hD0), er', by rw [List.length_cons, hl], ?_⟩
      have : (tls (c :: b :: suf')).reverse.map prD = (tls (b :: suf')).reverse.map prD ++ [prD (tt (c :: b :: suf'))] := by
        show ((tt (c :: b :: suf')) :: tls (b :: suf')).reverse.map prD = _
        rw [List.reverse_cons, List.map_append]; rfl
      rw [this]
      refine Own.push (hr1.ext (Ext.del (Ext.new hp2))) (.of_pair (del_at L2.upd_same fun z => ?_))
      subst z
      rw [hD1] at hp2; cases hp2
  · rintro σ H1 ⟨pre, suf, y, z, t, rfl, hE, er, hl, vs, hD1, hr1⟩
    have prl : pre = [] := by
      have := congrArg List.length er
      simp at this hl
      exact List.length_eq_zero_iff.mp (by omega)
    subst prl
    rw [List.nil_append] at er
    subst er
    walk_at "go"
    refine ⟨D0, vs, rfl, .inl (SqL.of hD1), fun qa hqa => ?_⟩
    have r2 := (hr1.ext del_sub).rev
    rw [← List.map_reverse, List.reverse_reverse] at r2
    exact q _ _ (hE.newer hqa) (.lst L2.upd_same (r2.npl (sq_pr _)) (r2.ext (Ext.new hqa)))
/-- one step of the fronts -/
def fst1 (s : (Int × Int) × (Int × Int)) (a : Int) : (Int × Int) × (Int × Int) := (s.2, (a * s.2.1 + s.1.1, a * s.2.2 + s.1.2))
def frs (s : (Int × Int) × (Int × Int)) : List Int → List (Int × Int)
  | [] => []
  | a :: l => (fst1 s a).2 :: frs (fst1 s a) l
theorem fr_snoc : ∀ (s : (Int × Int) × (Int × Int)) (pre : List Int) (c : Int), R0.fr s (pre ++ [c]) = fst1 (R0.fr s pre) c
  | s, [], c => rfl
  | s, a :: pre, c => fr_snoc (fst1 s a) pre c
theorem frs_snoc : ∀ (s : (Int × Int) × (Int × Int)) (pre : List Int) (c : Int), frs s (pre ++ [c]) = frs s pre ++ [(R0.fr s (pre ++ [c])).2]
  | s, [], c => rfl
  | s, a :: pre, c => congrArg ((fst1 s a).2 :: ·) (frs_snoc (fst1 s a) pre c)
theorem frs_len : ∀ (s : (Int × Int) × (Int × Int)) (l : List Int), (frs s l).length = l.length
  | s, [] => rfl
  | s, a :: l => congrArg Nat.succ (frs_len (fst1 s a) l)
theorem frs_at : ∀ (pre suf : List Int) (s : (Int × Int) × (Int × Int)), (s.2 :: frs s (pre ++ suf))[pre.length]? = some (R0.fr s pre).2
  | [], suf, s => rfl
  | c :: pre, suf, s => by
    show (s.2 :: (fst1 s c).2 :: frs (fst1 s c) (pre ++ suf))[pre.length + 1]? = _
    rw [List.getElem?_cons_succ]
    exact frs_at pre suf (fst1 s c)
abbrev in0 (a : Int) : (Int × Int) × (Int × Int) := ((1, 0), (a, 1))
abbrev frl (a : Int) (l : List Int) : List (Int × Int) := (a, 1) :: frs (in0 a) l
def spFronts (K : PySem.W.Frag) : Sp := fun vs H Q _ => ∃ (ra : Addr) (a : Int) (l : List Int), vs = [.ref ra] ∧ H ra = some (.lst ((a :: l).map V.int)) ∧ ROk a l ∧ ∀ v H', Ext H H' → Dq H' v (.list ((frl a l).map prD)) → Q v H'
theorem call_fronts {ra : Addr} {a : Int} {l : List Int} (h : H ra = some (.lst ((a :: l).map V.int))) (ok : ROk a l) (q : ∀ v H', Ext H H' → Dq H' v (.list ((frl a l).map prD)) → Q v H') : spFronts K ([.ref ra] ++ []) H Q E := ⟨ra, a, l, rfl, h, ok, q⟩
theorem ok_fronts (D : Df K mg "_law_fronts" s__law_fronts P__law_fronts) (b_len : mg "len" = none) (b_range : mg "range" = none) : Pr P w K mg base "_law_fronts" 1 P__law_fronts (spFronts K) := by
  refine D.ok sc__law_fronts (fun vs H Q E h => ?_) (fun f cdv A outer s H vs Q E hr h => ?_)
  · obtain ⟨ra, a, l, rfl, _⟩ := h; rfl
  obtain ⟨ra, a, l, rfl, hra, ok, q⟩ := h
  have nd := sc__law_fronts.nd
  have hln : ((a :: l).map V.int).length = l.length + 1 := by rw [List.length_map, List.length_cons]
  have sm := row_small ok
  have l2 := ok.l2
  refine ⟨_, (pss_cons (ps_set (i := 1) nd rfl (Or.inl rfl) (pe_tup (pa_cons pe_int (pa_cons pe_int pa_nil))))
      (pss_cons (ps_set (i := 2) nd rfl (Or.inl rfl) (pe_lst (pa_cons (pe_tup (pa_cons (pe_ix (ix_listK (K := K) rfl) (pv 0) pe_int (fun _ _ => rfl)) (pa_cons pe_int pa_nil))) pa_nil)))
      (pss_cons (ps_for PassesOwn.never rfl (pi_range2 (by rfl) b_range (pa_cons pe_int (pa_cons (pe_callB (call_lenK (K := K) rfl) (by rfl) b_len PySem.boot_len (pa_cons (pv 0) pa_nil)) pa_nil))) (pg_name (i := 3) nd rfl (Or.inl rfl)) (pss_cons (ps_set (i := 4) nd rfl (Or.inl rfl) (pe_ix (ix_listK (K := K) rfl) (pv 2) (pe_op op_sub (pv 3) pe_int) (fun _ _ => rfl)))
      (pss_cons (ps_expr (pe_bmK (K := K) rfl PySem.F.plainAttrs_list PySem.F.slot_list_append PySem.F.type_list_append mt_append (pv 2) (pa_cons (pe_tup (pa_cons (pe_op op_add (pe_op op_mul (pe_ix (ix_listK (K := K) rfl) (pv 0) (pv 3) (fun _ _ => rfl)) (pe_ix (ix_tupK (K := K) rfl) (pv 4) pe_int (fun _ _ => rfl))) (pe_ix (ix_tupK (K := K) rfl) (pv 1) pe_int (fun _ _ => rfl))) (pa_cons (pe_op op_add (pe_op op_mul (pe_ix (ix_listK (K := K) rfl) (pv 0) (pv 3) (fun _ _ => rfl)) (pe_ix (ix_tupK (K := K) rfl) (pv 4) pe_int (fun _ _ => rfl))) (pe_ix (ix_tupK (K := K) rfl) (pv 1) pe_int (fun _ _ => rfl))) pa_nil))) pa_nil)))
      (pss_one (ps_set (i := 1) nd rfl (Or.inl rfl) (pv 4))))))
      (pss_one (ps_ret (pv 2)))))), ?_⟩
  refine w_start (σ := [some _, none, none, none, none]) rfl ?_
  walk_at "go"
  intro p0 hp0
  have hra0 := upd_old (u := .tup [.int 1, .int 0]) hp0 hra
  walk_at "go"
  intro p1 hp1
  walk_at "go"
  intro D0 hD0
  have hra1 := upd_old (u := .lst [.ref p1]) hD0 (upd_old (u := .tup [.int a, .int 1]) hp1 hra0)
  walk_at "go"
  have hdD : D0 ≠ p1 := (ne_of_none (upd_same) hD0).symm
  have hdD0 : D0 ≠ p0 := (ne_of_none (upd_old hp1 upd_same) hD0).symm
  have en : (((((a :: l).map V.int).length : Nat) : Int) - 1).toNat = l.length := by rw [hln]; omega
  rw [en]
  refine for_range (fun i σ H' => ∃ (pre suf : List Int) (b : Addr) (y z : Option V), σ = [some (.ref ra), some (.ref b), some (.ref D0), y, z] ∧ Ext H H' ∧ l = pre ++ suf ∧ pre.length = i ∧ Dq (del H' D0) (.ref b) (prD (R0.fr (in0 a) pre).1) ∧ Own H' D0 ((frl a pre).map prD))
    ⟨[], l, p0, _, _, rfl, ((Ext.new hp0).newer hp1).newer hD0, rfl, rfl, .of_pair (del_at (upd_old hD0 (upd_old hp1 upd_same)) (Ne.symm hdD0)), ⟨[.ref p1], L2.upd_same, .cons (.of_pair (del_at (upd_old hD0 upd_same) (Ne.symm hdD))) .nil⟩⟩ ?_ ?_
  · rintro i σ H1 hi ⟨pre, suf, b, y, z, rfl, hE, er, hl, hb, vs, hD1, hr1⟩
    cases suf with
    | nil => rw [er] at hi; simp at hi; omega
    | cons c suf =>
      have vl := hr1.len
      rw [List.length_map, List.length_cons, frs_len] at vl
      have hlast : ((frl a pre).map prD)[i]? = some (prD (R0.fr (in0 a) pre).2) := by
        rw [List.getElem?_map]
        have := frs_at pre [] (in0 a)
        rw [List.append_nil, hl] at this
        rw [this]; rfl
      obtain ⟨v, hv, hq⟩ := hr1.el hlast
      obtain ⟨pa, rfl, hpa⟩ := hq.pair
      have hpa1 := (of_del hpa).2
      obtain ⟨b', e, hb1⟩ := hb.pair
      cases e
      have hb2 := (of_del hb1).2
      have npD : ¬ Pl (.lst vs) := hr1.npl (sq_pr _)
      have hra1 := hE.get hra (npl_ints _)
      have cs := sm c (by rw [er]; simp)
      have er2 : a :: l = (a :: pre) ++ c :: suf := by rw [er]; rfl
      have hc : atI ((a :: l).map V.int) (1 + (i : Int)) = some (.int c) := by
        rw [er2]; refine atI_mid (f := V.int) ?_; rw [List.length_cons, hl]; omega
      walk_at "go"
      refine w_ixL (SqL.of hD1) (v := .ref pa) (by have : (1 + (i : Int)) - 1 = (i : Int) := by omega
                                                   rw [this]; exact atI_nat hv) ?_
      walk_at "go"
      intro p2 hp2
      have hD2 := upd_old (u := .tup [.int (c * (R0.fr (in0 a) pre).2.1 + (R0.fr (in0 a) pre).1.1), .int (c * (R0.fr (in0 a) pre).2.2 + (R0.fr (in0 a) pre).1.2)]) hp2 hD1
      walk_at "go"
      refine w_append hD2 (small1000 (by rw [vl, hl]; omega)) ?_
      walk_at "go"
      refine ⟨pre ++ [c], suf, pa, _, _, rfl, (hE.newer hp2).own (((Ext.new hp0).newer hp1).non hD0), by rw [er, List.append_assoc]; rfl, by rw [List.length_append, hl]; rfl, ?_, ?_⟩
      · rw [del_upd, fr_snoc]
        exact Dq.ext (Ext.del (Ext.new hp2)) (.of_pair hpa)
      · have : (frl a (pre ++ [c])).map prD = (frl a pre).map prD ++ [prD (R0.fr (in0 a) (pre ++ [c])).2] := by
          show ((a, 1) :: frs (in0 a) (pre ++ [c])).map prD = _
          rw [frs_snoc]
          show prD (a, 1) :: (frs (in0 a) pre ++ [_]).map prD = _
          rw [List.map_append]; rfl
        rw [this, fr_snoc]
        refine Own.push (hr1.ext (Ext.del (Ext.new hp2))) (.of_pair (del_at L2.upd_same fun z => ?_))
        subst z
        rw [hD1] at hp2; cases hp2
  · rintro σ H1 ⟨pre, suf, b, y, z, rfl, hE, er, hl, hb, hown⟩
    have : suf = [] := by
      have := congrArg List.length er
      rw [List.length_append, hl] at this
      exact List.length_eq_zero_iff.mp (by omega)
    subst this
    rw [List.append_nil] at er
    subst er
    walk_at "go"
    exact q _ _ hE (hown.dq (sq_pr _))
end
end Kf

end
section
set_option Elab.async false
set_option linter.all false
set_option maxRecDepth 100000
set_option maxHeartbeats 4000000
local macro_rules | `(tactic| walk_at "npl") => `(tactic| first | exact Kf.npl rfl | exact Kf.npl_ints _ | exact Kf.npl_one _ _ | exact Kf.npl_refs _ | assumption)
local macro_rules | `(tactic| walk_at "nn") => `(tactic| first
  | assumption
  | (refine' Kf.Ext.non ?nne ?nnh; (case nne => assumption); (case nnh => walk_at "nn")))
local macro_rules | `(tactic| walk_at "ext") => `(tactic| first
  | assumption
  | exact Kf.Ext.refl
  | (refine' Kf.Ext.newer ?exa ?exn; (case exn => assumption); (case exa => walk_at "ext"))
  | (refine' Kf.Ext.own ?exa ?exn; (case exn => walk_at "nn"); (case exa => walk_at "ext"))
  | (refine' Kf.Ext.trans ?exa ?exb; (case exb => assumption); (case exa => walk_at "ext")))
local macro_rules | `(tactic| walk_at "pool") => `(tactic| first
  | assumption
  | (refine' Kf.PoolAt.ext ?plh ?ple; (case plh => assumption); (case ple => walk_at "ext"))
  | (refine' Kf.PoolAt.upd ?plh ?plo ?pln; (case plo => assumption); (case pln => walk_at "npl"); (case plh => walk_at "pool")))
local macro_rules | `(tactic| walk_at "lk") => `(tactic| first
  | assumption
  | exact L2.upd_same
  | (refine' Kf.upd_old ?lkn ?lkh; (case lkn => assumption); (case lkh => walk_at "lk"))
  | (refine' Kf.upd_oth ?lkn ?lkh; (case lkn => (first | assumption | (apply Ne.symm; assumption))); (case lkh => walk_at "lk"))
  | (refine' Kf.Ext.get ?lke ?lkh ?lkn; (case lke => assumption); (case lkh => walk_at "lk"); (case lkn => walk_at "npl"))
  | (refine' L2.Same.at ?lke ?lkh; (case lke => assumption); (case lkh => walk_at "lk")))
local macro_rules | `(tactic| walk_at "sq") => `(tactic| first
  | assumption
  | (refine' L2.SqL.of ?sqh; (case sqh => walk_at "lk"))
  | (refine' L2.SqT.of ?sqh; (case sqh => walk_at "lk"))
  | (refine' Kf.Ext.seqL ?sqe ?sqh ?sqn; (case sqh => assumption); (case sqe => walk_at "ext"); (case sqn => walk_at "npl"))
  | (refine' Kf.Ext.seqT ?sqe ?sqh; (case sqh => assumption); (case sqe => walk_at "ext")))
local macro_rules | `(tactic| walk_at "at") => `(tactic| first | exact L2.atI_nat (j := 0) rfl | exact L2.atI_nat (j := 1) rfl | exact L2.atI_nat (j := 2) rfl | exact L2.atI_nat (j := 3) rfl | exact L2.atI_nat (j := 4) rfl | assumption)
local macro_rules | `(tactic| walk_at "ixn") => `(tactic| first | exact Kf.ixN_nat (j := 0) rfl | exact Kf.ixN_nat (j := 1) rfl | exact Kf.ixN_nat (j := 2) rfl | exact Kf.ixN_nat (j := 3) rfl | assumption)
local macro_rules | `(tactic| walk_at "set") => `(tactic| (first | (simp only [List.set_cons_succ, List.set_cons_zero]; rfl) | rfl))
local macro_rules | `(tactic| walk_at "om") => `(tactic| first | decide | omega | (simp only [List.length_map, List.length_cons, List.length_nil] at *; omega))
local macro_rules | `(tactic| walk_at "calls") => `(tactic| first
  | (with_reducible refine' Kf.call_take ?clp ?cla ?clb ?clq; (case clp => walk_at "pool"); (case cla => walk_at "om"); (case clb => walk_at "om"); intro r H' hE h0 h1)
  | (with_reducible refine' Kf.call_pool ?cls ?cla ?clq; (case cls => walk_at "sq"); (case cla => walk_at "om"); intro p H' hE hN hP)
  | (with_reducible refine' Kf.call_turn ?cls ?clp ?cla ?clq; (case cls => walk_at "sq"); (case clp => walk_at "pool"); (case cla => walk_at "om"); intro u H' hE hP))
local macro_rules | `(tactic| walk_at "side") => `(tactic| first
  | exact Kf.cmul_fmod (by decide) (by decide)
  | exact rfl
  | decide
  | omega
  | assumption
  | (refine ⟨?_, ?_⟩ <;> decide)
  | (refine ⟨?_, ?_, ?_⟩ <;> decide)
  | (refine ⟨?_, ?_⟩ <;> omega)
  | (refine Or.inl ⟨?_, ?_⟩ <;> decide)
  | (refine Or.inr ⟨?_, ?_⟩ <;> decide)
  | (refine Or.inl ⟨?_, ?_⟩ <;> omega)
  | (refine Or.inr ⟨?_, ?_⟩ <;> omega))
local macro_rules | `(tactic| walk_at "kit") => `(tactic| first | exact Kf.isi_int_int | exact Kf.isi_int_bool | exact Kf.isi_int_str | exact Kf.isi_int_list | exact Kf.isi_int_tuple | exact Kf.isi_bool_int | exact Kf.isi_bool_bool | exact Kf.isi_bool_str | exact Kf.isi_bool_list | exact Kf.isi_bool_tuple | exact Kf.isi_str_int | exact Kf.isi_str_bool | exact Kf.isi_str_str | exact Kf.isi_str_list | exact Kf.isi_str_tuple | exact Kf.isi_non_list | exact Kf.isi_non_tuple | exact Kf.isi_list_list | exact Kf.isi_list_tuple | exact Kf.isi_tuple_list | exact Kf.isi_tuple_tuple | exact Kf.isi_dict_dict)
local macro_rules | `(tactic| walk_at "ty") => `(tactic| first
  | exact L2.TyX.base (L2.TyOf.int _)
  | exact L2.TyX.base (L2.TyOf.bl _)
  | exact L2.TyX.base (L2.TyOf.str _)
  | exact L2.TyX.base L2.TyOf.non
  | (refine' L2.TyX.base (L2.TyOf.lst ?tyh); (case tyh => walk_at "lk"))
  | (refine' L2.TyX.base (L2.TyOf.tup ?tyh); (case tyh => walk_at "lk"))
  | (refine' L2.TyX.base (L2.TyOf.dK ?tyh); (case tyh => walk_at "lk")))
local macro_rules | `(tactic| walk_at "om2") => `(tactic| first | assumption | decide | omega)
local macro_rules | `(tactic| walk_at "st") => `(tactic| with_reducible first
  | (refine Kf.w_var rfl ?_)
  | (refine Kf.w_c ?_)
  | (refine Kf.w_seq ?_)
  | (refine Kf.w_asg ?_)
  | (refine' Kf.w_gname ?sth ?_; (case sth => with_unfolding_all walk_at "set"))
  | (refine Kf.w_op ?_)
  | (refine Kf.w_un ?_)
  | (refine Kf.w_rU ?_)
  | (refine Kf.w_rI0 ?_)
  | (refine' Kf.w_rI ?sth ?_; (case sth => with_unfolding_all walk_at "side"))
  | (refine' Kf.w_rEq ?sth ?_; (case sth => with_unfolding_all rfl))
  | (refine' Kf.w_rNe ?sth ?_; (case sth => with_unfolding_all rfl))
  | (refine Kf.w_tTest ?_)
  | (refine Kf.w_tB ?_)
  | (refine Kf.w_exbl ?_)
  | (refine Kf.w_exint ?_)
  | (refine Kf.w_ifS ?_)
  | (refine Kf.w_ret ?_)
  | (refine Kf.w_retN ?_)
  | (refine Kf.w_drop ?_)
  | (refine Kf.w_and ?_)
  | (refine Kf.w_or ?_)
  | (refine Kf.w_not ?_)
  | (refine Kf.w_andV ?_)
  | (refine Kf.w_orV ?_)
  | (refine Kf.w_notV ?_)
  | (refine Kf.w_if ?_)
  | (refine Kf.w_lc ?_)
  | (refine Kf.w_for ?_)
  | (refine Kf.w_rng1 ?_)
  | (refine' Kf.w_rng1x ?sth ?stg ?_; (case sth => with_unfolding_all walk_at "om"); (case stg => with_unfolding_all walk_at "om"))
  | (refine Kf.w_ilist ?_)
  | (refine Kf.w_iseq ?_)
  | (refine Kf.w_itup ?_)
  | (refine' Kf.w_ilistx ?sth ?_; (case sth => with_unfolding_all walk_at "sq"))
  | (refine' Kf.w_itupx ?sth ?_; (case sth => with_unfolding_all walk_at "sq"))
  | (refine' Kf.w_wipe ?sth ?_; (case sth => with_unfolding_all rfl))
  | (refine Kf.w_yes ?_)
  | (refine' Kf.w_isi ?sth ?stg ?_; (case sth => with_unfolding_all walk_at "ty"); (case stg => walk_at "kit"))
  | (refine Kf.w_isN ?_)
  | (refine Kf.w_notN ?_)
  | (refine Kf.w_cb ?_)
  | (refine Kf.w_nil ?_)
  | (refine Kf.w_cons ?_)
  | (refine Kf.w_tup ?_)
  | (refine Kf.w_lst ?_)
  | (refine' Kf.w_lines ?sth ?_; (case sth => with_unfolding_all rfl))
  | (refine Kf.w_call ?_)
  | (refine Kf.w_next ?_)
  | (refine Kf.w_break ?_)
  | (refine Kf.w_cont ?_)
  | (refine Kf.w_dnewK ?_)
  | (refine Kf.w_dget ?_)
  | (refine Kf.w_sl ?_)
  | (refine Kf.w_nopart ?_)
  | (refine Kf.w_part ?_)
  | (refine Kf.w_bm ?_)
  | (refine Kf.w_bm0 ?_)
  | (refine' Kf.w_bmL ?sth ?_; (case sth => with_unfolding_all walk_at "lk"))
  | (refine' Kf.w_cat ?sth ?stg ?stf ?_; (case sth => with_unfolding_all walk_at "lk"); (case stg => with_unfolding_all walk_at "lk"); (case stf => with_unfolding_all walk_at "om"))
  | (refine' Kf.w_slL ?sth ?_; (case sth => with_unfolding_all walk_at "sq"))
  | (refine' Kf.w_inL ?sth ?_; (case sth => with_unfolding_all walk_at "sq"))
  | (refine' Kf.w_inT ?sth ?_; (case sth => with_unfolding_all walk_at "sq"))
  | (refine' Kf.w_ninL ?sth ?_; (case sth => with_unfolding_all walk_at "sq"))
  | (refine' Kf.w_ninT ?sth ?_; (case sth => with_unfolding_all walk_at "sq"))
  | (refine' Kf.w_listof ?sth ?_; (case sth => with_unfolding_all walk_at "sq"))
  | (refine' Kf.w_tupof ?sth ?_; (case sth => with_unfolding_all walk_at "sq"))
  | (refine Kf.w_listRev ?_)
  | (refine Kf.w_gsub ?_)
  | (refine' Kf.w_ixL ?sth ?stg ?_; (case sth => with_unfolding_all walk_at "sq"); (case stg => with_unfolding_all walk_at "at"))
  | (refine' Kf.w_ixT ?sth ?stg ?_; (case sth => with_unfolding_all walk_at "sq"); (case stg => with_unfolding_all walk_at "at"))
  | (refine' Kf.w_setL ?sth ?stg ?_; (case sth => with_unfolding_all walk_at "lk"); (case stg => with_unfolding_all walk_at "ixn"))
  | (refine' Kf.w_len ?sth ?_; (case sth => with_unfolding_all walk_at "sq"))
  | (refine' Kf.w_lenT ?sth ?_; (case sth => with_unfolding_all walk_at "sq"))
  | (refine Kf.w_int1 ?_)
  | (refine Kf.w_intb ?_)
  | (refine Kf.w_abs ?_)
  | (refine Kf.w_aug rfl ?_)
  | (refine Kf.w_par ?_)
  | (refine' Kf.w_gtup ?sth ?stg ?_; (case sth => with_unfolding_all walk_at "sq"); (case stg => with_unfolding_all exact rfl))
  | (refine' Kf.w_glst ?sth ?stg ?_; (case sth => with_unfolding_all walk_at "sq"); (case stg => with_unfolding_all exact rfl))
  | (refine Kf.w_rng2 ?_)
  | (refine Kf.w_rng3 ?_)
  | (refine' Kf.w_rng2x ?sth ?stg ?stf ?ste ?_; (case sth => with_unfolding_all walk_at "om"); (case stg => with_unfolding_all walk_at "om"); (case stf => with_unfolding_all walk_at "om"); (case ste => with_unfolding_all walk_at "om"))
  | (refine Kf.w_gcons ?_)
  | (refine Kf.w_gnil ?_)
  | (refine Kf.w_gcd ?_)
  | (refine Kf.w_bits ?_)
  | (refine Kf.w_two ?_)
  | (refine Kf.w_ipI ?_)
  | (refine L2.iteT ?_)
  | (refine L2.iteF ?_)
  | (refine Kf.iteNT ?_)
  | (refine Kf.iteNF ?_)
  | (refine' Kf.ite_decT ?sth ?_; (case sth => exact rfl))
  | (refine' Kf.ite_decF ?sth ?_; (case sth => with_unfolding_all (intro e; cases e; done)))
  | (refine' Kf.ite_ndecF ?sth ?_; (case sth => exact rfl))
  | (refine' Kf.ite_ndecT ?sth ?_; (case sth => with_unfolding_all (intro e; cases e; done)))
  | (refine' Kf.ite_viT ?sth ?_; (case sth => (with_unfolding_all walk_at "om2")))
  | (refine' Kf.ite_viF ?sth ?_; (case sth => (with_unfolding_all walk_at "om2")))
  | (refine' Kf.ite_nviT ?sth ?_; (case sth => (with_unfolding_all walk_at "om2")))
  | (refine' Kf.ite_nviF ?sth ?_; (case sth => (with_unfolding_all walk_at "om2")))
  | (refine' Kf.ite_decT ?sth ?_; (case sth => (with_unfolding_all walk_at "om2")))
  | (refine' Kf.ite_decF ?sth ?_; (case sth => (with_unfolding_all walk_at "om2")))
  | with_unfolding_all walk_at "calls")
local macro_rules | `(tactic| walk_at "go") => `(tactic| repeat walk_at "st")

namespace Kf
open PySem PySem.Spec PyProof.Rows L2
open R0 (tt xr Bd)
theorem rD_int (n : Int) : rD (n : Rat) = pD n 1 := by simp [Rat.num_intCast, Rat.den_intCast]
theorem rD_low {p q : Int} (h0 : 0 < q) (hc : Int.gcd p q = 1) : rD (Rat.divInt p q) = pD p q := by
  show PyData.tuple [.int _, .int _] = _
  rw [R0.low_num h0 hc, R0.low_den h0 hc]
theorem rD_xr {l : List Int} (h : 0 < (tt l).2) : rD (xr l) = prD (tt l) := rD_low h (R0.tt_gcd l)
theorem rD_one : rD 1 = pD 1 1 := rfl
theorem bd_one : Bd 2000 1 := ⟨by show (1 : Nat) < _; exact Nat.one_lt_two_pow (by decide), by show (1 : Nat) < _; exact Nat.one_lt_two_pow (by decide)⟩
theorem bd_int {n : Int} (h : n.natAbs < 2 ^ 2000) : Bd 2000 (n : Rat) := ⟨by rw [Rat.num_intCast]; exact h, by rw [Rat.den_intCast]; exact Nat.one_lt_two_pow (by decide)⟩
theorem divInt_one (n : Int) : Rat.divInt n 1 = (n : Rat) := by rw [Rat.divInt_eq_div]; simp; grind
theorem sm_pr (p q : Int) : Sm 1 (pD p q) := ⟨by show 2 ≤ 1000; decide, fun d hd => by
  simp only [List.mem_cons, List.not_mem_nil, or_false] at hd
  rcases hd with e | e <;> subst e <;> trivial⟩
theorem suf_row {a c : Int} {l pre suf : List Int} (ok : ROk a l) (e : a :: l = pre ++ c :: suf) : R0.Row suf := by
  cases pre with
  | nil => cases e; exact ok.tl
  | cons b pre =>
    have e2 : l = pre ++ c :: suf := (List.cons.inj e).2
    exact fun x hx => ok.tl x (by rw [e2]; simp [hx])
theorem suf_row1 {a b c : Int} {l pre suf : List Int} (ok : ROk a l) (e : a :: l = pre ++ b :: c :: suf) : R0.Row (c :: suf) := suf_row ok e
theorem suf_bits {a : Int} {l pre suf : List Int} (ok : ROk a l) (e : a :: l = pre ++ suf) : (tt suf).1.natAbs < 2 ^ 900 ∧ (tt suf).2.natAbs < 2 ^ 900 := by
  have h := R0.tt_bits (l := suf) fun x hx => row_small ok x (by rw [e]; simp [hx])
  have hl : suf.length ≤ 41 := by
    have := congrArg List.length e
    have := ok.l2
    simp at *; omega
  exact ⟨R0.bits_lt h.1 hl, R0.bits_lt h.2 hl⟩
theorem up2 {x : Nat} (h : x < 2 ^ 900) : x < 2 ^ 2000 := lt_up h (by decide)
theorem bd_xr {a c : Int} {l pre suf : List Int} (ok : ROk a l) (e : a :: l = pre ++ c :: suf) : Bd 2000 (xr (c :: suf)) := by
  obtain ⟨b1, b2⟩ := suf_bits ok e
  have := (R0.tt_pos (suf_row ok e)).1
  exact Bd.div (up2 b1) (up2 b2) (by show (tt suf).1 ≠ 0; omega)
theorem pos2 {a c : Int} {l pre suf : List Int} (ok : ROk a l) (e : a :: l = pre ++ c :: suf) : 0 < (tt (c :: suf)).2 := by
  have := (R0.tt_pos (suf_row ok e)).1
  show 0 < (tt suf).1
  omega
theorem xr_ne {l : List Int} (h1 : 0 < (tt l).1) (h2 : 0 < (tt l).2) : xr l ≠ 0 := fun e => by
  have := R0.xr_num h2
  rw [e] at this
  have z : (0 : Rat).num = 0 := rfl
  omega
theorem inv_xr {l : List Int} (h1 : 0 < (tt l).1) (h2 : 0 < (tt l).2) : (1 : Rat) / xr l = Rat.divInt (tt l).2 (tt l).1 := R0.inv_low h1 (by omega)
theorem rD_inv {l : List Int} (h1 : 0 < (tt l).1) (h2 : 0 < (tt l).2) : rD ((1 : Rat) / xr l) = pD (tt l).2 (tt l).1 := by
  rw [inv_xr h1 h2]
  exact rD_low h1 (by rw [Int.gcd_comm]; exact R0.tt_gcd l)
theorem bd_inv {l : List Int} (h1 : 0 < (tt l).1) (h2 : 0 < (tt l).2) (b : (tt l).1.natAbs < 2 ^ 900 ∧ (tt l).2.natAbs < 2 ^ 900) : Bd 2000 ((1 : Rat) / xr l) := by
  rw [inv_xr h1 h2]
  exact Bd.div (up2 b.2) (up2 b.1) (by omega)
theorem bd_small {n : Int} (h : n.natAbs ≤ 1000000000000000000) : Bd 2000 (n : Rat) := bd_int (Nat.lt_of_lt_of_le (m := 2 ^ 64) (by omega) (Nat.pow_le_pow_right (by decide) (by decide)))
/-- the tails' list, one of them -/
theorem tails_el {H : Hp} {a c : Int} {l pre suf : List Int} {vs : List V} (h : DqAll H vs ((tls (a :: l)).map prD)) (e : a :: l = pre ++ c :: suf) : ∃ v, vs[pre.length]? = some v ∧ Dq H v (prD (tt (c :: suf))) := by
  refine h.el ?_
  rw [List.getElem?_map, e, tls_at pre (c :: suf) (by simp)]; rfl
abbrev s__law_built : Stmt := topS 35
abbrev N__law_built : List Str := ["row", "tails", "last", "x", "product", "turn", "k"]
abbrev P__law_built : List Str := ["row", "tails"]
theorem sc__law_built : FnScope N__law_built P__law_built (defScope s__law_built) := ⟨rfl, rfl, rfl, by decide +kernel, rfl, by decide +kernel, by decide +kernel⟩
section
variable {P : Program} {w : World} {K : PySem.W.Frag} {mg : Str → Option Value} {base : Heap} {H : Hp} {Q : VK} {E : XK}
def spChk (K : PySem.W.Frag) : Sp := fun vs H Q _ => ∃ (ra : Addr) (a : Int) (l : List Int) (t : V), vs = [.ref ra, t] ∧ H ra = some (.lst ((a :: l).map V.int)) ∧ ROk a l ∧ Dq H t (.list ((tls (a :: l)).map prD)) ∧ ∀ H', Ext H H' → Q (.bl true) H'
theorem call_chk {ra : Addr} {a : Int} {l : List Int} {t : V} (h : H ra = some (.lst ((a :: l).map V.int))) (ok : ROk a l) (ht : Dq H t (.list ((tls (a :: l)).map prD))) (q : ∀ H', Ext H H' → Q (.bl true) H') : spChk K ([.ref ra, t] ++ []) H Q E := ⟨ra, a, l, t, rfl, h, ok, ht, q⟩
theorem ok_built (D : Df K mg "_law_built" s__law_built P__law_built) (b_len : mg "len" = none) (b_range : mg "range" = none) (p_ratio1 : PrD P w K mg base "ratio" 1 P_ratio [.int 1] (spRatio K)) (p__law_alike : Pr P w K mg base "_law_alike" 3 P__law_alike (spAlike 1))
    (p_plus : Pr P w K mg base "plus" 2 P_plus (spTwo K (fun a b => a + b))) (p_times : Pr P w K mg base "times" 2 P_times (spTwo K (fun a b => a * b))) (p_over : Pr P w K mg base "over" 2 P_over (spOver K)) : Pr P w K mg base "_law_built" 4 P__law_built (spChk K) := by
  refine D.ok sc__law_built (fun vs H Q E h => ?_) (fun f cdv A outer s H vs Q E hr h => ?_)
  · obtain ⟨ra, a, l, t, rfl, _⟩ := h; rfl
  obtain ⟨ra, a, l, t, rfl, hra, ok, ht, q⟩ := h
  obtain ⟨ta, ts, rfl, hta, npt, hts⟩ := ht.ls
  have nd := sc__law_built.nd
  have hln : ((a :: l).map V.int).length = l.length + 1 := by rw [List.length_map, List.length_cons]
  have sm := row_small ok
  have l2 := ok.l2
  obtain ⟨pre0, c0, e0⟩ := split_last a l
  have pl0 : pre0.length = l.length := by have := congrArg List.length e0; simp at this; omega
  have hc0 : atI ((a :: l).map V.int) ((((a :: l).map V.int).length : Nat) - 1 : Int) = some (.int c0) := by
    rw [e0]; refine atI_mid (f := V.int) ?_; rw [← e0, hln, pl0]; omega
  have c0s := sm c0 (by rw [e0]; simp)
  obtain ⟨tv0, htv0, hq0⟩ := tails_el hts e0
  have hat0 : atI ts ((((a :: l).map V.int).length : Nat) - 1 : Int) = some tv0 := by
    rw [hln]
    have e : ((l.length + 1 : Nat) : Int) - 1 = (l.length : Nat) := by omega
    rw [e]
    exact atI_nat (by rw [← pl0]; exact htv0)
  refine ⟨_, (pss_cons (ps_set (i := 2) nd rfl (Or.inl rfl) (pe_op op_sub (pe_callB (call_lenK (K := K) rfl) (by rfl) b_len PySem.boot_len (pa_cons (pv 0) pa_nil)) pe_int))
      (pss_cons (ps_set (i := 3) nd rfl (Or.inl rfl) (pe_callPD p_ratio1 hr (pa_cons (pe_ix (ix_listK (K := K) rfl) (pv 0) (pv 2) (fun _ _ => rfl)) pa_nil)))
      (pss_cons (ps_if (pt_not (pt_val (pe_callP p__law_alike hr (pa_cons (pv 3) (pa_cons (pe_ix (ix_listK (K := K) rfl) (pv 1) (pv 2) (fun _ _ => rfl)) pa_nil))))) (pss_one (ps_ret pe_bl)) pss_nil)
      (pss_cons (ps_set (i := 4) nd rfl (Or.inl rfl) (pv 3))
      (pss_cons (ps_for PassesOwn.never rfl (pi_range1 (by rfl) b_range (pa_cons (pv 2) pa_nil)) (pg_name (i := 5) nd rfl (Or.inl rfl)) (pss_cons (ps_set (i := 6) nd rfl (Or.inl rfl) (pe_op op_sub (pe_op op_sub (pv 2) pe_int) (pv 5)))
      (pss_cons (ps_set (i := 3) nd rfl (Or.inl rfl) (pe_callP p_plus hr (pa_cons (pe_callPD p_ratio1 hr (pa_cons (pe_ix (ix_listK (K := K) rfl) (pv 0) (pv 6) (fun _ _ => rfl)) pa_nil)) (pa_cons (pe_callP p_over hr (pa_cons (pe_tup (pa_cons pe_int (pa_cons pe_int pa_nil))) (pa_cons (pv 3) pa_nil))) pa_nil))))
      (pss_cons (ps_if (pt_not (pt_val (pe_callP p__law_alike hr (pa_cons (pv 3) (pa_cons (pe_ix (ix_listK (K := K) rfl) (pv 1) (pv 6) (fun _ _ => rfl)) pa_nil))))) (pss_one (ps_ret pe_bl)) pss_nil)
      (pss_cons (ps_set (i := 4) nd rfl (Or.inl rfl) (pe_callP p_times hr (pa_cons (pv 3) (pa_cons (pv 4) pa_nil))))
      (pss_one (ps_if (pt_not (pt_val (pe_callP p__law_alike hr (pa_cons (pv 4) (pa_cons (pe_tup (pa_cons (pe_ix (ix_tupK (K := K) rfl) (pe_ix (ix_listK (K := K) rfl) (pv 1) (pv 6) (fun _ _ => rfl)) pe_int (fun _ _ => rfl)) (pa_cons pe_int pa_nil))) pa_nil))))) (pss_one (ps_ret pe_bl)) pss_nil)))))))
      (pss_one (ps_ret pe_bl))))))), ?_⟩
  refine w_start (σ := [some _, some _, none, none, none, none, none]) rfl ?_
  walk_at "go"
  refine call_ratio (by decide) (lt_up (n := 64) (by omega) (by decide)) (by decide) fun x H1 hE1 hx1 => ?_
  have hta1 := hE1.get hta npt
  have hra1 := hE1.get hra (npl_ints _)
  walk_at "go"
  have hx1' : Dq H1 x (prD (tt [c0])) := by
    have e : tt [c0] = (c0, 1) := by show (c0 * 1 + 0, (1 : Int)) = _; simp
    rw [e]
    rw [divInt_one, rD_int] at hx1
    exact hx1
  walk_at "go"
  refine call_alike hx1' (hq0.ext hE1) (sm_pr _ _) fun H2 hE2 => ?_
  walk_at "go"
  have en : (((((a :: l).map V.int).length : Nat) : Int) - 1).toNat = l.length := by rw [hln]; omega
  rw [en]
  refine for_range (fun i σ H' => ∃ (pre suf : List Int) (b : Int) (x y : V) (z t : Option V), σ = [some (.ref ra), some (.ref ta), some (.int ((((a :: l).map V.int).length : Nat) - 1)), some x, some y, z, t] ∧ Ext H H' ∧ a :: l = pre ++ b :: suf ∧ suf.length = i ∧
      Dq H' x (rD (xr (b :: suf))) ∧ Dq H' y (rD (((tt (b :: suf)).1 : Int) : Rat)))
    ⟨pre0, [], c0, x, x, _, _, rfl, hE1.trans hE2, e0, rfl, ?_, ?_⟩ ?_ ?_
  · rw [rD_xr (by show (0 : Int) < 1; decide)]; exact hx1'.ext hE2
  · rw [rD_int]
    have e : tt [c0] = (c0, 1) := by show (c0 * 1 + 0, (1 : Int)) = _; simp
    rw [e] at hx1' ⊢
    exact hx1'.ext hE2
  · rintro i σ H3 hi ⟨pre, suf, b, x, y, z, t, rfl, hE, er, hl, hx, hy⟩
    have prl : pre.length = l.length - i := by have := congrArg List.length er; simp at this; omega
    obtain ⟨pre', c, rfl⟩ := split_end (pre := pre) (by omega)
    rw [List.append_assoc] at er
    have er' : a :: l = pre' ++ c :: b :: suf := er
    rw [List.length_append, List.length_singleton] at prl
    have hra3 := hE.get hra (npl_ints _)
    have hta3 := hE.get hta npt
    have ek : ((((a :: l).map V.int).length : Nat) - 1 : Int) - 1 - (0 + (i : Int)) = (pre'.length : Nat) := by rw [hln]; omega
    have hc : atI ((a :: l).map V.int) (pre'.length : Nat) = some (.int c) := by rw [er']; exact atI_mid (f := V.int) rfl
    have cs := sm c (by rw [er']; simp)
    have hrow := suf_row1 ok er'
    have t1 := (R0.tt_pos hrow).1
    have t2 : 0 < (tt (b :: suf)).2 := pos2 ok (pre := pre' ++ [c]) (by rw [er']; simp)
    obtain ⟨tv, htv, hq⟩ := tails_el hts er'
    walk_at "go"
    rw [ek]
    walk_at "go"
    refine call_ratio (by decide) (lt_up (n := 64) (by omega) (by decide)) (by decide) fun u H4 hE4 hu => ?_
    walk_at "go"
    intro p1 hp1
    walk_at "go"
    refine call_over (a := 1) (b := xr (b :: suf)) (.of_pair L2.upd_same) (hx.ext (hE4.newer hp1)) bd_one (bd_xr ok (pre := pre' ++ [c]) (by rw [er']; simp)) (xr_ne (by omega) t2) fun v H5 hE5 hv => ?_
    walk_at "go"
    rw [divInt_one] at hu
    have hE45 := (hE4.newer hp1).trans hE5
    refine call_two (hu.ext ((Ext.new hp1).trans hE5)) hv (bd_small (by omega)) (bd_inv (by omega) t2 (suf_bits ok (pre := pre' ++ [c]) (by rw [er']; simp))) fun x' H6 hE6 hx' => ?_
    rw [← R0.xr_step hrow] at hx'
    have hE36 := hE45.trans hE6
    have hta6 := hE36.get hta3 npt
    walk_at "go"
    refine w_ixL (SqL.of hta6) (v := tv) (atI_nat htv) ?_
    walk_at "go"
    have hq6 := hq.ext (hE.trans hE36)
    have t3 := pos2 ok er'
    refine call_alike (by rw [rD_xr t3] at hx'; exact hx') hq6 (sm_pr _ _) fun H7 hE7 => ?_
    walk_at "go"
    have hpr := R0.prod_step (a := c) hrow
    obtain ⟨bt1, bt2⟩ := suf_bits ok er'
    refine call_two (hx'.ext hE7) (hy.ext (hE36.trans hE7)) (bd_xr ok er') (bd_int (up2 bt2)) fun y' H8 hE8 hy' => ?_
    rw [hpr] at hy'
    have hE38 := (hE36.trans hE7).trans hE8
    have hta8 := hE38.get hta3 npt
    walk_at "go"
    refine w_ixL (SqL.of hta8) (v := tv) (atI_nat htv) ?_
    obtain ⟨pa, rfl, hpa⟩ := (hq6.ext (hE7.trans hE8)).pair
    walk_at "go"
    intro p2 hp2
    walk_at "go"
    refine call_alike (by rw [rD_int] at hy'; exact hy'.ext (Ext.new hp2)) (.of_pair L2.upd_same) (sm_pr _ _) fun H9 hE9 => ?_
    walk_at "go"
    have hE89 := (Ext.new hp2).trans hE9
    exact ⟨pre', b :: suf, c, x', y', _, _, rfl, (hE.trans hE38).trans hE89, er', by rw [List.length_cons, hl], hx'.ext ((hE7.trans hE8).trans hE89), hy'.ext hE89⟩
  · rintro σ H3 ⟨pre, suf, b, x, y, z, t, rfl, hE, _⟩
    walk_at "go"
    exact q H3 hE
end
end Kf

end
section
set_option Elab.async false
set_option linter.all false
set_option maxRecDepth 100000
set_option maxHeartbeats 4000000
local macro_rules | `(tactic| walk_at "npl") => `(tactic| first | exact Kf.npl rfl | exact Kf.npl_ints _ | exact Kf.npl_one _ _ | exact Kf.npl_refs _ | assumption)
local macro_rules | `(tactic| walk_at "nn") => `(tactic| first
  | assumption
  | (refine' Kf.Ext.non ?nne ?nnh; (case nne => assumption); (case nnh => walk_at "nn")))
local macro_rules | `(tactic| walk_at "ext") => `(tactic| first
  | assumption
  | exact Kf.Ext.refl
  | (refine' Kf.Ext.newer ?exa ?exn; (case exn => assumption); (case exa => walk_at "ext"))
  | (refine' Kf.Ext.own ?exa ?exn; (case exn => walk_at "nn"); (case exa => walk_at "ext"))
  | (refine' Kf.Ext.trans ?exa ?exb; (case exb => assumption); (case exa => walk_at "ext")))
local macro_rules | `(tactic| walk_at "pool") => `(tactic| first
  | assumption
  | (refine' Kf.PoolAt.ext ?plh ?ple; (case plh => assumption); (case ple => walk_at "ext"))
  | (refine' Kf.PoolAt.upd ?plh ?plo ?pln; (case plo => assumption); (case pln => walk_at "npl"); (case plh => walk_at "pool")))
local macro_rules | `(tactic| walk_at "lk") => `(tactic| first
  | assumption
  | exact L2.upd_same
  | (refine' Kf.upd_old ?lkn ?lkh; (case lkn => assumption); (case lkh => walk_at "lk"))
  | (refine' Kf.upd_oth ?lkn ?lkh; (case lkn => (first | assumption | (apply Ne.symm; assumption))); (case lkh => walk_at "lk"))
  | (refine' Kf.Ext.get ?lke ?lkh ?lkn; (case lke => assumption); (case lkh => walk_at "lk"); (case lkn => walk_at "npl"))
  | (refine' L2.Same.at ?lke ?lkh; (case lke => assumption); (case lkh => walk_at "lk")))
local macro_rules | `(tactic| walk_at "sq") => `(tactic| first
  | assumption
  | (refine' L2.SqL.of ?sqh; (case sqh => walk_at "lk"))
  | (refine' L2.SqT.of ?sqh; (case sqh => walk_at "lk"))
  | (refine' Kf.Ext.seqL ?sqe ?sqh ?sqn; (case sqh => assumption); (case sqe => walk_at "ext"); (case sqn => walk_at "npl"))
  | (refine' Kf.Ext.seqT ?sqe ?sqh; (case sqh => assumption); (case sqe => walk_at "ext")))
local macro_rules | `(tactic| walk_at "at") => `(tactic| first | exact L2.atI_nat (j := 0) rfl | exact L2.atI_nat (j := 1) rfl | exact L2.atI_nat (j := 2) rfl | exact L2.atI_nat (j := 3) rfl | exact L2.atI_nat (j := 4) rfl | assumption)
local macro_rules | `(tactic| walk_at "ixn") => `(tactic| first | exact Kf.ixN_nat (j := 0) rfl | exact Kf.ixN_nat (j := 1) rfl | exact Kf.ixN_nat (j := 2) rfl | exact Kf.ixN_nat (j := 3) rfl | assumption)
local macro_rules | `(tactic| walk_at "set") => `(tactic| (first | (simp only [List.set_cons_succ, List.set_cons_zero]; rfl) | rfl))
local macro_rules | `(tactic| walk_at "om") => `(tactic| first | decide | omega | (simp only [List.length_map, List.length_cons, List.length_nil] at *; omega))
local macro_rules | `(tactic| walk_at "calls") => `(tactic| first
  | (with_reducible refine' Kf.call_take ?clp ?cla ?clb ?clq; (case clp => walk_at "pool"); (case cla => walk_at "om"); (case clb => walk_at "om"); intro r H' hE h0 h1)
  | (with_reducible refine' Kf.call_pool ?cls ?cla ?clq; (case cls => walk_at "sq"); (case cla => walk_at "om"); intro p H' hE hN hP)
  | (with_reducible refine' Kf.call_turn ?cls ?clp ?cla ?clq; (case cls => walk_at "sq"); (case clp => walk_at "pool"); (case cla => walk_at "om"); intro u H' hE hP))
local macro_rules | `(tactic| walk_at "side") => `(tactic| first
  | exact Kf.cmul_fmod (by decide) (by decide)
  | exact rfl
  | decide
  | omega
  | assumption
  | (refine ⟨?_, ?_⟩ <;> decide)
  | (refine ⟨?_, ?_, ?_⟩ <;> decide)
  | (refine ⟨?_, ?_⟩ <;> omega)
  | (refine Or.inl ⟨?_, ?_⟩ <;> decide)
  | (refine Or.inr ⟨?_, ?_⟩ <;> decide)
  | (refine Or.inl ⟨?_, ?_⟩ <;> omega)
  | (refine Or.inr ⟨?_, ?_⟩ <;> omega))
local macro_rules | `(tactic| walk_at "kit") => `(tactic| first | exact Kf.isi_int_int | exact Kf.isi_int_bool | exact Kf.isi_int_str | exact Kf.isi_int_list | exact Kf.isi_int_tuple | exact Kf.isi_bool_int | exact Kf.isi_bool_bool | exact Kf.isi_bool_str | exact Kf.isi_bool_list | exact Kf.isi_bool_tuple | exact Kf.isi_str_int | exact Kf.isi_str_bool | exact Kf.isi_str_str | exact Kf.isi_str_list | exact Kf.isi_str_tuple | exact Kf.isi_non_list | exact Kf.isi_non_tuple | exact Kf.isi_list_list | exact Kf.isi_list_tuple | exact Kf.isi_tuple_list | exact Kf.isi_tuple_tuple | exact Kf.isi_dict_dict)
local macro_rules | `(tactic| walk_at "ty") => `(tactic| first
  | exact L2.TyX.base (L2.TyOf.int _)
  | exact L2.TyX.base (L2.TyOf.bl _)
  | exact L2.TyX.base (L2.TyOf.str _)
  | exact L2.TyX.base L2.TyOf.non
  | (refine' L2.TyX.base (L2.TyOf.lst ?tyh); (case tyh => walk_at "lk"))
  | (refine' L2.TyX.base (L2.TyOf.tup ?tyh); (case tyh => walk_at "lk"))
  | (refine' L2.TyX.base (L2.TyOf.dK ?tyh); (case tyh => walk_at "lk")))
local macro_rules | `(tactic| walk_at "om2") => `(tactic| first | assumption | decide | omega)
local macro_rules | `(tactic| walk_at "st") => `(tactic| with_reducible first
  | (refine Kf.w_var rfl ?_)
  | (refine Kf.w_c ?_)
  | (refine Kf.w_seq ?_)
  | (refine Kf.w_asg ?_)
  | (refine' Kf.w_gname ?sth ?_; (case sth => with_unfolding_all walk_at "set"))
  | (refine Kf.w_op ?_)
  | (refine Kf.w_un ?_)
  | (refine Kf.w_rU ?_)
  | (refine Kf.w_rI0 ?_)
  | (refine' Kf.w_rI ?sth ?_; (case sth => with_unfolding_all walk_at "side"))
  | (refine' Kf.w_rEq ?sth ?_; (case sth => with_unfolding_all rfl))
  | (refine' Kf.w_rNe ?sth ?_; (case sth => with_unfolding_all rfl))
  | (refine Kf.w_tTest ?_)
  | (refine Kf.w_tB ?_)
  | (refine Kf.w_exbl ?_)
  | (refine Kf.w_exint ?_)
  | (refine Kf.w_ifS ?_)
  | (refine Kf.w_ret ?_)
  | (refine Kf.w_retN ?_)
  | (refine Kf.w_drop ?_)
  | (refine Kf.w_and ?_)
  | (refine Kf.w_or ?_)
  | (refine Kf.w_not ?_)
  | (refine Kf.w_andV ?_)
  | (refine Kf.w_orV ?_)
  | (refine Kf.w_notV ?_)
  | (refine Kf.w_if ?_)
  | (refine Kf.w_lc ?_)
  | (refine Kf.w_for ?_)
  | (refine Kf.w_rng1 ?_)
  | (refine' Kf.w_rng1x ?sth ?stg ?_; (case sth => with_unfolding_all walk_at "om"); (case stg => with_unfolding_all walk_at "om"))
  | (refine Kf.w_ilist ?_)
  | (refine Kf.w_iseq ?_)
  | (refine Kf.w_itup ?_)
  | (refine' Kf.w_ilistx ?sth ?_; (case sth => with_unfolding_all walk_at "sq"))
  | (refine' Kf.w_itupx ?sth ?_; (case sth => with_unfolding_all walk_at "sq"))
  | (refine' Kf.w_wipe ?sth ?_; (case sth => with_unfolding_all rfl))
  | (refine Kf.w_yes ?_)
  | (refine' Kf.w_isi ?sth ?stg ?_; (case sth => with_unfolding_all walk_at "ty"); (case stg => walk_at "kit"))
  | (refine Kf.w_isN ?_)
  | (refine Kf.w_notN ?_)
  | (refine Kf.w_cb ?_)
  | (refine Kf.w_nil ?_)
  | (refine Kf.w_cons ?_)
  | (refine Kf.w_tup ?_)
  | (refine Kf.w_lst ?_)
  | (refine' Kf.w_lines ?sth ?_; (case sth => with_unfolding_all rfl))
  | (refine Kf.w_call ?_)
  | (refine Kf.w_next ?_)
  | (refine Kf.w_break ?_)
  | (refine Kf.w_cont ?_)
  | (refine Kf.w_dnewK ?_)
  | (refine Kf.w_dget ?_)
  | (refine Kf.w_sl ?_)
  | (refine Kf.w_nopart ?_)
  | (refine Kf.w_part ?_)
  | (refine Kf.w_bm ?_)
  | (refine Kf.w_bm0 ?_)
  | (refine' Kf.w_bmL ?sth ?_; (case sth => with_unfolding_all walk_at "lk"))
  | (refine' Kf.w_cat ?sth ?stg ?stf ?_; (case sth => with_unfolding_all walk_at "lk"); (case stg => with_unfolding_all walk_at "lk"); (case stf => with_unfolding_all walk_at "om"))
  | (refine' Kf.w_slL ?sth ?_; (case sth => with_unfolding_all walk_at "sq"))
  | (refine' Kf.w_inL ?sth ?_; (case sth => with_unfolding_all walk_at "sq"))
  | (refine' Kf.w_inT ?sth ?_; (case sth => with_unfolding_all walk_at "sq"))
  | (refine' Kf.w_ninL ?sth ?_; (case sth => with_unfolding_all walk_at "sq"))
  | (refine' Kf.w_ninT ?sth ?_; (case sth => with_unfolding_all walk_at "sq"))
  | (refine' Kf.w_listof ?sth ?_; (case sth => with_unfolding_all walk_at "sq"))
  | (refine' Kf.w_tupof ?sth ?_; (case sth => with_unfolding_all walk_at "sq"))
  | (refine Kf.w_listRev ?_)
  | (refine Kf.w_gsub ?_)
  | (refine' Kf.w_ixL ?sth ?stg ?_; (case sth => with_unfolding_all walk_at "sq"); (case stg => with_unfolding_all walk_at "at"))
  | (refine' Kf.w_ixT ?sth ?stg ?_; (case sth => with_unfolding_all walk_at "sq"); (case stg => with_unfolding_all walk_at "at"))
  | (refine' Kf.w_setL ?sth ?stg ?_; (case sth => with_unfolding_all walk_at "lk"); (case stg => with_unfolding_all walk_at "ixn"))
  | (refine' Kf.w_len ?sth ?_; (case sth => with_unfolding_all walk_at "sq"))
  | (refine' Kf.w_lenT ?sth ?_; (case sth => with_unfolding_all walk_at "sq"))
  | (refine Kf.w_int1 ?_)
  | (refine Kf.w_intb ?_)
  | (refine Kf.w_abs ?_)
  | (refine Kf.w_aug rfl ?_)
  | (refine Kf.w_par ?_)
  | (refine' Kf.w_gtup ?sth ?stg ?_; (case sth => with_unfolding_all walk_at "sq"); (case stg => with_unfolding_all exact rfl))
  | (refine' Kf.w_glst ?sth ?stg ?_; (case sth => with_unfolding_all walk_at "sq"); (case stg => with_unfolding_all exact rfl))
  | (refine Kf.w_rng2 ?_)
  | (refine Kf.w_rng3 ?_)
  | (refine' Kf.w_rng2x ?sth ?stg ?stf ?ste ?_; (case sth => with_unfolding_all walk_at "om"); (case stg => with_unfolding_all walk_at "om"); (case stf => with_unfolding_all walk_at "om"); (case ste => with_unfolding_all walk_at "om"))
  | (refine Kf.w_gcons ?_)
  | (refine Kf.w_gnil ?_)
  | (refine Kf.w_gcd ?_)
  | (refine Kf.w_bits ?_)
  | (refine Kf.w_two ?_)
  | (refine Kf.w_ipI ?_)
  | (refine L2.iteT ?_)
  | (refine L2.iteF ?_)
  | (refine Kf.iteNT ?_)
  | (refine Kf.iteNF ?_)
  | (refine' Kf.ite_decT ?sth ?_; (case sth => exact rfl))
  | (refine' Kf.ite_decF ?sth ?_; (case sth => with_unfolding_all (intro e; cases e; done)))
  | (refine' Kf.ite_ndecF ?sth ?_; (case sth => exact rfl))
  | (refine' Kf.ite_ndecT ?sth ?_; (case sth => with_unfolding_all (intro e; cases e; done)))
  | (refine' Kf.ite_viT ?sth ?_; (case sth => (with_unfolding_all walk_at "om2")))
  | (refine' Kf.ite_viF ?sth ?_; (case sth => (with_unfolding_all walk_at "om2")))
  | (refine' Kf.ite_nviT ?sth ?_; (case sth => (with_unfolding_all walk_at "om2")))
  | (refine' Kf.ite_nviF ?sth ?_; (case sth => (with_unfolding_all walk_at "om2")))
  | (refine' Kf.ite_decT ?sth ?_; (case sth => (with_unfolding_all walk_at "om2")))
  | (refine' Kf.ite_decF ?sth ?_; (case sth => (with_unfolding_all walk_at "om2")))
  | with_unfolding_all walk_at "calls")
local macro_rules | `(tactic| walk_at "go") => `(tactic| repeat walk_at "st")

namespace Kf
open PySem PySem.Spec PyProof.Rows L2
open R0 (tt xr Bd)
theorem neg_gcd {p q : Int} (h : Int.gcd p q = 1) : Int.gcd (-p) q = 1 := by rw [Int.neg_gcd]; exact h
theorem rD_neg {p q : Int} (h0 : 0 < q) (hc : Int.gcd p q = 1) : rD (Rat.divInt (-p) q) = pD (-p) q := rD_low h0 (neg_gcd hc)
theorem inv_neg {p q : Int} (hp : 0 < p) (hq : 0 < q) : (1 : Rat) / Rat.divInt (-p) q = Rat.divInt (-q) p := by
  rw [Rat.divInt_eq_div, Rat.divInt_eq_div, Rat.intCast_neg, Rat.intCast_neg]
  have n1 := R0.cast_ne (q := p) (by omega)
  have n2 := R0.cast_ne (q := q) (by omega)
  generalize ((p : Int) : Rat) = p at *
  generalize ((q : Int) : Rat) = q at *
  grind
theorem inv_inv' {x : Rat} (h : x ≠ 0) : (1 : Rat) / (1 / x) = x := by grind
theorem neg_ne {p q : Int} (hp : 0 < p) (hq : 0 < q) : Rat.divInt (-p) q ≠ 0 := by
  rw [Rat.divInt_eq_div, Rat.intCast_neg]
  have n1 := R0.cast_ne (q := p) (by omega)
  have n2 := R0.cast_ne (q := q) (by omega)
  generalize ((p : Int) : Rat) = p at *
  generalize ((q : Int) : Rat) = q at *
  intro h
  have : p = 0 := by
    have := congrArg (· * q) h
    grind
  exact n1 this
theorem rD_zero : rD 0 = pD 0 1 := rfl
theorem bd_zero : Bd 2000 0 := ⟨by show (0 : Nat) < _; exact Nat.pow_pos (by decide), by show (1 : Nat) < _; exact Nat.one_lt_two_pow (by decide)⟩
theorem step_rest {a b : Int} {l : List Int} (h : R0.Row (b :: l)) : xr (a :: b :: l) - (a : Rat) = 1 / xr (b :: l) := by
  rw [R0.xr_step h]; grind
theorem self_sub (b : Int) : xr [b] - (b : Rat) = 0 := by rw [R0.xr_one]; grind
theorem zero_over (x : Rat) : (0 : Rat) / x = 0 := by grind
abbrev s__law_refused : Stmt := topS 36
abbrev N__law_refused : List Str := ["a", "b", "e"]
abbrev P__law_refused : List Str := ["a", "b"]
theorem sc__law_refused : FnScope N__law_refused P__law_refused (defScope s__law_refused) := ⟨rfl, rfl, rfl, by decide +kernel, rfl, by decide +kernel, by decide +kernel⟩
abbrev s__law_apart : Stmt := topS 37
abbrev N__law_apart : List Str := ["row", "tails", "last", "x", "k", "top", "bottom", "rest", "turned"]
abbrev P__law_apart : List Str := ["row", "tails"]
theorem sc__law_apart : FnScope N__law_apart P__law_apart (defScope s__law_apart) := ⟨rfl, rfl, rfl, by decide +kernel, rfl, by decide +kernel, by decide +kernel⟩
section
variable {P : Program} {w : World} {K : PySem.W.Frag} {mg : Str → Option Value} {base : Heap} {H : Hp} {Q : VK} {E : XK}
def spRefused (K : PySem.W.Frag) : Sp := fun vs H Q _ => ∃ (x y : V) (a : Rat), vs = [x, y] ∧ Dq H x (rD a) ∧ Dq H y (rD 0) ∧ Bd 2000 a ∧ ∀ H', Ext H H' → Q (.bl true) H'
theorem call_refused {x y : V} {a : Rat} (hx : Dq H x (rD a)) (hy : Dq H y (rD 0)) (ba : Bd 2000 a) (q : ∀ H', Ext H H' → Q (.bl true) H') : spRefused K ([x, y] ++ []) H Q E := ⟨x, y, a, rfl, hx, hy, ba, q⟩
theorem ok_apart (D : Df K mg "_law_apart" s__law_apart P__law_apart) (b_len : mg "len" = none) (b_range : mg "range" = none) (p_ratio1 : PrD P w K mg base "ratio" 1 P_ratio [.int 1] (spRatio K)) (p__law_alike : Pr P w K mg base "_law_alike" 3 P__law_alike (spAlike 1))
    (p_minus : Pr P w K mg base "minus" 2 P_minus (spTwo K (fun a b => a - b))) (p_opposite : Pr P w K mg base "opposite" 1 P_opposite (spOpp K)) (p_over : Pr P w K mg base "over" 2 P_over (spOver K)) (p__law_refused : Pr P w K mg base "_law_refused" 3 P__law_refused (spRefused K)) : Pr P w K mg base "_law_apart" 4 P__law_apart (spChk K) := by
  refine D.ok sc__law_apart (fun vs H Q E h => ?_) (fun f cdv A outer s H vs Q E hr h => ?_)
  · obtain ⟨ra, a, l, t, rfl, _⟩ := h; rfl
  obtain ⟨ra, a, l, t, rfl, hra, ok, ht, q⟩ := h
  obtain ⟨ta, ts, rfl, hta, npt, hts⟩ := ht.ls
  have nd := sc__law_apart.nd
  have hln : ((a :: l).map V.int).length = l.length + 1 := by rw [List.length_map, List.length_cons]
  have sm := row_small ok
  have l1 := ok.l1
  have l2 := ok.l2
  obtain ⟨tv0, htv0, hq0⟩ := tails_el (pre := []) hts (show a :: l = [] ++ a :: l from rfl)
  have hat0 : atI ts 0 = some tv0 := atI_nat (j := 0) htv0
  have t0p := pos2 (pre := []) ok (show a :: l = [] ++ a :: l from rfl)
  refine ⟨_, (pss_cons (ps_set (i := 2) nd rfl (Or.inl rfl) (pe_op op_sub (pe_callB (call_lenK (K := K) rfl) (by rfl) b_len PySem.boot_len (pa_cons (pv 0) pa_nil)) pe_int))
      (pss_cons (ps_set (i := 3) nd rfl (Or.inl rfl) (pe_ix (ix_listK (K := K) rfl) (pv 1) pe_int (fun _ _ => rfl)))
      (pss_cons (ps_for PassesOwn.never rfl (pi_range1 (by rfl) b_range (pa_cons (pv 2) pa_nil)) (pg_name (i := 4) nd rfl (Or.inl rfl)) (pss_cons (ps_asg (pe_ix (ix_listK (K := K) rfl) (pv 1) (pe_op op_add (pv 4) pe_int) (fun _ _ => rfl)) (pg_tup (by rfl) (pgs_cons (pg_name (i := 5) nd rfl (Or.inl rfl)) (pgs_cons (pg_name (i := 6) nd rfl (Or.inl rfl)) pgs_nil))))
      (pss_cons (ps_set (i := 7) nd rfl (Or.inl rfl) (pe_callP p_minus hr (pa_cons (pv 3) (pa_cons (pe_callPD p_ratio1 hr (pa_cons (pe_ix (ix_listK (K := K) rfl) (pv 0) (pv 4) (fun _ _ => rfl)) pa_nil)) pa_nil))))
      (pss_cons (ps_set (i := 8) nd rfl (Or.inl rfl) (pe_callP p_opposite hr (pa_cons (pv 7) pa_nil)))
      (pss_cons (ps_if (PW.pt (pw_or (pt_not (pt_val (pe_callP p__law_alike hr (pa_cons (pv 7) (pa_cons (pe_tup (pa_cons (pv 6) (pa_cons (pv 5) pa_nil))) pa_nil))))) (pw_or1 (pt_not (pt_val (pe_callP p__law_alike hr (pa_cons (pv 8) (pa_cons (pe_tup (pa_cons (pe_un un_neg (pv 6)) (pa_cons (pv 5) pa_nil))) pa_nil)))))))) (pss_one (ps_ret pe_bl)) pss_nil)
      (pss_cons (ps_set (i := 3) nd rfl (Or.inl rfl) (pe_callP p_over hr (pa_cons (pe_tup (pa_cons pe_int (pa_cons pe_int pa_nil))) (pa_cons (pv 7) pa_nil))))
      (pss_one (ps_if (PW.pt (pw_or (pt_not (pt_val (pe_callP p__law_alike hr (pa_cons (pv 3) (pa_cons (pe_tup (pa_cons (pv 5) (pa_cons (pv 6) pa_nil))) pa_nil))))) (pw_or1 (pt_not (pt_val (pe_callP p__law_alike hr (pa_cons (pe_callP p_over hr (pa_cons (pe_tup (pa_cons pe_int (pa_cons pe_int pa_nil))) (pa_cons (pv 8) pa_nil))) (pa_cons (pe_tup (pa_cons (pe_un un_neg (pv 5)) (pa_cons (pv 6) pa_nil))) pa_nil)))))))) (pss_one (ps_ret pe_bl)) pss_nil))))))))
      (pss_cons (ps_set (i := 7) nd rfl (Or.inl rfl) (pe_callP p_minus hr (pa_cons (pv 3) (pa_cons (pe_callPD p_ratio1 hr (pa_cons (pe_ix (ix_listK (K := K) rfl) (pv 0) (pv 2) (fun _ _ => rfl)) pa_nil)) pa_nil))))
      (pss_cons (ps_if (PW.pt (pw_or (pt_not (pt_val (pe_callP p__law_alike hr (pa_cons (pv 7) (pa_cons (pe_tup (pa_cons pe_int (pa_cons pe_int pa_nil))) pa_nil))))) (pw_or1 (pt_not (pt_val (pe_callP p__law_alike hr (pa_cons (pe_callP p_opposite hr (pa_cons (pv 7) pa_nil)) (pa_cons (pe_tup (pa_cons pe_int (pa_cons pe_int pa_nil))) pa_nil)))))))) (pss_one (ps_ret pe_bl)) pss_nil)
      (pss_cons (ps_if (PW.pt (pw_or (pt_not (pt_val (pe_callP p__law_alike hr (pa_cons (pe_callP p_over hr (pa_cons (pv 7) (pa_cons (pe_ix (ix_listK (K := K) rfl) (pv 1) (pv 2) (fun _ _ => rfl)) pa_nil))) (pa_cons (pe_tup (pa_cons pe_int (pa_cons pe_int pa_nil))) pa_nil))))) (pw_or1 (pt_not (pt_val (pe_callP p__law_refused hr (pa_cons (pe_tup (pa_cons pe_int (pa_cons pe_int pa_nil))) (pa_cons (pv 7) pa_nil)))))))) (pss_one (ps_ret pe_bl)) pss_nil)
      (pss_one (ps_ret (pe_and (pe_callP p__law_refused hr (pa_cons (pe_ix (ix_listK (K := K) rfl) (pv 1) pe_int (fun _ _ => rfl)) (pa_cons (pe_tup (pa_cons pe_int (pa_cons pe_int pa_nil))) pa_nil))) (pe_one (pe_callP p__law_refused hr (pa_cons (pe_tup (pa_cons pe_int (pa_cons pe_int pa_nil))) (pa_cons (pe_tup (pa_cons pe_int (pa_cons pe_int pa_nil))) pa_nil))))))))))))), ?_⟩
  refine w_start (σ := [some _, some _, none, none, none, none, none, none, none]) rfl ?_
  walk_at "go"
  have en : (((((a :: l).map V.int).length : Nat) : Int) - 1).toNat = l.length := by rw [hln]; omega
  rw [en]
  refine for_range (fun i σ H' => ∃ (pre suf : List Int) (b : Int) (x : V) (y1 y2 y3 y4 y5 : Option V), σ = [some (.ref ra), some (.ref ta), some (.int ((((a :: l).map V.int).length : Nat) - 1)), some x, y1, y2, y3, y4, y5] ∧ Ext H H' ∧ a :: l = pre ++ b :: suf ∧ pre.length = i ∧
      Dq H' x (rD (xr (b :: suf))))
    ⟨[], l, a, tv0, _, _, _, _, _, rfl, Ext.refl, rfl, rfl, by rw [rD_xr t0p]; exact hq0⟩ ?_ ?_
  · rintro i σ H3 hi ⟨pre, suf, b, x, y1, y2, y3, y4, y5, rfl, hE, er, hl, hx⟩
    have prl : pre.length + suf.length = l.length := by have := congrArg List.length er; simp at this; omega
    cases suf with
    | nil => simp at prl; omega
    | cons c suf =>
      have er' : a :: l = (pre ++ [b]) ++ c :: suf := by rw [er]; simp
      obtain ⟨tv, htv, hq⟩ := tails_el hts er'
      have hat1 : atI ts (0 + (i : Int) + 1) = some tv := by
        have e : (0 + (i : Int) + 1) = ((pre ++ [b]).length : Nat) := by rw [List.length_append, hl]; simp
        rw [e]; exact atI_nat htv
      have hb : atI ((a :: l).map V.int) (0 + (i : Int)) = some (.int b) := by
        rw [er]; refine atI_mid (f := V.int) ?_; omega
      have bs := sm b (by rw [er]; simp)
      have hrow := suf_row1 ok er
      have t1 := (R0.tt_pos hrow).1
      have t2 : 0 < (tt (c :: suf)).2 := pos2 ok er'
      have tb := suf_bits ok er'
      have hra3 := hE.get hra (npl_ints _)
      have hta3 := hE.get hta npt
      obtain ⟨pt, rfl, hpt⟩ := (hq.ext hE).pair
      generalize htop : (tt (c :: suf)).1 = top at t1 tb hpt
      generalize hbot : (tt (c :: suf)).2 = bot at t2 tb hpt
      have gcd1 : Int.gcd top bot = 1 := by rw [← htop, ← hbot]; exact R0.tt_gcd _
      have gcd2 : Int.gcd bot top = 1 := by rw [Int.gcd_comm]; exact gcd1
      walk_at "go"
      refine call_ratio (by decide) (lt_up (n := 64) (by omega) (by decide)) (by decide) fun u H4 hE4 hu => ?_
      rw [divInt_one] at hu
      walk_at "go"
      refine call_two (hx.ext hE4) hu (bd_xr ok er) (bd_small (by omega)) fun rs H5 hE5 hrs => ?_
      rw [step_rest hrow, rD_inv (by omega) (by omega), htop, hbot] at hrs
      walk_at "go"
      refine call_opp hrs fun tn H6 hE6 htn => ?_
      walk_at "go"
      intro p1 hp1
      walk_at "go"
      refine call_alike (hrs.ext (hE6.newer hp1)) (.of_pair L2.upd_same) (sm_pr _ _) fun H7 hE7 => ?_
      have hE57 := (hE6.newer hp1).trans hE7
      have hE67 := (Ext.new hp1).trans hE7
      walk_at "go"
      intro p2 hp2
      walk_at "go"
      refine call_alike (htn.ext (hE67.newer hp2)) (.of_pair L2.upd_same) (sm_pr _ _) fun H8 hE8 => ?_
      have hE58 := (hE57.newer hp2).trans hE8
      have hE68 := (hE67.newer hp2).trans hE8
      walk_at "go"
      intro p3 hp3
      walk_at "go"
      have eR : rD ((1 : Rat) / xr (c :: suf)) = pD bot top := by rw [rD_inv (by omega) (by omega), htop, hbot]
      have xne : xr (c :: suf) ≠ 0 := xr_ne (by omega) (by omega)
      refine call_over (a := 1) (b := 1 / xr (c :: suf)) (.of_pair L2.upd_same) (by rw [eR]; exact hrs.ext (hE58.newer hp3)) bd_one (bd_inv (by omega) (by omega) (suf_bits ok er')) (by grind) fun x' H9 hE9 hx' => ?_
      rw [inv_inv' xne] at hx'
      have hE69 := (hE68.newer hp3).trans hE9
      walk_at "go"
      intro p4 hp4
      walk_at "go"
      have hx2 := hx'
      rw [rD_xr (by omega)] at hx2
      have hx3 : Dq H9 x' (pD top bot) := by rw [← htop, ← hbot]; exact hx2
      refine call_alike (hx3.ext (Ext.new hp4)) (.of_pair L2.upd_same) (sm_pr _ _) fun H10 hE10 => ?_
      have hE910 := (Ext.new hp4).trans hE10
      walk_at "go"
      intro p5 hp5
      walk_at "go"
      refine call_over (a := 1) (b := Rat.divInt (-bot) top) (.of_pair L2.upd_same) (by rw [rD_neg (by omega) gcd2]; exact htn.ext ((hE69.trans hE910).newer hp5)) bd_one (Bd.div (by rw [Int.natAbs_neg]; exact up2 tb.2) (up2 tb.1) (by omega)) (neg_ne (by omega) (by omega)) fun z H11 hE11 hz => ?_
      rw [inv_neg (by omega) (by omega), rD_neg (by omega) gcd1] at hz
      have hE911 := (hE910.newer hp5).trans hE11
      walk_at "go"
      intro p6 hp6
      walk_at "go"
      refine call_alike (hz.ext (Ext.new hp6)) (.of_pair L2.upd_same) (sm_pr _ _) fun H12 hE12 => ?_
      have hE912 := (hE911.newer hp6).trans hE12
      walk_at "go"
      exact ⟨pre ++ [b], suf, c, x', _, _, _, _, _, rfl, (((hE.trans hE4).trans hE5).trans hE6).trans (hE69.trans hE912), er', by rw [List.length_append, hl]; rfl, hx'.ext hE912⟩
  · rintro σ H3 ⟨pre, suf, b, x, y1, y2, y3, y4, y5, rfl, hE, er, hl, hx⟩
    have prl : pre.length + suf.length = l.length := by have := congrArg List.length er; simp at this; omega
    have : suf = [] := List.length_eq_zero_iff.mp (by omega)
    subst this
    obtain ⟨pre', c', epre⟩ := split_end (pre := pre) (by omega)
    have hrow : R0.Row [b] := suf_row1 ok (pre := pre') (b := c') (by rw [er, epre]; simp)
    have bs := hrow b (by simp)
    obtain ⟨tv, htv, hq⟩ := tails_el hts er
    have ek : ((((a :: l).map V.int).length : Nat) - 1 : Int) = (pre.length : Nat) := by rw [hln]; omega
    have hat1 : atI ts ((((a :: l).map V.int).length : Nat) - 1 : Int) = some tv := by rw [ek]; exact atI_nat htv
    have hb : atI ((a :: l).map V.int) ((((a :: l).map V.int).length : Nat) - 1 : Int) = some (.int b) := by
      rw [ek, er]; exact atI_mid (f := V.int) rfl
    have hra3 := hE.get hra (npl_ints _)
    have hta3 := hE.get hta npt
    walk_at "go"
    refine call_ratio (by decide) (lt_up (n := 64) (by omega) (by decide)) (by decide) fun u H4 hE4 hu => ?_
    rw [divInt_one] at hu
    walk_at "go"
    refine call_two (hx.ext hE4) hu (bd_xr ok er) (bd_small (by omega)) fun rs H5 hE5 hrs => ?_
    rw [self_sub] at hrs
    walk_at "go"
    intro p1 hp1
    walk_at "go"
    refine call_alike (hrs.ext (Ext.new hp1)) (.of_pair L2.upd_same) (sm_pr _ _) fun H6 hE6 => ?_
    have hE56 := (Ext.new hp1).trans hE6
    walk_at "go"
    refine call_opp (hrs.ext hE56) fun v H7 hE7 hv => ?_
    have hE57 := hE56.trans hE7
    walk_at "go"
    intro p2 hp2
    walk_at "go"
    have hv' : Dq H7 v (pD 0 1) := hv
    refine call_alike (hv'.ext (Ext.new hp2)) (.of_pair L2.upd_same) (sm_pr _ _) fun H8 hE8 => ?_
    have hE58 := (hE57.newer hp2).trans hE8
    have hE38 := (hE4.trans hE5).trans hE58
    have hta8 := hE38.get hta3 npt
    walk_at "go"
    have t1 : 0 < (tt [b]).1 := by show 0 < b * 1 + 0; omega
    have t2 : 0 < (tt [b]).2 := by show (0 : Int) < 1; decide
    refine call_over (a := 0) (b := xr [b]) (hrs.ext hE58) (by rw [rD_xr t2]; exact hq.ext (hE.trans hE38)) bd_zero (bd_xr ok er) (xr_ne t1 t2) fun v2 H9 hE9 hv2 => ?_
    rw [zero_over] at hv2
    walk_at "go"
    intro p3 hp3
    walk_at "go"
    refine call_alike (hv2.ext (Ext.new hp3)) (.of_pair L2.upd_same) (sm_pr _ _) fun H10 hE10 => ?_
    have hE5A := ((hE58.trans hE9).newer hp3).trans hE10
    walk_at "go"
    intro p4 hp4
    walk_at "go"
    refine call_refused (a := 1) (.of_pair L2.upd_same) (hrs.ext (hE5A.newer hp4)) bd_one fun H11 hE11 => ?_
    have hE5B := (hE5A.newer hp4).trans hE11
    have hE3B := (hE4.trans hE5).trans hE5B
    have hta11 := hE3B.get hta3 npt
    walk_at "go"
    intro p5 hp5
    walk_at "go"
    refine call_refused (a := xr (a :: l)) (by rw [rD_xr t0p]; exact hq0.ext ((hE.trans hE3B).newer hp5)) (.of_pair L2.upd_same) (bd_xr (pre := []) ok rfl) fun H12 hE12 => ?_
    walk_at "go"
    intro p6 hp6
    walk_at "go"
    intro p7 hp7
    walk_at "go"
    refine call_refused (a := 0) (.of_pair (upd_old hp7 L2.upd_same)) (.of_pair L2.upd_same) bd_zero fun H13 hE13 => ?_
    exact q _ ((((((hE.trans hE3B).newer hp5).trans hE12).newer hp6).newer hp7).trans hE13)
end
end Kf

end
section
set_option Elab.async false
set_option linter.all false
set_option maxRecDepth 100000
set_option maxHeartbeats 4000000
local macro_rules | `(tactic| walk_at "npl") => `(tactic| first | exact Kf.npl rfl | exact Kf.npl_ints _ | exact Kf.npl_one _ _ | exact Kf.npl_refs _ | assumption)
local macro_rules | `(tactic| walk_at "nn") => `(tactic| first
  | assumption
  | (refine' Kf.Ext.non ?nne ?nnh; (case nne => assumption); (case nnh => walk_at "nn")))
local macro_rules | `(tactic| walk_at "ext") => `(tactic| first
  | assumption
  | exact Kf.Ext.refl
  | (refine' Kf.Ext.newer ?exa ?exn; (case exn => assumption); (case exa => walk_at "ext"))
  | (refine' Kf.Ext.own ?exa ?exn; (case exn => walk_at "nn"); (case exa => walk_at "ext"))
  | (refine' Kf.Ext.trans ?exa ?exb; (case exb => assumption); (case exa => walk_at "ext")))
local macro_rules | `(tactic| walk_at "pool") => `(tactic| first
  | assumption
  | (refine' Kf.PoolAt.ext ?plh ?ple; (case plh => assumption); (case ple => walk_at "ext"))
  | (refine' Kf.PoolAt.upd ?plh ?plo ?pln; (case plo => assumption); (case pln => walk_at "npl"); (case plh => walk_at "pool")))
local macro_rules | `(tactic| walk_at "lk") => `(tactic| first
  | assumption
  | exact L2.upd_same
  | (refine' Kf.upd_old ?lkn ?lkh; (case lkn => assumption); (case lkh => walk_at "lk"))
  | (refine' Kf.upd_oth ?lkn ?lkh; (case lkn => (first | assumption | (apply Ne.symm; assumption))); (case lkh => walk_at "lk"))
  | (refine' Kf.Ext.get ?lke ?lkh ?lkn; (case lke => assumption); (case lkh => walk_at "lk"); (case lkn => walk_at "npl"))
  | (refine' L2.Same.at ?lke ?lkh; (case lke => assumption); (case lkh => walk_at "lk")))
local macro_rules | `(tactic| walk_at "sq") => `(tactic| first
  | assumption
  | (refine' L2.SqL.of ?sqh; (case sqh => walk_at "lk"))
  | (refine' L2.SqT.of ?sqh; (case sqh => walk_at "lk"))
  | (refine' Kf.Ext.seqL ?sqe ?sqh ?sqn; (case sqh => assumption); (case sqe => walk_at "ext"); (case sqn => walk_at "npl"))
  | (refine' Kf.Ext.seqT ?sqe ?sqh; (case sqh => assumption); (case sqe => walk_at "ext")))
local macro_rules | `(tactic| walk_at "at") => `(tactic| first | exact L2.atI_nat (j := 0) rfl | exact L2.atI_nat (j := 1) rfl | exact L2.atI_nat (j := 2) rfl | exact L2.atI_nat (j := 3) rfl | exact L2.atI_nat (j := 4) rfl | assumption)
local macro_rules | `(tactic| walk_at "ixn") => `(tactic| first | exact Kf.ixN_nat (j := 0) rfl | exact Kf.ixN_nat (j := 1) rfl | exact Kf.ixN_nat (j := 2) rfl | exact Kf.ixN_nat (j := 3) rfl | assumption)
local macro_rules | `(tactic| walk_at "set") => `(tactic| (first | (simp only [List.set_cons_succ, List.set_cons_zero]; rfl) | rfl))
local macro_rules | `(tactic| walk_at "om") => `(tactic| first | decide | omega | (simp only [List.length_map, List.length_cons, List.length_nil] at *; omega))
local macro_rules | `(tactic| walk_at "calls") => `(tactic| first
  | (with_reducible refine' Kf.call_take ?clp ?cla ?clb ?clq; (case clp => walk_at "pool"); (case cla => walk_at "om"); (case clb => walk_at "om"); intro r H' hE h0 h1)
  | (with_reducible refine' Kf.call_pool ?cls ?cla ?clq; (case cls => walk_at "sq"); (case cla => walk_at "om"); intro p H' hE hN hP)
  | (with_reducible refine' Kf.call_turn ?cls ?clp ?cla ?clq; (case cls => walk_at "sq"); (case clp => walk_at "pool"); (case cla => walk_at "om"); intro u H' hE hP))
local macro_rules | `(tactic| walk_at "side") => `(tactic| first
  | exact Kf.cmul_fmod (by decide) (by decide)
  | exact rfl
  | decide
  | omega
  | assumption
  | (refine ⟨?_, ?_⟩ <;> decide)
  | (refine ⟨?_, ?_, ?_⟩ <;> decide)
  | (refine ⟨?_, ?_⟩ <;> omega)
  | (refine Or.inl ⟨?_, ?_⟩ <;> decide)
  | (refine Or.inr ⟨?_, ?_⟩ <;> decide)
  | (refine Or.inl ⟨?_, ?_⟩ <;> omega)
  | (refine Or.inr ⟨?_, ?_⟩ <;> omega))
local macro_rules | `(tactic| walk_at "kit") => `(tactic| first | exact Kf.isi_int_int | exact Kf.isi_int_bool | exact Kf.isi_int_str | exact Kf.isi_int_list | exact Kf.isi_int_tuple | exact Kf.isi_bool_int | exact Kf.isi_bool_bool | exact Kf.isi_bool_str | exact Kf.isi_bool_list | exact Kf.isi_bool_tuple | exact Kf.isi_str_int | exact Kf.isi_str_bool | exact Kf.isi_str_str | exact Kf.isi_str_list | exact Kf.isi_str_tuple | exact Kf.isi_non_list | exact Kf.isi_non_tuple | exact Kf.isi_list_list | exact Kf.isi_list_tuple | exact Kf.isi_tuple_list | exact Kf.isi_tuple_tuple | exact Kf.isi_dict_dict)
local macro_rules | `(tactic| walk_at "ty") => `(tactic| first
  | exact L2.TyX.base (L2.TyOf.int _)
  | exact L2.TyX.base (L2.TyOf.bl _)
  | exact L2.TyX.base (L2.TyOf.str _)
  | exact L2.TyX.base L2.TyOf.non
  | (refine' L2.TyX.base (L2.TyOf.lst ?tyh); (case tyh => walk_at "lk"))
  | (refine' L2.TyX.base (L2.TyOf.tup ?tyh); (case tyh => walk_at "lk"))
  | (refine' L2.TyX.base (L2.TyOf.dK ?tyh); (case tyh => walk_at "lk")))
local macro_rules | `(tactic| walk_at "om2") => `(tactic| first | assumption | decide | omega)
local macro_rules | `(tactic| walk_at "st") => `(tactic| with_reducible first
  | (refine Kf.w_var rfl ?_)
  | (refine Kf.w_c ?_)
  | (refine Kf.w_seq ?_)
  | (refine Kf.w_asg ?_)
  | (refine' Kf.w_gname ?sth ?_; (case sth => with_unfolding_all walk_at "set"))
  | (refine Kf.w_op ?_)
  | (refine Kf.w_un ?_)
  | (refine Kf.w_rU ?_)
  | (refine Kf.w_rI0 ?_)
  | (refine' Kf.w_rI ?sth ?_; (case sth => with_unfolding_all walk_at "side"))
  | (refine' Kf.w_rEq ?sth ?_; (case sth => with_unfolding_all rfl))
  | (refine' Kf.w_rNe ?sth ?_; (case sth => with_unfolding_all rfl))
  | (refine Kf.w_tTest ?_)
  | (refine Kf.w_tB ?_)
  | (refine Kf.w_exbl ?_)
  | (refine Kf.w_exint ?_)
  | (refine Kf.w_ifS ?_)
  | (refine Kf.w_ret ?_)
  | (refine Kf.w_retN ?_)
  | (refine Kf.w_drop ?_)
  | (refine Kf.w_and ?_)
  | (refine Kf.w_or ?_)
  | (refine Kf.w_not ?_)
  | (refine Kf.w_andV ?_)
  | (refine Kf.w_orV ?_)
  | (refine Kf.w_notV ?_)
  | (refine Kf.w_if ?_)
  | (refine Kf.w_lc ?_)
  | (refine Kf.w_for ?_)
  | (refine Kf.w_rng1 ?_)
  | (refine' Kf.w_rng1x ?sth ?stg ?_; (case sth => with_unfolding_all walk_at "om"); (case stg => with_unfolding_all walk_at "om"))
  | (refine Kf.w_ilist ?_)
  | (refine Kf.w_iseq ?_)
  | (refine Kf.w_itup ?_)
  | (refine' Kf.w_ilistx ?sth ?_; (case sth => with_unfolding_all walk_at "sq"))
  | (refine' Kf.w_itupx ?sth ?_; (case sth => with_unfolding_all walk_at "sq"))
  | (refine' Kf.w_wipe ?sth ?_; (case sth => with_unfolding_all rfl))
  | (refine Kf.w_yes ?_)
  | (refine' Kf.w_isi ?sth ?stg ?_; (case sth => with_unfolding_all walk_at "ty"); (case stg => walk_at "kit"))
  | (refine Kf.w_isN ?_)
  | (refine Kf.w_notN ?_)
  | (refine Kf.w_cb ?_)
  | (refine Kf.w_nil ?_)
  | (refine Kf.w_cons ?_)
  | (refine Kf.w_tup ?_)
  | (refine Kf.w_lst ?_)
  | (refine' Kf.w_lines ?sth ?_; (case sth => with_unfolding_all rfl))
  | (refine Kf.w_call ?_)
  | (refine Kf.w_next ?_)
  | (refine Kf.w_break ?_)
  | (refine Kf.w_cont ?_)
  | (refine Kf.w_dnewK ?_)
  | (refine Kf.w_dget ?_)
  | (refine Kf.w_sl ?_)
  | (refine Kf.w_nopart ?_)
  | (refine Kf.w_part ?_)
  | (refine Kf.w_bm ?_)
  | (refine Kf.w_bm0 ?_)
  | (refine' Kf.w_bmL ?sth ?_; (case sth => with_unfolding_all walk_at "lk"))
  | (refine' Kf.w_cat ?sth ?stg ?stf ?_; (case sth => with_unfolding_all walk_at "lk"); (case stg => with_unfolding_all walk_at "lk"); (case stf => with_unfolding_all walk_at "om"))
  | (refine' Kf.w_slL ?sth ?_; (case sth => with_unfolding_all walk_at "sq"))
  | (refine' Kf.w_inL ?sth ?_; (case sth => with_unfolding_all walk_at "sq"))
  | (refine' Kf.w_inT ?sth ?_; (case sth => with_unfolding_all walk_at "sq"))
  | (refine' Kf.w_ninL ?sth ?_; (case sth => with_unfolding_all walk_at "sq"))
  | (refine' Kf.w_ninT ?sth ?_; (case sth => with_unfolding_all walk_at "sq"))
  | (refine' Kf.w_listof ?sth ?_; (case sth => with_unfolding_all walk_at "sq"))
  | (refine' Kf.w_tupof ?sth ?_; (case sth => with_unfolding_all walk_at "sq"))
  | (refine Kf.w_listRev ?_)
  | (refine Kf.w_gsub ?_)
  | (refine' Kf.w_ixL ?sth ?stg ?_; (case sth => with_unfolding_all walk_at "sq"); (case stg => with_unfolding_all walk_at "at"))
  | (refine' Kf.w_ixT ?sth ?stg ?_; (case sth => with_unfolding_all walk_at "sq"); (case stg => with_unfolding_all walk_at "at"))
  | (refine' Kf.w_setL ?sth ?stg ?_; (case sth => with_unfolding_all walk_at "lk"); (case stg => with_unfolding_all walk_at "ixn"))
  | (refine' Kf.w_len ?sth ?_; (case sth => with_unfolding_all walk_at "sq"))
  | (refine' Kf.w_lenT ?sth ?_; (case sth => with_unfolding_all walk_at "sq"))
  | (refine Kf.w_int1 ?_)
  | (refine Kf.w_intb ?_)
  | (refine Kf.w_abs ?_)
  | (refine Kf.w_aug rfl ?_)
  | (refine Kf.w_par ?_)
  | (refine' Kf.w_gtup ?sth ?stg ?_; (case sth => with_unfolding_all walk_at "sq"); (case stg => with_unfolding_all exact rfl))
  | (refine' Kf.w_glst ?sth ?stg ?_; (case sth => with_unfolding_all walk_at "sq"); (case stg => with_unfolding_all exact rfl))
  | (refine Kf.w_rng2 ?_)
  | (refine Kf.w_rng3 ?_)
  | (refine' Kf.w_rng2x ?sth ?stg ?stf ?ste ?_; (case sth => with_unfolding_all walk_at "om"); (case stg => with_unfolding_all walk_at "om"); (case stf => with_unfolding_all walk_at "om"); (case ste => with_unfolding_all walk_at "om"))
  | (refine Kf.w_gcons ?_)
  | (refine Kf.w_gnil ?_)
  | (refine Kf.w_gcd ?_)
  | (refine Kf.w_bits ?_)
  | (refine Kf.w_two ?_)
  | (refine Kf.w_ipI ?_)
  | (refine L2.iteT ?_)
  | (refine L2.iteF ?_)
  | (refine Kf.iteNT ?_)
  | (refine Kf.iteNF ?_)
  | (refine' Kf.ite_decT ?sth ?_; (case sth => exact rfl))
  | (refine' Kf.ite_decF ?sth ?_; (case sth => with_unfolding_all (intro e; cases e; done)))
  | (refine' Kf.ite_ndecF ?sth ?_; (case sth => exact rfl))
  | (refine' Kf.ite_ndecT ?sth ?_; (case sth => with_unfolding_all (intro e; cases e; done)))
  | (refine' Kf.ite_viT ?sth ?_; (case sth => (with_unfolding_all walk_at "om2")))
  | (refine' Kf.ite_viF ?sth ?_; (case sth => (with_unfolding_all walk_at "om2")))
  | (refine' Kf.ite_nviT ?sth ?_; (case sth => (with_unfolding_all walk_at "om2")))
  | (refine' Kf.ite_nviF ?sth ?_; (case sth => (with_unfolding_all walk_at "om2")))
  | (refine' Kf.ite_decT ?sth ?_; (case sth => (with_unfolding_all walk_at "om2")))
  | (refine' Kf.ite_decF ?sth ?_; (case sth => (with_unfolding_all walk_at "om2")))
  | with_unfolding_all walk_at "calls")
local macro_rules | `(tactic| walk_at "go") => `(tactic| repeat walk_at "st")

namespace Kf
open PySem PySem.Spec PyProof.Rows L2
open R0 (tt xr Bd Fok)
theorem fok_run {T0 S0 : Int} : ∀ (pre suf : List Int) (k : Nat) (s : (Int × Int) × (Int × Int)), Fok T0 S0 k s (pre ++ suf) → R0.Row pre → Fok T0 S0 (k + pre.length) (R0.fr s pre) suf
  | [], suf, k, s, f, _ => f
  | a :: pre, suf, k, s, f, h => by
    have ha := h a (by simp)
    have f2 := Fok.next f ha.1 ha.2
    have f3 := fok_run pre suf (k + 1) _ f2 fun x hx => h x (by simp [hx])
    rw [List.length_cons, show k + (pre.length + 1) = k + 1 + pre.length by omega]
    exact f3
theorem fok_at {a : Int} {l pre suf : List Int} (ok : ROk a l) (e : l = pre ++ suf) : Fok (tt (a :: l)).1 (tt (a :: l)).2 pre.length (R0.fr (in0 a) pre) suf := by
  have f0 : Fok (tt (a :: l)).1 (tt (a :: l)).2 0 (in0 a) l := Fok.init ok.hd
  have f1 := f0
  rw [e] at f1
  rw [← e] at f1
  have := fok_run pre suf 0 (in0 a) (by rw [← e]; exact f0) (fun x hx => ok.tl x (by rw [e]; simp [hx]))
  rw [Nat.zero_add] at this
  exact this
theorem fr_el {H : Hp} {a : Int} {l pre suf : List Int} {vs : List V} (h : DqAll H vs ((frl a l).map prD)) (e : l = pre ++ suf) : ∃ v, vs[pre.length]? = some v ∧ Dq H v (prD (R0.fr (in0 a) pre).2) := by
  refine h.el ?_
  have := frs_at pre suf (in0 a)
  rw [← e] at this
  rw [List.getElem?_map, this]; rfl
theorem diff_low {p1 q1 p2 q2 : Int} (h1 : 0 < q1) (h2 : 0 < q2) : Rat.divInt p2 q2 - Rat.divInt p1 q1 = Rat.divInt (p2 * q1 - p1 * q2) (q1 * q2) := by
  rw [Rat.divInt_eq_div, Rat.divInt_eq_div, Rat.divInt_eq_div, Rat.intCast_sub, Rat.intCast_mul, Rat.intCast_mul, Rat.intCast_mul]
  have n1 := R0.cast_ne (q := q1) (by omega)
  have n2 := R0.cast_ne (q := q2) (by omega)
  generalize ((q1 : Int) : Rat) = q1 at *
  generalize ((q2 : Int) : Rat) = q2 at *
  grind
theorem sum_low {p1 q1 p2 q2 : Int} (h1 : 0 < q1) (h2 : 0 < q2) : Rat.divInt p1 q1 + Rat.divInt (p2 * q1 - p1 * q2) (q1 * q2) = Rat.divInt p2 q2 := by
  rw [← diff_low h1 h2]; grind
theorem gcd_side {s n : Int} (h : s = 1 ∨ s = -1) : Int.gcd s n = 1 := by
  rcases h with e | e <;> subst e
  · exact Int.one_gcd
  · rw [show (-1 : Int) = -(1 : Int) from rfl, Int.neg_gcd]; exact Int.one_gcd
abbrev s__law_fronted : Stmt := topS 38
abbrev N__law_fronted : List Str := ["row", "tails", "fronts", "last", "k", "one", "two", "side", "due"]
abbrev P__law_fronted : List Str := ["row", "tails"]
theorem sc__law_fronted : FnScope N__law_fronted P__law_fronted (defScope s__law_fronted) := ⟨rfl, rfl, rfl, by decide +kernel, rfl, by decide +kernel, by decide +kernel⟩
section
variable {P : Program} {w : World} {K : PySem.W.Frag} {mg : Str → Option Value} {base : Heap} {H : Hp} {Q : VK} {E : XK}
theorem ok_fronted (D : Df K mg "_law_fronted" s__law_fronted P__law_fronted) (b_len : mg "len" = none) (b_int : mg "int" = none) (b_range : mg "range" = none) (p__law_alike : Pr P w K mg base "_law_alike" 3 P__law_alike (spAlike 1)) (p__law_fronts : Pr P w K mg base "_law_fronts" 1 P__law_fronts (spFronts K))
    (p_minus : Pr P w K mg base "minus" 2 P_minus (spTwo K (fun a b => a - b))) (p_plus : Pr P w K mg base "plus" 2 P_plus (spTwo K (fun a b => a + b))) (p_opposite : Pr P w K mg base "opposite" 1 P_opposite (spOpp K)) (p_compare : Pr P w K mg base "compare" 1 P_compare (spCmp K)) : Pr P w K mg base "_law_fronted" 4 P__law_fronted (spChk K) := by
  refine D.ok sc__law_fronted (fun vs H Q E h => ?_) (fun f cdv A outer s H vs Q E hr h => ?_)
  · obtain ⟨ra, a, l, t, rfl, _⟩ := h; rfl
  obtain ⟨ra, a, l, t, rfl, hra, ok, ht, q⟩ := h
  obtain ⟨ta, ts, rfl, hta, npt, hts⟩ := ht.ls
  have nd := sc__law_fronted.nd
  have hln : ((a :: l).map V.int).length = l.length + 1 := by rw [List.length_map, List.length_cons]
  have l1 := ok.l1
  have l2 := ok.l2
  obtain ⟨tv0, htv0, hq0⟩ := tails_el (pre := []) hts (show a :: l = [] ++ a :: l from rfl)
  have hat0 : atI ts 0 = some tv0 := atI_nat (j := 0) htv0
  refine ⟨_, (pss_cons (ps_set (i := 2) nd rfl (Or.inl rfl) (pe_callP p__law_fronts hr (pa_cons (pv 0) pa_nil)))
      (pss_cons (ps_set (i := 3) nd rfl (Or.inl rfl) (pe_op op_sub (pe_callB (call_lenK (K := K) rfl) (by rfl) b_len PySem.boot_len (pa_cons (pv 0) pa_nil)) pe_int))
      (pss_cons (ps_for PassesOwn.never rfl (pi_range1 (by rfl) b_range (pa_cons (pv 3) pa_nil)) (pg_name (i := 4) nd rfl (Or.inl rfl)) (pss_cons (ps_set (i := 5) nd rfl (Or.inl rfl) (pe_ix (ix_listK (K := K) rfl) (pv 2) (pv 4) (fun _ _ => rfl)))
      (pss_cons (ps_set (i := 6) nd rfl (Or.inl rfl) (pe_ix (ix_listK (K := K) rfl) (pv 2) (pe_op op_add (pv 4) pe_int) (fun _ _ => rfl)))
      (pss_cons (ps_set (i := 7) nd rfl (Or.inl rfl) (pe_op op_sub (pe_op op_mulW pe_int (pe_op op_modN (pe_callTy call_int1 (by rfl) b_int (by decide +kernel) (pa_cons (pv 4) pa_nil)) pe_int)) pe_int))
      (pss_cons (ps_if (PW.pt (pw_or (pt_not (pt_val (pe_callP p__law_alike hr (pa_cons (pe_callP p_compare hr (pa_cons (pv 5) (pa_cons (pv 6) pa_nil))) (pa_cons (pv 7) pa_nil))))) (pw_or1 (pt_not (pt_val (pe_callP p__law_alike hr (pa_cons (pe_callP p_compare hr (pa_cons (pv 6) (pa_cons (pv 5) pa_nil))) (pa_cons (pe_un un_neg (pv 7)) pa_nil)))))))) (pss_one (ps_ret pe_bl)) pss_nil)
      (pss_cons (ps_if (PW.pt (pw_or (pt_not (pt_val (pe_callP p__law_alike hr (pa_cons (pe_callP p_compare hr (pa_cons (pv 6) (pa_cons (pv 6) pa_nil))) (pa_cons pe_int pa_nil))))) (pw_or1 (pt_not (pt_val (pe_callP p__law_alike hr (pa_cons (pe_callP p_compare hr (pa_cons (pe_callP p_opposite hr (pa_cons (pv 5) pa_nil)) (pa_cons (pe_callP p_opposite hr (pa_cons (pv 6) pa_nil)) pa_nil))) (pa_cons (pe_un un_neg (pv 7)) pa_nil)))))))) (pss_one (ps_ret pe_bl)) pss_nil)
      (pss_cons (ps_if (pt_not (pt_val (pe_callP p__law_alike hr (pa_cons (pe_callP p_minus hr (pa_cons (pv 6) (pa_cons (pv 5) pa_nil))) (pa_cons (pe_tup (pa_cons (pe_un un_neg (pv 7)) (pa_cons (pe_op op_mulW (pe_ix (ix_tupK (K := K) rfl) (pv 5) pe_int (fun _ _ => rfl)) (pe_ix (ix_tupK (K := K) rfl) (pv 6) pe_int (fun _ _ => rfl))) pa_nil))) pa_nil))))) (pss_one (ps_ret pe_bl)) pss_nil)
      (pss_cons (ps_set (i := 8) nd rfl (Or.inl rfl) (pe_ifExp (pt_cmpR op_eq (pv 4) (pe_op op_sub (pv 3) pe_int) (nomark _)) (pe_ix (ix_listK (K := K) rfl) (pv 1) pe_int (fun _ _ => rfl)) (pv 6)))
      (pss_one (ps_if (pt_not (pt_val (pe_callP p__law_alike hr (pa_cons (pe_callP p_plus hr (pa_cons (pv 5) (pa_cons (pe_tup (pa_cons (pe_un un_neg (pv 7)) (pa_cons (pe_op op_mulW (pe_ix (ix_tupK (K := K) rfl) (pv 5) pe_int (fun _ _ => rfl)) (pe_ix (ix_tupK (K := K) rfl) (pv 6) pe_int (fun _ _ => rfl))) pa_nil))) pa_nil))) (pa_cons (pv 8) pa_nil))))) (pss_one (ps_ret pe_bl)) pss_nil))))))))))
      (pss_one (ps_ret pe_bl))))), ?_⟩
  refine w_start (σ := [some _, some _, none, none, none, none, none, none, none]) rfl ?_
  walk_at "go"
  refine call_fronts hra ok fun fv H1 hE1 hfr => ?_
  obtain ⟨fa, fs, rfl, hfa, npf, hfs⟩ := hfr.ls
  have hra1 := hE1.get hra (npl_ints _)
  walk_at "go"
  have en : (((((a :: l).map V.int).length : Nat) : Int) - 1).toNat = l.length := by rw [hln]; omega
  rw [en]
  refine for_range (fun i σ H' => ∃ (y1 y2 y3 y4 y5 : Option V), σ = [some (.ref ra), some (.ref ta), some (.ref fa), some (.int ((((a :: l).map V.int).length : Nat) - 1)), y1, y2, y3, y4, y5] ∧ Ext H1 H')
    ⟨_, _, _, _, _, rfl, Ext.refl⟩ ?_ ?_
  · rintro i σ H3 hi ⟨y1, y2, y3, y4, y5, rfl, hE⟩
    obtain ⟨pre, suf', er0, hl⟩ : ∃ pre suf', l = pre ++ suf' ∧ pre.length = i := ⟨l.take i, l.drop i, (List.take_append_drop i l).symm, by rw [List.length_take]; omega⟩
    cases suf' with
    | nil => rw [er0] at hi; simp at hi; omega
    | cons c suf =>
      have er1 : l = (pre ++ [c]) ++ suf := by rw [er0]; simp
      have f1 := fok_at ok er0
      have f2 := fok_at ok er1
      obtain ⟨v1, hv1, d1⟩ := fr_el hfs er0
      obtain ⟨v2, hv2, d2⟩ := fr_el hfs er1
      have hat1 : atI fs (0 + (i : Int)) = some v1 := by rw [Int.zero_add, ← hl]; exact atI_nat hv1
      have hat2 : atI fs (0 + (i : Int) + 1) = some v2 := by
        have e : (0 + (i : Int) + 1) = ((pre ++ [c]).length : Nat) := by rw [List.length_append, hl]; simp
        rw [e]; exact atI_nat hv2
      have hs2 : (R0.fr (in0 a) (pre ++ [c])).1 = (R0.fr (in0 a) pre).2 := by rw [fr_snoc]; rfl
      have g1 := f1.gcd
      have g2 := f2.gcd
      obtain ⟨_, q1p, _, _, _, b1, b2, _, _⟩ := f1
      obtain ⟨det, q2p, _, top, bot, b3, b4, _, _⟩ := f2
      rw [hs2] at det
      have hk : pre.length + 1 ≤ 41 := by omega
      have hk2 : (pre ++ [c]).length + 1 ≤ 41 := by rw [List.length_append, hl]; have : i < l.length := hi; simp; omega
      have b1 := R0.bits_lt b1 hk
      have b2 := R0.bits_lt b2 hk
      have b3 := R0.bits_lt b3 hk2
      have b4 := R0.bits_lt b4 hk2
      rw [List.length_append, hl, List.length_singleton] at det
      generalize hs1 : (R0.fr (in0 a) pre).2 = s1 at *
      generalize hs2' : (R0.fr (in0 a) (pre ++ [c])).2 = s2 at *
      obtain ⟨p1, q1⟩ := s1
      obtain ⟨p2, q2⟩ := s2
      dsimp only at *
      have fm : (0 + (i : Int)).fmod 2 = (i : Int) % 2 := by rw [Int.zero_add, Int.fmod_eq_emod_of_nonneg _ (by decide)]
      have hfa3 := hE.get hfa npf
      have hra3 := hE.get hra1 (npl_ints _)
      have hta3 := (hE1.trans hE).get hta npt
      have d1 := d1.ext hE
      have d2 := d2.ext hE
      obtain ⟨a1, rfl, h1⟩ := d1.pair
      obtain ⟨a2, rfl, h2⟩ := d2.pair
      have e1 : rD (Rat.divInt p1 q1) = pD p1 q1 := rD_low (by omega) g1
      have e2 : rD (Rat.divInt p2 q2) = pD p2 q2 := rD_low (by omega) g2
      have w12 : (q1 * q2).natAbs < 2 ^ 2000 := mul_bits b2 b4 (by decide)
      walk_at "go"
      rw [fm]
      refine w_wmul (a := 2) (b := 2) (by decide) (by omega) (by decide) (by decide) (by decide) ?_
      walk_at "go"
      generalize hsd : 2 * ((i : Int) % 2) - 1 = sd
      have det' : p2 * q1 - p1 * q2 = -sd := by omega
      have hsd' : sd = 1 ∨ sd = -1 := by omega
      have m1 : p1 * -1 = -p1 := by omega
      refine call_cmp d1 d2 (up2 b1) (up2 b2) (up2 b3) (up2 b4) ?_
      have c1 : (if p1 * q2 < p2 * q1 then (-1 : Int) else if p2 * q1 < p1 * q2 then 1 else 0) = sd := by split <;> (try split) <;> omega
      rw [c1]
      walk_at "go"
      refine call_alike (.int _) (.int _) trivial fun H4 hE4 => ?_
      walk_at "go"
      refine call_cmp (d2.ext hE4) (d1.ext hE4) (up2 b3) (up2 b4) (up2 b1) (up2 b2) ?_
      have c2 : (if p2 * q1 < p1 * q2 then (-1 : Int) else if p1 * q2 < p2 * q1 then 1 else 0) = -sd := by split <;> (try split) <;> omega
      rw [c2]
      walk_at "go"
      refine call_alike (.int _) (.int _) trivial fun H5 hE5 => ?_
      have hE35 := hE4.trans hE5
      walk_at "go"
      refine call_cmp (d2.ext hE35) (d2.ext hE35) (up2 b3) (up2 b4) (up2 b3) (up2 b4) ?_
      rw [if_neg (Int.lt_irrefl _), if_neg (Int.lt_irrefl _)]
      walk_at "go"
      refine call_alike (.int _) (.int _) trivial fun H6 hE6 => ?_
      have hE36 := hE35.trans hE6
      walk_at "go"
      refine call_opp (d1.ext hE36) fun o1 H7 hE7 ho1 => ?_
      walk_at "go"
      refine call_opp (d2.ext (hE36.trans hE7)) fun o2 H8 hE8 ho2 => ?_
      have hE38 := (hE36.trans hE7).trans hE8
      walk_at "go"
      refine call_cmp (ho1.ext hE8) ho2 (by rw [Int.natAbs_neg]; exact up2 b1) (up2 b2) (by rw [Int.natAbs_neg]; exact up2 b3) (up2 b4) ?_
      have c3 : (if -p1 * q2 < -p2 * q1 then (-1 : Int) else if -p2 * q1 < -p1 * q2 then 1 else 0) = -sd := by
        rw [Int.neg_mul, Int.neg_mul]; split <;> (try split) <;> omega
      rw [c3]
      walk_at "go"
      refine call_alike (.int _) (.int _) trivial fun H9 hE9 => ?_
      have hE39 := hE38.trans hE9
      walk_at "go"
      refine call_two (a := Rat.divInt p2 q2) (b := Rat.divInt p1 q1) (by rw [e2]; exact d2.ext hE39) (by rw [e1]; exact d1.ext hE39) (Bd.div (up2 b3) (up2 b4) (by omega)) (Bd.div (up2 b1) (up2 b2) (by omega)) fun m H10 hE10 hm => ?_
      have qq : 0 < q1 * q2 := Int.mul_pos (by omega) (by omega)
      rw [diff_low (by omega) (by omega), det', rD_low qq (gcd_side (by omega))] at hm
      have hE3A := hE39.trans hE10
      have h1A := hE3A.get h1 (npl rfl)
      have h2A := hE3A.get h2 (npl rfl)
      walk_at "go"
      refine w_wmul b2 b4 (by decide) (by decide) (by decide) ?_
      walk_at "go"
      intro x1 hx1
      walk_at "go"
      refine call_alike (hm.ext (Ext.new hx1)) (.of_pair L2.upd_same) (sm_pr _ _) fun H11 hE11 => ?_
      have hE3B := (hE3A.newer hx1).trans hE11
      have h1B := hE3B.get h1 (npl rfl)
      have h2B := hE3B.get h2 (npl rfl)
      have hta11 := hE3B.get hta3 npt
      walk_at "go"
      have fin : ∀ (due : V) (s' : L2.St), Dq H11 due (pD p2 q2) → ∀ (H12 : Hp) (x2 : Addr) (u : V), Ext (upd H11 x2 (.tup [.int (-sd), .int (q1 * q2)])) H12 → H11 x2 = none → Dq H12 u (rD (Rat.divInt p1 q1 + Rat.divInt (-sd) (q1 * q2))) → Dq H12 u (pD p2 q2) ∧ Dq H12 due (pD p2 q2) ∧ Ext H11 H12 := fun due s' hd H12 x2 u hx hx2 hu => by
        rw [← det', sum_low (by omega) (by omega), e2] at hu
        exact ⟨hu, hd.ext ((Ext.new hx2).trans hx), (Ext.new hx2).trans hx⟩
      have e3 : rD (Rat.divInt (-sd) (q1 * q2)) = pD (-sd) (q1 * q2) := rD_low qq (gcd_side (by omega))
      have sdb : (-sd).natAbs < 2 ^ 2000 := Nat.lt_of_lt_of_le (m := 2 ^ 2) (by omega) (Nat.pow_le_pow_right (by decide) (by decide))
      refine ite_vi (fun ck => ?_) (fun ck => ?_)
      · have sn : suf = [] := by
          have := congrArg List.length er0
          simp at this
          exact List.length_eq_zero_iff.mp (by rw [hln] at ck; omega)
        subst sn
        have hd : Dq H11 tv0 (pD p2 q2) := by
          have z := hq0.ext ((hE1.trans hE).trans hE3B)
          have t1 : (tt (a :: l)).1 = p2 := by rw [top]; show p2 * 1 + _ * 0 = p2; omega
          have t2 : (tt (a :: l)).2 = q2 := by rw [bot]; show q2 * 1 + _ * 0 = q2; omega
          show Dq H11 tv0 (pD p2 q2)
          rw [← t1, ← t2]; exact z
        walk_at "go"
        refine w_wmul b2 b4 (by decide) (by decide) (by decide) ?_
        walk_at "go"
        intro x2 hx2
        walk_at "go"
        refine call_two (a := Rat.divInt p1 q1) (b := Rat.divInt (-sd) (q1 * q2)) (by rw [e1]; exact d1.ext (hE3B.newer hx2)) (by rw [e3]; exact .of_pair L2.upd_same) (Bd.div (up2 b1) (up2 b2) (by omega)) (Bd.div sdb w12 (by omega)) fun u H12 hE12 hu => ?_
        obtain ⟨z1, z2, z3⟩ := fin tv0 [] hd H12 x2 u hE12 hx2 hu
        walk_at "go"
        refine call_alike z1 z2 (sm_pr _ _) fun H13 hE13 => ?_
        walk_at "go"
        exact ⟨_, _, _, _, _, rfl, ((hE.trans hE3B).trans z3).trans hE13⟩
      · walk_at "go"
        refine w_wmul b2 b4 (by decide) (by decide) (by decide) ?_
        walk_at "go"
        intro x2 hx2
        walk_at "go"
        refine call_two (a := Rat.divInt p1 q1) (b := Rat.divInt (-sd) (q1 * q2)) (by rw [e1]; exact d1.ext (hE3B.newer hx2)) (by rw [e3]; exact .of_pair L2.upd_same) (Bd.div (up2 b1) (up2 b2) (by omega)) (Bd.div sdb w12 (by omega)) fun u H12 hE12 hu => ?_
        obtain ⟨z1, z2, z3⟩ := fin (.ref a2) [] (d2.ext hE3B) H12 x2 u hE12 hx2 hu
        walk_at "go"
        refine call_alike z1 z2 (sm_pr _ _) fun H13 hE13 => ?_
        walk_at "go"
        exact ⟨_, _, _, _, _, rfl, ((hE.trans hE3B).trans z3).trans hE13⟩
  · rintro σ H3 ⟨y1, y2, y3, y4, y5, rfl, hE⟩
    walk_at "go"
    exact q H3 (hE1.trans hE)
end
end Kf

end
section
set_option Elab.async false
set_option linter.all false
set_option maxRecDepth 100000
set_option maxHeartbeats 4000000
local macro_rules | `(tactic| walk_at "npl") => `(tactic| first | exact Kf.npl rfl | exact Kf.npl_ints _ | exact Kf.npl_one _ _ | exact Kf.npl_refs _ | assumption)
local macro_rules | `(tactic| walk_at "nn") => `(tactic| first
  | assumption
  | (refine' Kf.Ext.non ?nne ?nnh; (case nne => assumption); (case nnh => walk_at "nn")))
local macro_rules | `(tactic| walk_at "ext") => `(tactic| first
  | assumption
  | exact Kf.Ext.refl
  | (refine' Kf.Ext.newer ?exa ?exn; (case exn => assumption); (case exa => walk_at "ext"))
  | (refine' Kf.Ext.own ?exa ?exn; (case exn => walk_at "nn"); (case exa => walk_at "ext"))
  | (refine' Kf.Ext.trans ?exa ?exb; (case exb => assumption); (case exa => walk_at "ext")))
local macro_rules | `(tactic| walk_at "pool") => `(tactic| first
  | assumption
  | (refine' Kf.PoolAt.ext ?plh ?ple; (case plh => assumption); (case ple => walk_at "ext"))
  | (refine' Kf.PoolAt.upd ?plh ?plo ?pln; (case plo => assumption); (case pln => walk_at "npl"); (case plh => walk_at "pool")))
local macro_rules | `(tactic| walk_at "lk") => `(tactic| first
  | assumption
  | exact L2.upd_same
  | (refine' Kf.upd_old ?lkn ?lkh; (case lkn => assumption); (case lkh => walk_at "lk"))
  | (refine' Kf.upd_oth ?lkn ?lkh; (case lkn => (first | assumption | (apply Ne.symm; assumption))); (case lkh => walk_at "lk"))
  | (refine' Kf.Ext.get ?lke ?lkh ?lkn; (case lke => assumption); (case lkh => walk_at "lk"); (case lkn => walk_at "npl"))
  | (refine' L2.Same.at ?lke ?lkh; (case lke => assumption); (case lkh => walk_at "lk")))
local macro_rules | `(tactic| walk_at "sq") => `(tactic| first
  | assumption
  | (refine' L2.SqL.of ?sqh; (case sqh => walk_at "lk"))
  | (refine' L2.SqT.of ?sqh; (case sqh => walk_at "lk"))
  | (refine' Kf.Ext.seqL ?sqe ?sqh ?sqn; (case sqh => assumption); (case sqe => walk_at "ext"); (case sqn => walk_at "npl"))
  | (refine' Kf.Ext.seqT ?sqe ?sqh; (case sqh => assumption); (case sqe => walk_at "ext")))
local macro_rules | `(tactic| walk_at "at") => `(tactic| first | exact L2.atI_nat (j := 0) rfl | exact L2.atI_nat (j := 1) rfl | exact L2.atI_nat (j := 2) rfl | exact L2.atI_nat (j := 3) rfl | exact L2.atI_nat (j := 4) rfl | assumption)
local macro_rules | `(tactic| walk_at "ixn") => `(tactic| first | exact Kf.ixN_nat (j := 0) rfl | exact Kf.ixN_nat (j := 1) rfl | exact Kf.ixN_nat (j := 2) rfl | exact Kf.ixN_nat (j := 3) rfl | assumption)
local macro_rules | `(tactic| walk_at "set") => `(tactic| (first | (simp only [List.set_cons_succ, List.set_cons_zero]; rfl) | rfl))
local macro_rules | `(tactic| walk_at "om") => `(tactic| first | decide | omega | (simp only [List.length_map, List.length_cons, List.length_nil] at *; omega))
local macro_rules | `(tactic| walk_at "calls") => `(tactic| first
  | (with_reducible refine' Kf.call_take ?clp ?cla ?clb ?clq; (case clp => walk_at "pool"); (case cla => walk_at "om"); (case clb => walk_at "om"); intro r H' hE h0 h1)
  | (with_reducible refine' Kf.call_pool ?cls ?cla ?clq; (case cls => walk_at "sq"); (case cla => walk_at "om"); intro p H' hE hN hP)
  | (with_reducible refine' Kf.call_turn ?cls ?clp ?cla ?clq; (case cls => walk_at "sq"); (case clp => walk_at "pool"); (case cla => walk_at "om"); intro u H' hE hP))
local macro_rules | `(tactic| walk_at "side") => `(tactic| first
  | exact Kf.cmul_fmod (by decide) (by decide)
  | exact rfl
  | decide
  | omega
  | assumption
  | (refine ⟨?_, ?_⟩ <;> decide)
  | (refine ⟨?_, ?_, ?_⟩ <;> decide)
  | (refine ⟨?_, ?_⟩ <;> omega)
  | (refine Or.inl ⟨?_, ?_⟩ <;> decide)
  | (refine Or.inr ⟨?_, ?_⟩ <;> decide)
  | (refine Or.inl ⟨?_, ?_⟩ <;> omega)
  | (refine Or.inr ⟨?_, ?_⟩ <;> omega))
local macro_rules | `(tactic| walk_at "kit") => `(tactic| first | exact Kf.isi_int_int | exact Kf.isi_int_bool | exact Kf.isi_int_str | exact Kf.isi_int_list | exact Kf.isi_int_tuple | exact Kf.isi_bool_int | exact Kf.isi_bool_bool | exact Kf.isi_bool_str | exact Kf.isi_bool_list | exact Kf.isi_bool_tuple | exact Kf.isi_str_int | exact Kf.isi_str_bool | exact Kf.isi_str_str | exact Kf.isi_str_list | exact Kf.isi_str_tuple | exact Kf.isi_non_list | exact Kf.isi_non_tuple | exact Kf.isi_list_list | exact Kf.isi_list_tuple | exact Kf.isi_tuple_list | exact Kf.isi_tuple_tuple | exact Kf.isi_dict_dict)
local macro_rules | `(tactic| walk_at "ty") => `(tactic| first
  | exact L2.TyX.base (L2.TyOf.int _)
  | exact L2.TyX.base (L2.TyOf.bl _)
  | exact L2.TyX.base (L2.TyOf.str _)
  | exact L2.TyX.base L2.TyOf.non
  | (refine' L2.TyX.base (L2.TyOf.lst ?tyh); (case tyh => walk_at "lk"))
  | (refine' L2.TyX.base (L2.TyOf.tup ?tyh); (case tyh => walk_at "lk"))
  | (refine' L2.TyX.base (L2.TyOf.dK ?tyh); (case tyh => walk_at "lk")))
local macro_rules | `(tactic| walk_at "om2") => `(tactic| first | assumption | decide | omega)
local macro_rules | `(tactic| walk_at "st") => `(tactic| with_reducible first
  | (refine Kf.w_var rfl ?_)
  | (refine Kf.w_c ?_)
  | (refine Kf.w_seq ?_)
  | (refine Kf.w_asg ?_)
  | (refine' Kf.w_gname ?sth ?_; (case sth => with_unfolding_all walk_at "set"))
  | (refine Kf.w_op ?_)
  | (refine Kf.w_un ?_)
  | (refine Kf.w_rU ?_)
  | (refine Kf.w_rI0 ?_)
  | (refine' Kf.w_rI ?sth ?_; (case sth => with_unfolding_all walk_at "side"))
  | (refine' Kf.w_rEq ?sth ?_; (case sth => with_unfolding_all rfl))
  | (refine' Kf.w_rNe ?sth ?_; (case sth => with_unfolding_all rfl))
  | (refine Kf.w_tTest ?_)
  | (refine Kf.w_tB ?_)
  | (refine Kf.w_exbl ?_)
  | (refine Kf.w_exint ?_)
  | (refine Kf.w_ifS ?_)
  | (refine Kf.w_ret ?_)
  | (refine Kf.w_retN ?_)
  | (refine Kf.w_drop ?_)
  | (refine Kf.w_and ?_)
  | (refine Kf.w_or ?_)
  | (refine Kf.w_not ?_)
  | (refine Kf.w_andV ?_)
  | (refine Kf.w_orV ?_)
  | (refine Kf.w_notV ?_)
  | (refine Kf.w_if ?_)
  | (refine Kf.w_lc ?_)
  | (refine Kf.w_for ?_)
  | (refine Kf.w_rng1 ?_)
  | (refine' Kf.w_rng1x ?sth ?stg ?_; (case sth => with_unfolding_all walk_at "om"); (case stg => with_unfolding_all walk_at "om"))
  | (refine Kf.w_ilist ?_)
  | (refine Kf.w_iseq ?_)
  | (refine Kf.w_itup ?_)
  | (refine' Kf.w_ilistx ?sth ?_; (case sth => with_unfolding_all walk_at "sq"))
  | (refine' Kf.w_itupx ?sth ?_; (case sth => with_unfolding_all walk_at "sq"))
  | (refine' Kf.w_wipe ?sth ?_; (case sth => with_unfolding_all rfl))
  | (refine Kf.w_yes ?_)
  | (refine' Kf.w_isi ?sth ?stg ?_; (case sth => with_unfolding_all walk_at "ty"); (case stg => walk_at "kit"))
  | (refine Kf.w_isN ?_)
  | (refine Kf.w_notN ?_)
  | (refine Kf.w_cb ?_)
  | (refine Kf.w_nil ?_)
  | (refine Kf.w_cons ?_)
  | (refine Kf.w_tup ?_)
  | (refine Kf.w_lst ?_)
  | (refine' Kf.w_lines ?sth ?_; (case sth => with_unfolding_all rfl))
  | (refine Kf.w_call ?_)
  | (refine Kf.w_next ?_)
  | (refine Kf.w_break ?_)
  | (refine Kf.w_cont ?_)
  | (refine Kf.w_dnewK ?_)
  | (refine Kf.w_dget ?_)
  | (refine Kf.w_sl ?_)
  | (refine Kf.w_nopart ?_)
  | (refine Kf.w_part ?_)
  | (refine Kf.w_bm ?_)
  | (refine Kf.w_bm0 ?_)
  | (refine' Kf.w_bmL ?sth ?_; (case sth => with_unfolding_all walk_at "lk"))
  | (refine' Kf.w_cat ?sth ?stg ?stf ?_; (case sth => with_unfolding_all walk_at "lk"); (case stg => with_unfolding_all walk_at "lk"); (case stf => with_unfolding_all walk_at "om"))
  | (refine' Kf.w_slL ?sth ?_; (case sth => with_unfolding_all walk_at "sq"))
  | (refine' Kf.w_inL ?sth ?_; (case sth => with_unfolding_all walk_at "sq"))
  | (refine' Kf.w_inT ?sth ?_; (case sth => with_unfolding_all walk_at "sq"))
  | (refine' Kf.w_ninL ?sth ?_; (case sth => with_unfolding_all walk_at "sq"))
  | (refine' Kf.w_ninT ?sth ?_; (case sth => with_unfolding_all walk_at "sq"))
  | (refine' Kf.w_listof ?sth ?_; (case sth => with_unfolding_all walk_at "sq"))
  | (refine' Kf.w_tupof ?sth ?_; (case sth => with_unfolding_all walk_at "sq"))
  | (refine Kf.w_listRev ?_)
  | (refine Kf.w_gsub ?_)
  | (refine' Kf.w_ixL ?sth ?stg ?_; (case sth => with_unfolding_all walk_at "sq"); (case stg => with_unfolding_all walk_at "at"))
  | (refine' Kf.w_ixT ?sth ?stg ?_; (case sth => with_unfolding_all walk_at "sq"); (case stg => with_unfolding_all walk_at "at"))
  | (refine' Kf.w_setL ?sth ?stg ?_; (case sth => with_unfolding_all walk_at "lk"); (case stg => with_unfolding_all walk_at "ixn"))
  | (refine' Kf.w_len ?sth ?_; (case sth => with_unfolding_all walk_at "sq"))
  | (refine' Kf.w_lenT ?sth ?_; (case sth => with_unfolding_all walk_at "sq"))
  | (refine Kf.w_int1 ?_)
  | (refine Kf.w_intb ?_)
  | (refine Kf.w_abs ?_)
  | (refine Kf.w_aug rfl ?_)
  | (refine Kf.w_par ?_)
  | (refine' Kf.w_gtup ?sth ?stg ?_; (case sth => with_unfolding_all walk_at "sq"); (case stg => with_unfolding_all exact rfl))
  | (refine' Kf.w_glst ?sth ?stg ?_; (case sth => with_unfolding_all walk_at "sq"); (case stg => with_unfolding_all exact rfl))
  | (refine Kf.w_rng2 ?_)
  | (refine Kf.w_rng3 ?_)
  | (refine' Kf.w_rng2x ?sth ?stg ?stf ?ste ?_; (case sth => with_unfolding_all walk_at "om"); (case stg => with_unfolding_all walk_at "om"); (case stf => with_unfolding_all walk_at "om"); (case ste => with_unfolding_all walk_at "om"))
  | (refine Kf.w_gcons ?_)
  | (refine Kf.w_gnil ?_)
  | (refine Kf.w_gcd ?_)
  | (refine Kf.w_bits ?_)
  | (refine Kf.w_two ?_)
  | (refine Kf.w_ipI ?_)
  | (refine L2.iteT ?_)
  | (refine L2.iteF ?_)
  | (refine Kf.iteNT ?_)
  | (refine Kf.iteNF ?_)
  | (refine' Kf.ite_decT ?sth ?_; (case sth => exact rfl))
  | (refine' Kf.ite_decF ?sth ?_; (case sth => with_unfolding_all (intro e; cases e; done)))
  | (refine' Kf.ite_ndecF ?sth ?_; (case sth => exact rfl))
  | (refine' Kf.ite_ndecT ?sth ?_; (case sth => with_unfolding_all (intro e; cases e; done)))
  | (refine' Kf.ite_viT ?sth ?_; (case sth => (with_unfolding_all walk_at "om2")))
  | (refine' Kf.ite_viF ?sth ?_; (case sth => (with_unfolding_all walk_at "om2")))
  | (refine' Kf.ite_nviT ?sth ?_; (case sth => (with_unfolding_all walk_at "om2")))
  | (refine' Kf.ite_nviF ?sth ?_; (case sth => (with_unfolding_all walk_at "om2")))
  | (refine' Kf.ite_decT ?sth ?_; (case sth => (with_unfolding_all walk_at "om2")))
  | (refine' Kf.ite_decF ?sth ?_; (case sth => (with_unfolding_all walk_at "om2")))
  | with_unfolding_all walk_at "calls")
local macro_rules | `(tactic| walk_at "go") => `(tactic| repeat walk_at "st")

namespace Kf
open PySem PySem.Spec PyProof.Rows L2
open R0 (tt xr Bd)
abbrev s__law_both : Stmt := topS 39
abbrev N__law_both : List Str := ["row", "k"]
abbrev P__law_both : List Str := ["row", "k"]
theorem sc__law_both : FnScope N__law_both P__law_both (defScope s__law_both) := ⟨rfl, rfl, rfl, by decide +kernel, rfl, by decide +kernel, by decide +kernel⟩
abbrev s__law_products : Stmt := topS 41
abbrev N__law_products : List Str := ["many", "start", "factor", "total", "back", "k", "j"]
abbrev P__law_products : List Str := ["many", "start", "factor"]
theorem sc__law_products : FnScope N__law_products P__law_products (defScope s__law_products) := ⟨rfl, rfl, rfl, by decide +kernel, rfl, by decide +kernel, by decide +kernel⟩
section
variable {P : Program} {w : World} {K : PySem.W.Frag} {mg : Str → Option Value} {base : Heap} {H : Hp} {Q : VK} {E : XK}
theorem sq_rat (l : List Rat) : ∀ d ∈ l.map rD, isSq d := fun d hd => by
  obtain ⟨r, _, e⟩ := List.mem_map.mp hd
  subst e; trivial
theorem rat_el {H : Hp} {rs : List Rat} {vs : List V} {i : Nat} {r : Rat} (h : DqAll H vs (rs.map rD)) (e : rs[i]? = some r) : ∃ v, vs[i]? = some v ∧ Dq H v (rD r) := h.el (by rw [List.getElem?_map, e]; rfl)
def spBoth (K : PySem.W.Frag) : Sp := fun vs H Q _ => ∃ (ra : Addr) (xs : List V) (rs : List Rat) (k : Nat), vs = [.ref ra, .int (k : Int)] ∧ H ra = some (.lst xs) ∧ DqAll H xs (rs.map rD) ∧ (∀ r ∈ rs, Bd 2000 r) ∧ rs.length < 1000 ∧
  ((∃ r1 r2, rs[k]? = some r1 ∧ rs[k + 1]? = some r2 ∧ ∀ v H', Ext H H' → Dq H' v (rD (r1 + r2)) → Q v H') ∨ (∃ r1, rs[k]? = some r1 ∧ rs.length = k + 1 ∧ ∀ v, Dq H v (rD r1) → Q v H))
theorem ok_both (D : Df K mg "_law_both" s__law_both P__law_both) (b_len : mg "len" = none) (p_plus : Pr P w K mg base "plus" 2 P_plus (spTwo K (fun a b => a + b))) : Pr P w K mg base "_law_both" 3 P__law_both (spBoth K) := by
  refine D.ok sc__law_both (fun vs H Q E h => ?_) (fun f cdv A outer s H vs Q E hr h => ?_)
  · obtain ⟨ra, xs, rs, k, rfl, _⟩ := h; rfl
  obtain ⟨ra, xs, rs, k, rfl, hra, hx, hb, hl, q⟩ := h
  have nd := sc__law_both.nd
  have xl := hx.len
  rw [List.length_map] at xl
  refine ⟨_, (pss_one (ps_ret (pe_ifExp (pt_cmpR op_lt (pe_op op_add (pv 1) pe_int) (pe_callB (call_lenK (K := K) rfl) (by rfl) b_len PySem.boot_len (pa_cons (pv 0) pa_nil)) (nomark _)) (pe_callP p_plus hr (pa_cons (pe_ix (ix_listK (K := K) rfl) (pv 0) (pv 1) (fun _ _ => rfl)) (pa_cons (pe_ix (ix_listK (K := K) rfl) (pv 0) (pe_op op_add (pv 1) pe_int) (fun _ _ => rfl)) pa_nil))) (pe_ix (ix_listK (K := K) rfl) (pv 0) (pv 1) (fun _ _ => rfl))))), ?_⟩
  refine w_start (σ := [some _, some _]) rfl ?_
  rcases q with ⟨r1, r2, e1, e2, q⟩ | ⟨r1, e1, el, q⟩
  · obtain ⟨v1, hv1, d1⟩ := rat_el hx e1
    obtain ⟨v2, hv2, d2⟩ := rat_el hx e2
    have kl := (List.getElem?_eq_some_iff.mp e2).1
    have a1 : atI xs (k : Int) = some v1 := atI_nat hv1
    have a2 : atI xs ((k : Int) + 1) = some v2 := atI_nat (j := k + 1) hv2
    walk_at "go"
    refine call_two d1 d2 (hb _ (List.mem_of_getElem? e1)) (hb _ (List.mem_of_getElem? e2)) fun v H' hE hv => ?_
    exact q v H' hE hv
  · obtain ⟨v1, hv1, d1⟩ := rat_el hx e1
    have a1 : atI xs (k : Int) = some v1 := atI_nat hv1
    walk_at "go"
    exact q v1 d1
/-! ### products -/
theorem div_cancel {f x y : Int} (hf : f ≠ 0) (hy : y ≠ 0) : Rat.divInt (f * x) (f * y) = Rat.divInt x y := by
  rw [Rat.divInt_eq_div, Rat.divInt_eq_div, Rat.intCast_mul, Rat.intCast_mul]
  have n1 := R0.cast_ne hf
  have n2 := R0.cast_ne hy
  generalize ((f : Int) : Rat) = f at *
  generalize ((y : Int) : Rat) = y at *
  grind
theorem mul_chain {x y z : Int} (hy : y ≠ 0) (hz : z ≠ 0) : Rat.divInt x y * Rat.divInt y z = Rat.divInt x z := by
  rw [Rat.divInt_eq_div, Rat.divInt_eq_div, Rat.divInt_eq_div]
  have n1 := R0.cast_ne hz
  have n2 := R0.cast_ne hy
  generalize ((z : Int) : Rat) = f at *
  generalize ((y : Int) : Rat) = y at *
  grind
theorem mul_comm' (a b : Rat) : a * b = b * a := Rat.mul_comm a b
theorem div_self' {x : Int} (h : x ≠ 0) : Rat.divInt x x = 1 := by
  rw [Rat.divInt_eq_div]
  have := R0.cast_ne h
  generalize ((x : Int) : Rat) = x at *
  grind
theorem sm64 {x : Int} (h : x.natAbs ≤ 18446744073709551615) : x.natAbs < 2 ^ 2000 := Nat.lt_of_lt_of_le (m := 2 ^ 64) (by omega) (Nat.pow_le_pow_right (by decide) (by decide))
theorem sm8k {x : Int} (h : x.natAbs ≤ 18446744073709551615) : x.natAbs < 2 ^ 8000 := Nat.lt_of_lt_of_le (m := 2 ^ 64) (by omega) (Nat.pow_le_pow_right (by decide) (by decide))
theorem fac_small {f x : Int} (h : f.natAbs ≤ 9) (hx : 0 ≤ x) (h2 : x ≤ 2000000000000) : (f * x).natAbs ≤ 18446744073709551615 := by
  rw [Int.natAbs_mul]
  have := Nat.mul_le_mul h (show x.natAbs ≤ 2000000000000 by omega)
  omega
def spProd (K : PySem.W.Frag) : Sp := fun vs H Q _ => ∃ m s f : Int, vs = [.int m, .int s, .int f] ∧ COk m s f ∧ ∀ H', Ext H H' → Q (.bl true) H'
theorem ok_products (D : Df K mg "_law_products" s__law_products P__law_products) (b_range : mg "range" = none) (p_ratio : Pr P w K mg base "ratio" 1 P_ratio (spRatio K)) (p__law_alike : Pr P w K mg base "_law_alike" 3 P__law_alike (spAlike 1)) (p__law_lowest : Pr P w K mg base "_law_lowest" 1 P__law_lowest (spLow K))
    (p_times : Pr P w K mg base "times" 2 P_times (spTwo K (fun a b => a * b))) : Pr P w K mg base "_law_products" 4 P__law_products (spProd K) := by
  refine D.ok sc__law_products (fun vs H Q E h => ?_) (fun f cdv A outer s H vs Q E hr h => ?_)
  · obtain ⟨m, s, f, rfl, _⟩ := h; rfl
  obtain ⟨m, s, f, rfl, ok, q⟩ := h
  have nd := sc__law_products.nd
  obtain ⟨m1, m2, s1, s2, f0, f1⟩ := ok
  refine ⟨_, (pss_cons (ps_set (i := 3) nd rfl (Or.inl rfl) (pe_tup (pa_cons pe_int (pa_cons pe_int pa_nil))))
      (pss_cons (ps_set (i := 4) nd rfl (Or.inl rfl) (pe_tup (pa_cons pe_int (pa_cons pe_int pa_nil))))
      (pss_cons (ps_for PassesOwn.never rfl (pi_range1 (by rfl) b_range (pa_cons (pv 0) pa_nil)) (pg_name (i := 5) nd rfl (Or.inl rfl)) (pss_cons (ps_set (i := 6) nd rfl (Or.inl rfl) (pe_op op_sub (pe_op op_sub (pv 0) pe_int) (pv 5)))
      (pss_cons (ps_set (i := 3) nd rfl (Or.inl rfl) (pe_callP p_times hr (pa_cons (pv 3) (pa_cons (pe_callP p_ratio hr (pa_cons (pe_op op_mul (pv 2) (pe_op op_add (pe_op op_add (pv 1) (pv 5)) pe_int)) (pa_cons (pe_op op_mul (pv 2) (pe_op op_add (pv 1) (pv 5))) pa_nil))) pa_nil))))
      (pss_cons (ps_if (pt_not (pt_val (pe_callP p__law_alike hr (pa_cons (pv 3) (pa_cons (pe_callP p__law_lowest hr (pa_cons (pe_op op_add (pe_op op_add (pv 1) (pv 5)) pe_int) (pa_cons (pv 1) pa_nil))) pa_nil))))) (pss_one (ps_ret pe_bl)) pss_nil)
      (pss_cons (ps_set (i := 4) nd rfl (Or.inl rfl) (pe_callP p_times hr (pa_cons (pe_callP p_ratio hr (pa_cons (pe_op op_mul (pv 2) (pe_op op_add (pe_op op_add (pv 1) (pv 6)) pe_int)) (pa_cons (pe_op op_mul (pv 2) (pe_op op_add (pv 1) (pv 6))) pa_nil))) (pa_cons (pv 4) pa_nil))))
      (pss_one (ps_if (pt_not (pt_val (pe_callP p__law_alike hr (pa_cons (pv 4) (pa_cons (pe_callP p__law_lowest hr (pa_cons (pe_op op_add (pv 1) (pv 0)) (pa_cons (pe_op op_add (pv 1) (pv 6)) pa_nil))) pa_nil))))) (pss_one (ps_ret pe_bl)) pss_nil)))))))
      (pss_one (ps_ret pe_bl))))), ?_⟩
  refine w_start (σ := [some _, some _, some _, none, none, none, none]) rfl ?_
  walk_at "go"
  intro p1 hp1
  walk_at "go"
  intro p2 hp2
  walk_at "go"
  refine for_range (fun i σ H' => ∃ (x y : V) (y1 y2 : Option V), σ = [some (.int m), some (.int s), some (.int f), some x, some y, y1, y2] ∧ Ext H H' ∧ Dq H' x (rD (Rat.divInt (s + i) s)) ∧ Dq H' y (rD (Rat.divInt (s + m) (s + m - i))))
    ⟨.ref p1, .ref p2, _, _, rfl, (Ext.new hp1).newer hp2, ?_, ?_⟩ ?_ ?_
  · have e : s + ((0 : Nat) : Int) = s := by omega
    rw [e, div_self' (by omega)]
    exact .of_pair (upd_old hp2 L2.upd_same)
  · have e : s + m - ((0 : Nat) : Int) = s + m := by omega
    rw [e, div_self' (by omega)]
    exact .of_pair L2.upd_same
  · rintro i σ H3 hi ⟨x, y, y1, y2, rfl, hE, hx, hy⟩
    have im : (i : Int) < m := by omega
    walk_at "go"
    refine call_ratio ?h0 (sm8k (fac_small f1 (by omega) (by omega))) (sm8k (fac_small f1 (by omega) (by omega))) fun u H4 hE4 hu => ?_
    case h0 => exact Int.mul_ne_zero f0 (by omega)
    rw [div_cancel f0 (by omega)] at hu
    walk_at "go"
    refine call_two (hx.ext hE4) hu (Bd.div (sm64 (by omega)) (sm64 (by omega)) (by omega)) (Bd.div (sm64 (by omega)) (sm64 (by omega)) (by omega)) fun x' H5 hE5 hx' => ?_
    rw [Rat.mul_comm, Int.zero_add, mul_chain (by omega) (by omega)] at hx'
    have hE35 := hE4.trans hE5
    walk_at "go"
    refine call_low (by omega) (sm8k (by omega)) fun z H6 hE6 hz => ?_
    walk_at "go"
    rw [Int.zero_add] at hz
    refine call_alike (hx'.ext hE6) hz (sm_pr _ _) fun H7 hE7 => ?_
    have hE37 := (hE35.trans hE6).trans hE7
    walk_at "go"
    refine call_ratio ?h0 (sm8k (fac_small f1 (by omega) (by omega))) (sm8k (fac_small f1 (by omega) (by omega))) fun u2 H8 hE8 hu2 => ?_
    case h0 => exact Int.mul_ne_zero f0 (by omega)
    rw [div_cancel f0 (by omega)] at hu2
    walk_at "go"
    refine call_two hu2 (hy.ext (hE37.trans hE8)) (Bd.div (sm64 (by omega)) (sm64 (by omega)) (by omega)) (Bd.div (sm64 (by omega)) (sm64 (by omega)) (by omega)) fun y' H9 hE9 hy' => ?_
    have ea : s + (m - 1 - (0 + (i : Int))) + 1 = s + m - i := by omega
    have eb : s + (m - 1 - (0 + (i : Int))) = s + m - ((i + 1 : Nat) : Int) := by omega
    rw [ea, eb, Rat.mul_comm, mul_chain (by omega) (by omega)] at hy'
    walk_at "go"
    refine call_low (by omega) (sm8k (by omega)) fun z2 H10 hE10 hz2 => ?_
    rw [eb] at hz2
    walk_at "go"
    refine call_alike (hy'.ext hE10) hz2 (sm_pr _ _) fun H11 hE11 => ?_
    have hE7B := ((hE8.trans hE9).trans hE10).trans hE11
    walk_at "go"
    refine ⟨x', y', _, _, rfl, (hE.trans hE37).trans hE7B, ?_, hy'.ext (hE10.trans hE11)⟩
    have ec : s + (i : Int) + 1 = s + ((i + 1 : Nat) : Int) := by omega
    rw [← ec]
    exact hx'.ext ((hE6.trans hE7).trans hE7B)
  · rintro σ H3 ⟨x, y, y1, y2, rfl, hE, _⟩
    walk_at "go"
    exact q H3 hE
end
end Kf

end
section
set_option Elab.async false
set_option linter.all false
set_option maxRecDepth 100000
set_option maxHeartbeats 4000000
local macro_rules | `(tactic| walk_at "npl") => `(tactic| first | exact Kf.npl rfl | exact Kf.npl_ints _ | exact Kf.npl_one _ _ | exact Kf.npl_refs _ | assumption)
local macro_rules | `(tactic| walk_at "nn") => `(tactic| first
  | assumption
  | (refine' Kf.Ext.non ?nne ?nnh; (case nne => assumption); (case nnh => walk_at "nn")))
local macro_rules | `(tactic| walk_at "ext") => `(tactic| first
  | assumption
  | exact Kf.Ext.refl
  | (refine' Kf.Ext.newer ?exa ?exn; (case exn => assumption); (case exa => walk_at "ext"))
  | (refine' Kf.Ext.own ?exa ?exn; (case exn => walk_at "nn"); (case exa => walk_at "ext"))
  | (refine' Kf.Ext.trans ?exa ?exb; (case exb => assumption); (case exa => walk_at "ext")))
local macro_rules | `(tactic| walk_at "pool") => `(tactic| first
  | assumption
  | (refine' Kf.PoolAt.ext ?plh ?ple; (case plh => assumption); (case ple => walk_at "ext"))
  | (refine' Kf.PoolAt.upd ?plh ?plo ?pln; (case plo => assumption); (case pln => walk_at "npl"); (case plh => walk_at "pool")))
local macro_rules | `(tactic| walk_at "lk") => `(tactic| first
  | assumption
  | exact L2.upd_same
  | (refine' Kf.upd_old ?lkn ?lkh; (case lkn => assumption); (case lkh => walk_at "lk"))
  | (refine' Kf.upd_oth ?lkn ?lkh; (case lkn => (first | assumption | (apply Ne.symm; assumption))); (case lkh => walk_at "lk"))
  | (refine' Kf.Ext.get ?lke ?lkh ?lkn; (case lke => assumption); (case lkh => walk_at "lk"); (case lkn => walk_at "npl"))
  | (refine' L2.Same.at ?lke ?lkh; (case lke => assumption); (case lkh => walk_at "lk")))
local macro_rules | `(tactic| walk_at "sq") => `(tactic| first
  | assumption
  | (refine' L2.SqL.of ?sqh; (case sqh => walk_at "lk"))
  | (refine' L2.SqT.of ?sqh; (case sqh => walk_at "lk"))
  | (refine' Kf.Ext.seqL ?sqe ?sqh ?sqn; (case sqh => assumption); (case sqe => walk_at "ext"); (case sqn => walk_at "npl"))
  | (refine' Kf.Ext.seqT ?sqe ?sqh; (case sqh => assumption); (case sqe => walk_at "ext")))
local macro_rules | `(tactic| walk_at "at") => `(tactic| first | exact L2.atI_nat (j := 0) rfl | exact L2.atI_nat (j := 1) rfl | exact L2.atI_nat (j := 2) rfl | exact L2.atI_nat (j := 3) rfl | exact L2.atI_nat (j := 4) rfl | assumption)
local macro_rules | `(tactic| walk_at "ixn") => `(tactic| first | exact Kf.ixN_nat (j := 0) rfl | exact Kf.ixN_nat (j := 1) rfl | exact Kf.ixN_nat (j := 2) rfl | exact Kf.ixN_nat (j := 3) rfl | assumption)
local macro_rules | `(tactic| walk_at "set") => `(tactic| (first | (simp only [List.set_cons_succ, List.set_cons_zero]; rfl) | rfl))
local macro_rules | `(tactic| walk_at "om") => `(tactic| first | decide | omega | (simp only [List.length_map, List.length_cons, List.length_nil] at *; omega))
local macro_rules | `(tactic| walk_at "calls") => `(tactic| first
  | (with_reducible refine' Kf.call_take ?clp ?cla ?clb ?clq; (case clp => walk_at "pool"); (case cla => walk_at "om"); (case clb => walk_at "om"); intro r H' hE h0 h1)
  | (with_reducible refine' Kf.call_pool ?cls ?cla ?clq; (case cls => walk_at "sq"); (case cla => walk_at "om"); intro p H' hE hN hP)
  | (with_reducible refine' Kf.call_turn ?cls ?clp ?cla ?clq; (case cls => walk_at "sq"); (case clp => walk_at "pool"); (case cla => walk_at "om"); intro u H' hE hP))
local macro_rules | `(tactic| walk_at "side") => `(tactic| first
  | exact Kf.cmul_fmod (by decide) (by decide)
  | exact rfl
  | decide
  | omega
  | assumption
  | (refine ⟨?_, ?_⟩ <;> decide)
  | (refine ⟨?_, ?_, ?_⟩ <;> decide)
  | (refine ⟨?_, ?_⟩ <;> omega)
  | (refine Or.inl ⟨?_, ?_⟩ <;> decide)
  | (refine Or.inr ⟨?_, ?_⟩ <;> decide)
  | (refine Or.inl ⟨?_, ?_⟩ <;> omega)
  | (refine Or.inr ⟨?_, ?_⟩ <;> omega))
local macro_rules | `(tactic| walk_at "kit") => `(tactic| first | exact Kf.isi_int_int | exact Kf.isi_int_bool | exact Kf.isi_int_str | exact Kf.isi_int_list | exact Kf.isi_int_tuple | exact Kf.isi_bool_int | exact Kf.isi_bool_bool | exact Kf.isi_bool_str | exact Kf.isi_bool_list | exact Kf.isi_bool_tuple | exact Kf.isi_str_int | exact Kf.isi_str_bool | exact Kf.isi_str_str | exact Kf.isi_str_list | exact Kf.isi_str_tuple | exact Kf.isi_non_list | exact Kf.isi_non_tuple | exact Kf.isi_list_list | exact Kf.isi_list_tuple | exact Kf.isi_tuple_list | exact Kf.isi_tuple_tuple | exact Kf.isi_dict_dict)
local macro_rules | `(tactic| walk_at "ty") => `(tactic| first
  | exact L2.TyX.base (L2.TyOf.int _)
  | exact L2.TyX.base (L2.TyOf.bl _)
  | exact L2.TyX.base (L2.TyOf.str _)
  | exact L2.TyX.base L2.TyOf.non
  | (refine' L2.TyX.base (L2.TyOf.lst ?tyh); (case tyh => walk_at "lk"))
  | (refine' L2.TyX.base (L2.TyOf.tup ?tyh); (case tyh => walk_at "lk"))
  | (refine' L2.TyX.base (L2.TyOf.dK ?tyh); (case tyh => walk_at "lk")))
local macro_rules | `(tactic| walk_at "om2") => `(tactic| first | assumption | decide | omega)
local macro_rules | `(tactic| walk_at "st") => `(tactic| with_reducible first
  | (refine Kf.w_var rfl ?_)
  | (refine Kf.w_c ?_)
  | (refine Kf.w_seq ?_)
  | (refine Kf.w_asg ?_)
  | (refine' Kf.w_gname ?sth ?_; (case sth => with_unfolding_all walk_at "set"))
  | (refine Kf.w_op ?_)
  | (refine Kf.w_un ?_)
  | (refine Kf.w_rU ?_)
  | (refine Kf.w_rI0 ?_)
  | (refine' Kf.w_rI ?sth ?_; (case sth => with_unfolding_all walk_at "side"))
  | (refine' Kf.w_rEq ?sth ?_; (case sth => with_unfolding_all rfl))
  | (refine' Kf.w_rNe ?sth ?_; (case sth => with_unfolding_all rfl))
  | (refine Kf.w_tTest ?_)
  | (refine Kf.w_tB ?_)
  | (refine Kf.w_exbl ?_)
  | (refine Kf.w_exint ?_)
  | (refine Kf.w_ifS ?_)
  | (refine Kf.w_ret ?_)
  | (refine Kf.w_retN ?_)
  | (refine Kf.w_drop ?_)
  | (refine Kf.w_and ?_)
  | (refine Kf.w_or ?_)
  | (refine Kf.w_not ?_)
  | (refine Kf.w_andV ?_)
  | (refine Kf.w_orV ?_)
  | (refine Kf.w_notV ?_)
  | (refine Kf.w_if ?_)
  | (refine Kf.w_lc ?_)
  | (refine Kf.w_for ?_)
  | (refine Kf.w_rng1 ?_)
  | (refine' Kf.w_rng1x ?sth ?stg ?_; (case sth => with_unfolding_all walk_at "om"); (case stg => with_unfolding_all walk_at "om"))
  | (refine Kf.w_ilist ?_)
  | (refine Kf.w_iseq ?_)
  | (refine Kf.w_itup ?_)
  | (refine' Kf.w_ilistx ?sth ?_; (case sth => with_unfolding_all walk_at "sq"))
  | (refine' Kf.w_itupx ?sth ?_; (case sth => with_unfolding_all walk_at "sq"))
  | (refine' Kf.w_wipe ?sth ?_; (case sth => with_unfolding_all rfl))
  | (refine Kf.w_yes ?_)
  | (refine' Kf.w_isi ?sth ?stg ?_; (case sth => with_unfolding_all walk_at "ty"); (case stg => walk_at "kit"))
  | (refine Kf.w_isN ?_)
  | (refine Kf.w_notN ?_)
  | (refine Kf.w_cb ?_)
  | (refine Kf.w_nil ?_)
  | (refine Kf.w_cons ?_)
  | (refine Kf.w_tup ?_)
  | (refine Kf.w_lst ?_)
  | (refine' Kf.w_lines ?sth ?_; (case sth => with_unfolding_all rfl))
  | (refine Kf.w_call ?_)
  | (refine Kf.w_next ?_)
  | (refine Kf.w_break ?_)
  | (refine Kf.w_cont ?_)
  | (refine Kf.w_dnewK ?_)
  | (refine Kf.w_dget ?_)
  | (refine Kf.w_sl ?_)
  | (refine Kf.w_nopart ?_)
  | (refine Kf.w_part ?_)
  | (refine Kf.w_bm ?_)
  | (refine Kf.w_bm0 ?_)
  | (refine' Kf.w_bmL ?sth ?_; (case sth => with_unfolding_all walk_at "lk"))
  | (refine' Kf.w_cat ?sth ?stg ?stf ?_; (case sth => with_unfolding_all walk_at "lk"); (case stg => with_unfolding_all walk_at "lk"); (case stf => with_unfolding_all walk_at "om"))
  | (refine' Kf.w_slL ?sth ?_; (case sth => with_unfolding_all walk_at "sq"))
  | (refine' Kf.w_inL ?sth ?_; (case sth => with_unfolding_all walk_at "sq"))
  | (refine' Kf.w_inT ?sth ?_; (case sth => with_unfolding_all walk_at "sq"))
  | (refine' Kf.w_ninL ?sth ?_; (case sth => with_unfolding_all walk_at "sq"))
  | (refine' Kf.w_ninT ?sth ?_; (case sth => with_unfolding_all walk_at "sq"))
  | (refine' Kf.w_listof ?sth ?_; (case sth => with_unfolding_all walk_at "sq"))
  | (refine' Kf.w_tupof ?sth ?_; (case sth => with_unfolding_all walk_at "sq"))
  | (refine Kf.w_listRev ?_)
  | (refine Kf.w_gsub ?_)
  | (refine' Kf.w_ixL ?sth ?stg ?_; (case sth => with_unfolding_all walk_at "sq"); (case stg => with_unfolding_all walk_at "at"))
  | (refine' Kf.w_ixT ?sth ?stg ?_; (case sth => with_unfolding_all walk_at "sq"); (case stg => with_unfolding_all walk_at "at"))
  | (refine' Kf.w_setL ?sth ?stg ?_; (case sth => with_unfolding_all walk_at "lk"); (case stg => with_unfolding_all walk_at "ixn"))
  | (refine' Kf.w_len ?sth ?_; (case sth => with_unfolding_all walk_at "sq"))
  | (refine' Kf.w_lenT ?sth ?_; (case sth => with_unfolding_all walk_at "sq"))
  | (refine Kf.w_int1 ?_)
  | (refine Kf.w_intb ?_)
  | (refine Kf.w_abs ?_)
  | (refine Kf.w_aug rfl ?_)
  | (refine Kf.w_par ?_)
  | (refine' Kf.w_gtup ?sth ?stg ?_; (case sth => with_unfolding_all walk_at "sq"); (case stg => with_unfolding_all exact rfl))
  | (refine' Kf.w_glst ?sth ?stg ?_; (case sth => with_unfolding_all walk_at "sq"); (case stg => with_unfolding_all exact rfl))
  | (refine Kf.w_rng2 ?_)
  | (refine Kf.w_rng3 ?_)
  | (refine' Kf.w_rng2x ?sth ?stg ?stf ?ste ?_; (case sth => with_unfolding_all walk_at "om"); (case stg => with_unfolding_all walk_at "om"); (case stf => with_unfolding_all walk_at "om"); (case ste => with_unfolding_all walk_at "om"))
  | (refine Kf.w_gcons ?_)
  | (refine Kf.w_gnil ?_)
  | (refine Kf.w_gcd ?_)
  | (refine Kf.w_bits ?_)
  | (refine Kf.w_two ?_)
  | (refine Kf.w_ipI ?_)
  | (refine L2.iteT ?_)
  | (refine L2.iteF ?_)
  | (refine Kf.iteNT ?_)
  | (refine Kf.iteNF ?_)
  | (refine' Kf.ite_decT ?sth ?_; (case sth => exact rfl))
  | (refine' Kf.ite_decF ?sth ?_; (case sth => with_unfolding_all (intro e; cases e; done)))
  | (refine' Kf.ite_ndecF ?sth ?_; (case sth => exact rfl))
  | (refine' Kf.ite_ndecT ?sth ?_; (case sth => with_unfolding_all (intro e; cases e; done)))
  | (refine' Kf.ite_viT ?sth ?_; (case sth => (with_unfolding_all walk_at "om2")))
  | (refine' Kf.ite_viF ?sth ?_; (case sth => (with_unfolding_all walk_at "om2")))
  | (refine' Kf.ite_nviT ?sth ?_; (case sth => (with_unfolding_all walk_at "om2")))
  | (refine' Kf.ite_nviF ?sth ?_; (case sth => (with_unfolding_all walk_at "om2")))
  | (refine' Kf.ite_decT ?sth ?_; (case sth => (with_unfolding_all walk_at "om2")))
  | (refine' Kf.ite_decF ?sth ?_; (case sth => (with_unfolding_all walk_at "om2")))
  | with_unfolding_all walk_at "calls")
local macro_rules | `(tactic| walk_at "go") => `(tactic| repeat walk_at "st")

namespace Kf
open PySem PySem.Spec PyProof.Rows L2
open R0 (tt xr Bd)
def seg (s i j : Int) : Rat := Rat.divInt (j - i) ((s + i) * (s + j))
theorem seg_add {s i j k : Int} (h1 : 0 < s + i) (h2 : 0 < s + j) (h3 : 0 < s + k) : seg s i j + seg s j k = seg s i k := by
  unfold seg
  rw [Rat.divInt_eq_div, Rat.divInt_eq_div, Rat.divInt_eq_div, Rat.intCast_mul, Rat.intCast_mul, Rat.intCast_mul]
  have n1 := R0.cast_ne (q := s + i) (by omega)
  have n2 := R0.cast_ne (q := s + j) (by omega)
  have n3 := R0.cast_ne (q := s + k) (by omega)
  have e1 : j - i = (s + j) - (s + i) := by omega
  have e2 : k - j = (s + k) - (s + j) := by omega
  have e3 : k - i = (s + k) - (s + i) := by omega
  rw [e1, e2, e3, Rat.intCast_sub, Rat.intCast_sub, Rat.intCast_sub]
  generalize ((s + i : Int) : Rat) = x at *
  generalize ((s + j : Int) : Rat) = y at *
  generalize ((s + k : Int) : Rat) = z at *
  grind
theorem seg_self (s i : Int) : seg s i i = 0 := by
  unfold seg
  rw [Rat.divInt_eq_div, Int.sub_self]
  have : ((0 : Int) : Rat) = 0 := rfl
  rw [this]; grind
theorem seg_bd {s i j : Int} (h0 : 0 < s + i) (h1 : s + i ≤ 2000000000000) (h2 : 0 < s + j) (h3 : s + j ≤ 2000000000000) : Bd 2000 (seg s i j) := by
  have a : ((s + i) * (s + j)).natAbs < 2 ^ 2000 := mul_bits (a := 41) (b := 41) (by omega) (by omega) (by decide)
  refine Bd.div (sm64 (by omega)) a ?_
  exact Int.mul_ne_zero (by omega) (by omega)
theorem seg_one {s k : Int} (h : 0 < s + k) : rD (seg s k (k + 1)) = pD 1 ((s + k) * (s + k + 1)) := by
  unfold seg
  have e : k + 1 - k = 1 := by omega
  rw [e, ← Int.add_assoc]
  exact rD_low (Int.mul_pos h (by omega)) (gcd_side (.inl rfl))
theorem seg_over {s k : Int} (h : 0 < s + k) : (1 : Rat) / (((s + k : Int) : Rat) * ((s + k + 1 : Int) : Rat)) = seg s k (k + 1) := by
  unfold seg
  have e : k + 1 - k = 1 := by omega
  rw [e, ← Int.add_assoc, Rat.divInt_eq_div, Rat.intCast_mul]
  have : ((1 : Int) : Rat) = 1 := rfl
  rw [this]
theorem seg_low (s k : Int) : Rat.divInt (k + 1) (s * (s + k + 1)) = seg s 0 (k + 1) := by
  unfold seg
  rw [Int.sub_zero, Int.add_zero, ← Int.add_assoc]
theorem mul_ne {s k : Int} (h : 0 < s + k) : ((s + k : Int) : Rat) * ((s + k + 1 : Int) : Rat) ≠ 0 := by
  have n1 := R0.cast_ne (q := s + k) (by omega)
  have n2 := R0.cast_ne (q := s + k + 1) (by omega)
  generalize ((s + k : Int) : Rat) = x at *
  generalize ((s + k + 1 : Int) : Rat) = z at *
  intro h
  rcases Rat.mul_eq_zero.mp h with z | z
  · exact n1 z
  · exact n2 z
def trs (s : Int) (n : Nat) : List Rat := (List.range n).map fun k : Nat => seg s k (k + 1)
theorem trs_snoc (s : Int) (n : Nat) : trs s (n + 1) = trs s n ++ [seg s n (n + 1)] := by
  unfold trs; rw [List.range_succ, List.map_append]; rfl
theorem trs_at (s : Int) {n k : Nat} (h : k < n) : (trs s n)[k]? = some (seg s k (k + 1)) := by
  unfold trs; rw [List.getElem?_map, List.getElem?_range h]; rfl
/-- the sums of w terms each -/
def hvs (s : Int) (m w : Nat) : List Rat := (List.range ((m + w - 1) / w)).map fun j : Nat => seg s (w * j : Nat) (min (w * (j + 1)) m : Nat)
theorem hvs_len (s : Int) (m w : Nat) : (hvs s m w).length = (m + w - 1) / w := by unfold hvs; simp
theorem hvs_at (s : Int) {m w j : Nat} (h : j < (m + w - 1) / w) : (hvs s m w)[j]? = some (seg s (w * j : Nat) (min (w * (j + 1)) m : Nat)) := by
  unfold hvs; rw [List.getElem?_map, List.getElem?_range h]; rfl
theorem hvs_one (s : Int) (m : Nat) : hvs s m 1 = trs s m := by
  unfold hvs trs
  have : (m + 1 - 1) / 1 = m := by simp
  rw [this]
  refine List.map_congr_left fun j hj => ?_
  have := List.mem_range.mp hj
  have e : min (1 * (j + 1)) m = j + 1 := by omega
  rw [e, Nat.one_mul]
  have e2 : ((j + 1 : Nat) : Int) = (j : Int) + 1 := by omega
  rw [e2]
theorem cnt_two {m w : Nat} (hw : 0 < w) : (m + 2 * w - 1) / (2 * w) = ((m + w - 1) / w + 1) / 2 := by
  have e : (m + w - 1) / w + 1 = (m + w - 1 + w) / w := by rw [Nat.add_div_right _ hw]
  rw [e, Nat.div_div_eq_div_mul, Nat.mul_comm w 2]
  congr 1; omega
theorem hvs_64 {s : Int} {m : Nat} (h1 : 1 ≤ m) (h2 : m ≤ 40) : hvs s m 64 = [seg s 0 m] := by
  unfold hvs
  have : (m + 64 - 1) / 64 = 1 := by omega
  rw [this]
  show [seg s (64 * 0 : Nat) (min (64 * (0 + 1)) m : Nat)] = _
  have e : min (64 * (0 + 1)) m = m := by omega
  rw [e]; rfl
theorem hvs_bd {s : Int} {m w : Nat} (h1 : 1 ≤ s) (h2 : s ≤ 1000000000000) (hm : m ≤ 40) (hw : w ≤ 64) (hw0 : 0 < w) : ∀ r ∈ hvs s m w, Bd 2000 r := fun r hr => by
  obtain ⟨j, hj, rfl⟩ := List.mem_map.mp hr
  have hj := List.mem_range.mp hj
  have hjm : w * j ≤ m + w := by
    have h3 : w * j ≤ w * ((m + w - 1) / w) := Nat.mul_le_mul_left w (by omega)
    have h4 := Nat.mul_div_le (m + w - 1) w
    omega
  exact seg_bd (by omega) (by omega) (by omega) (by omega)
theorem sm2 (p q : Int) : Sm 2 (pD p q) := ⟨by show 2 ≤ 1000; decide, fun d hd => by
  simp only [List.mem_cons, List.not_mem_nil, or_false] at hd
  rcases hd with e | e <;> subst e <;> trivial⟩
abbrev s__law_sums : Stmt := topS 40
abbrev N__law_sums : List Str := ["many", "start", "terms", "total", "k", "term", "turn", "halves"]
abbrev P__law_sums : List Str := ["many", "start"]
theorem sc__law_sums : FnScope N__law_sums P__law_sums (defScope s__law_sums) := ⟨rfl, rfl, rfl, by decide +kernel, rfl, by decide +kernel, by decide +kernel⟩
section
variable {P : Program} {w : World} {K : PySem.W.Frag} {mg : Str → Option Value} {base : Heap} {H : Hp} {Q : VK} {E : XK}
def spSums (K : PySem.W.Frag) : Sp := fun vs H Q _ => ∃ m s f : Int, vs = [.int m, .int s] ∧ COk m s f ∧ ∀ H', Ext H H' → Q (.bl true) H'
theorem ok_sums (D : Df K mg "_law_sums" s__law_sums P__law_sums) (b_range : mg "range" = none) (b_len : mg "len" = none) (b_list : mg "list" = none) (p__law_alike : Pr P w K mg base "_law_alike" 4 P__law_alike (spAlike 2)) (p__law_lowest : Pr P w K mg base "_law_lowest" 1 P__law_lowest (spLow K)) (p__law_both : Pr P w K mg base "_law_both" 3 P__law_both (spBoth K))
    (p_plus : Pr P w K mg base "plus" 2 P_plus (spTwo K (fun a b => a + b))) (p_times : Pr P w K mg base "times" 2 P_times (spTwo K (fun a b => a * b))) (p_over : Pr P w K mg base "over" 2 P_over (spOver K)) : Pr P w K mg base "_law_sums" 5 P__law_sums (spSums K) := by
  refine D.ok sc__law_sums (fun vs H Q E h => ?_) (fun f cdv A outer s H vs Q E hr h => ?_)
  · obtain ⟨m, s, f, rfl, _⟩ := h; rfl
  obtain ⟨m, s, f, rfl, ok, q⟩ := h
  have nd := sc__law_sums.nd
  obtain ⟨m1, m2, s1, s2, f0, f1⟩ := ok
  obtain ⟨mm, rfl⟩ : ∃ mm : Nat, m = (mm : Int) := ⟨m.toNat, by omega⟩
  have mmt : ((mm : Int)).toNat = mm := Int.toNat_natCast mm
  refine ⟨_, (pss_cons (ps_setLc (i := 2) (own := [("k", 4)]) rfl nd rfl rfl (sw_true rfl rfl rfl (by decide +kernel)) (pi_range1 (by rfl) b_range (pa_cons (pv 0) pa_nil)) (blkOk_by (N := N__law_sums) (sc := defScope s__law_sums) (by decide +kernel)) (fun _ _ _ _ _ => pg_name (i := 4) nd rfl (Or.inl rfl)) (fun _ _ _ _ _ => pts_nil) (fun _ _ _ _ _ => (pe_tup (pa_cons pe_int (pa_cons (pe_op op_mul (pe_op op_add (pv 1) (pv 4)) (pe_op op_add (pe_op op_add (pv 1) (pv 4)) pe_int)) pa_nil)))))
      (pss_cons (ps_set (i := 3) nd rfl (Or.inl rfl) (pe_tup (pa_cons pe_int (pa_cons pe_int pa_nil))))
      (pss_cons (ps_for PassesOwn.never rfl (pi_range1 (by rfl) b_range (pa_cons (pv 0) pa_nil)) (pg_name (i := 4) nd rfl (Or.inl rfl)) (pss_cons (ps_set (i := 5) nd rfl (Or.inl rfl) (pe_callP p_over hr (pa_cons (pe_tup (pa_cons pe_int (pa_cons pe_int pa_nil))) (pa_cons (pe_callP p_times hr (pa_cons (pe_tup (pa_cons (pe_op op_add (pv 1) (pv 4)) (pa_cons pe_int pa_nil))) (pa_cons (pe_tup (pa_cons (pe_op op_add (pe_op op_add (pv 1) (pv 4)) pe_int) (pa_cons pe_int pa_nil))) pa_nil))) pa_nil))))
      (pss_cons (ps_if (pt_not (pt_val (pe_callP p__law_alike hr (pa_cons (pv 5) (pa_cons (pe_ix (ix_listK (K := K) rfl) (pv 2) (pv 4) (fun _ _ => rfl)) pa_nil))))) (pss_one (ps_ret pe_bl)) pss_nil)
      (pss_cons (ps_set (i := 3) nd rfl (Or.inl rfl) (pe_callP p_plus hr (pa_cons (pv 3) (pa_cons (pv 5) pa_nil))))
      (pss_one (ps_if (pt_not (pt_val (pe_callP p__law_alike hr (pa_cons (pv 3) (pa_cons (pe_callP p__law_lowest hr (pa_cons (pe_op op_add (pv 4) pe_int) (pa_cons (pe_op op_mul (pv 1) (pe_op op_add (pe_op op_add (pv 1) (pv 4)) pe_int)) pa_nil))) pa_nil))))) (pss_one (ps_ret pe_bl)) pss_nil))))))
      (pss_cons (ps_set (i := 3) nd rfl (Or.inl rfl) (pe_tup (pa_cons pe_int (pa_cons pe_int pa_nil))))
      (pss_cons (ps_for PassesOwn.never rfl (pi_range1 (by rfl) b_range (pa_cons (pv 0) pa_nil)) (pg_name (i := 6) nd rfl (Or.inl rfl)) (pss_cons (ps_set (i := 4) nd rfl (Or.inl rfl) (pe_op op_sub (pe_op op_sub (pv 0) pe_int) (pv 6)))
      (pss_cons (ps_set (i := 3) nd rfl (Or.inl rfl) (pe_callP p_plus hr (pa_cons (pe_ix (ix_listK (K := K) rfl) (pv 2) (pv 4) (fun _ _ => rfl)) (pa_cons (pv 3) pa_nil))))
      (pss_one (ps_if (pt_not (pt_val (pe_callP p__law_alike hr (pa_cons (pv 3) (pa_cons (pe_callP p__law_lowest hr (pa_cons (pe_op op_sub (pv 0) (pv 4)) (pa_cons (pe_op op_mul (pe_op op_add (pv 1) (pv 4)) (pe_op op_add (pv 1) (pv 0))) pa_nil))) pa_nil))))) (pss_one (ps_ret pe_bl)) pss_nil)))))
      (pss_cons (ps_set (i := 7) nd rfl (Or.inr rfl) (pe_callTy (call_list_ofK (K := K) rfl) (by rfl) b_list (by decide +kernel) (pa_cons (pv 2) pa_nil)))
      (pss_cons (ps_for PassesOwn.never rfl (pi_range1 (by rfl) b_range (pa_cons pe_int pa_nil)) (pg_name (i := 6) nd rfl (Or.inl rfl)) (pss_one (ps_set (i := 7) nd rfl (Or.inr rfl) (pe_lc (own := [("k", 4)]) rfl nd (pi_range3 (by rfl) b_range (pa_cons pe_int (pa_cons (pe_callB (call_lenK (K := K) rfl) (by rfl) b_len PySem.boot_len (pa_cons (pv 7) pa_nil)) (pa_cons pe_int pa_nil)))) (blkOk_by (N := N__law_sums) (sc := defScope s__law_sums) (by decide +kernel)) (fun _ _ _ _ _ => pg_name (i := 4) nd rfl (Or.inl rfl)) (fun _ _ _ _ _ => pts_nil) (fun _ _ _ _ _ => (pe_callP p__law_both hr (pa_cons (pv 7) (pa_cons (pv 4) pa_nil))))))))
      (pss_one (ps_ret (pe_callP p__law_alike hr (pa_cons (pv 7) (pa_cons (pe_lst (pa_cons (pe_callP p__law_lowest hr (pa_cons (pv 0) (pa_cons (pe_op op_mul (pv 1) (pe_op op_add (pv 1) (pv 0))) pa_nil))) pa_nil)) pa_nil)))))))))))), ?_⟩
  refine w_start (σ := [some _, some _, none, none, none, none, none, none]) rfl ?_
  walk_at "go"
  rw [mmt]
  refine lc_r (R := fun i acc Hd => DqAll Hd acc ((trs s i).map rD)) .nil (fun _ _ _ _ e h => h.ext e) ?_ ?_
  · rintro i acc D2 H1 hi hD2 hacc hE hall
    have al : acc.length = i := by rw [hall.len, List.length_map]; unfold trs; simp
    have hi' : (i : Int) < mm := by omega
    walk_at "go"
    intro p hp
    refine LcP.put hD2 hacc (hall.npl (sq_rat _)) hE (Ext.new hp) (by omega) ?_
    rw [trs_snoc, List.map_append]
    refine (hall.ext (Ext.del (Ext.new hp))).snoc ?_
    rw [seg_one (by omega)]
    rw [Int.zero_add]
    refine .of_pair (del_at L2.upd_same fun z => ?_)
    subst z
    rw [hacc] at hp; cases hp
  rintro Dt ts H1 hDt hts hE1 hall
  have tn := hall.npl (sq_rat _)
  have tl : ts.length = mm := by rw [hall.len, List.length_map]; unfold trs; simp
  walk_at "go"
  intro p1 hp1
  walk_at "go"
  rw [mmt]
  refine for_range (fun i σ H' => ∃ (x : V) (y1 y2 y3 y4 : Option V), σ = [some (.int mm), some (.int s), some (.ref Dt), some x, y1, y2, y3, y4] ∧ Ext H1 H' ∧ Dq H' x (rD (seg s 0 i)))
    ⟨.ref p1, _, _, _, _, rfl, Ext.new hp1, by rw [show ((0 : Nat) : Int) = 0 from rfl, seg_self]; exact .of_pair L2.upd_same⟩ ?_ ?_
  · rintro i σ H3 hi ⟨x, y1, y2, y3, y4, rfl, hE, hx⟩
    have hi' : (i : Int) < mm := by omega
    obtain ⟨tv, htv, hq⟩ := rat_el hall (trs_at s hi)
    have hat : atI ts (0 + (i : Int)) = some tv := by rw [Int.zero_add]; exact atI_nat htv
    have hts3 := hE.get hts tn
    walk_at "go"
    intro p2 hp2
    walk_at "go"
    intro p3 hp3
    walk_at "go"
    intro p4 hp4
    walk_at "go"
    refine call_two (a := ((s + (0 + (i : Int)) : Int) : Rat)) (b := ((s + (0 + (i : Int)) + 1 : Int) : Rat)) (by rw [rD_int]; exact .of_pair (upd_old hp4 L2.upd_same)) (by rw [rD_int]; exact .of_pair L2.upd_same) (bd_small (by omega)) (bd_small (by omega)) fun u H4 hE4 hu => ?_
    have hE34 := (((Ext.new hp2).newer hp3).newer hp4).trans hE4
    have h2 : H4 p2 = some (.tup [.int 1, .int 1]) := hE4.get (upd_old hp4 (upd_old hp3 L2.upd_same)) (npl rfl)
    rw [Int.zero_add] at hu
    have bmul : Bd 2000 (((s + (i : Int) : Int) : Rat) * ((s + (i : Int) + 1 : Int) : Rat)) := by
      rw [← Rat.intCast_mul]
      exact bd_int (mul_bits (a := 41) (b := 41) (by omega) (by omega) (by decide))
    walk_at "go"
    refine call_over (a := 1) (.of_pair h2) hu bd_one bmul (mul_ne (by omega)) fun v H5 hE5 hv => ?_
    rw [seg_over (by omega)] at hv
    have hE35 := hE34.trans hE5
    have hts5 := hE35.get hts3 tn
    walk_at "go"
    have hq5 := hq.ext (hE.trans hE35)
    have hv' := hv
    rw [seg_one (by omega)] at hv' hq5
    refine call_alike hv' hq5 (sm2 _ _) fun H6 hE6 => ?_
    have hE36 := hE35.trans hE6
    walk_at "go"
    refine call_two (hx.ext hE36) (hv.ext hE6) (seg_bd (by omega) (by omega) (by omega) (by omega)) (seg_bd (by omega) (by omega) (by omega) (by omega)) fun x' H7 hE7 hx' => ?_
    rw [seg_add (by omega) (by omega) (by omega)] at hx'
    have hE37 := hE36.trans hE7
    walk_at "go"
    refine call_low (Int.mul_pos (by omega) (by omega)) (mul_bits (a := 41) (b := 42) (by omega) (by omega) (by decide)) fun z H8 hE8 hz => ?_
    rw [Int.zero_add, seg_low] at hz
    walk_at "go"
    refine call_alike (hx'.ext hE8) hz (sm2 _ _) fun H9 hE9 => ?_
    walk_at "go"
    have hE39 := (hE37.trans hE8).trans hE9
    have e : ((i + 1 : Nat) : Int) = (i : Int) + 1 := by omega
    exact ⟨x', _, _, _, _, rfl, hE.trans hE39, by rw [e]; exact hx'.ext (hE8.trans hE9)⟩
  rintro σ H3 ⟨x, y1, y2, y3, y4, rfl, hE3, _⟩
  walk_at "go"
  intro p2 hp2
  walk_at "go"
  rw [mmt]
  refine for_range (fun i σ H' => ∃ (x : V) (y1 y2 y3 y4 : Option V), σ = [some (.int mm), some (.int s), some (.ref Dt), some x, y1, y2, y3, y4] ∧ Ext H1 H' ∧ Dq H' x (rD (seg s (mm - i) mm)))
    ⟨.ref p2, _, _, _, _, rfl, hE3.newer hp2, by rw [show (mm : Int) - ((0 : Nat) : Int) = mm by omega, seg_self]; exact .of_pair L2.upd_same⟩ ?_ ?_
  · rintro i σ H4 hi ⟨x, y1, y2, y3, y4, rfl, hE, hx⟩
    obtain ⟨kk, hkk⟩ : ∃ kk : Nat, mm = kk + 1 + i := ⟨mm - 1 - i, by omega⟩
    obtain ⟨tv, htv, hq⟩ := rat_el hall (trs_at s (show kk < mm by omega))
    have ek : (mm : Int) - 1 - (0 + (i : Int)) = (kk : Int) := by omega
    have hat : atI ts (kk : Int) = some tv := atI_nat htv
    have hts4 := hE.get hts tn
    walk_at "go"
    rw [ek]
    walk_at "go"
    have e1 : (mm : Int) - i = (kk : Int) + 1 := by omega
    rw [e1] at hx
    refine call_two (hq.ext hE) hx (seg_bd (by omega) (by omega) (by omega) (by omega)) (seg_bd (by omega) (by omega) (by omega) (by omega)) fun x' H5 hE5 hx' => ?_
    rw [seg_add (by omega) (by omega) (by omega)] at hx'
    walk_at "go"
    refine call_low (Int.mul_pos (by omega) (by omega)) (mul_bits (a := 41) (b := 42) (by omega) (by omega) (by decide)) fun z H6 hE6 hz => ?_
    walk_at "go"
    refine call_alike (hx'.ext hE6) hz (sm2 _ _) fun H7 hE7 => ?_
    walk_at "go"
    have e2 : (mm : Int) - ((i + 1 : Nat) : Int) = (kk : Int) := by omega
    exact ⟨x', _, _, _, _, rfl, ((hE.trans hE5).trans hE6).trans hE7, by rw [e2]; exact hx'.ext (hE6.trans hE7)⟩
  rintro σ H4 ⟨x, y1, y2, y3, y4, rfl, hE4, _⟩
  have hts4 := hE4.get hts tn
  walk_at "go"
  intro p5 hp5
  walk_at "go"
  refine for_range (fun i σ H' => ∃ (pa : Addr) (hs : List V) (y1 y2 y3 : Option V), σ = [some (.int mm), some (.int s), some (.ref Dt), some x, y1, y2, y3, some (.ref pa)] ∧ Ext H4 H' ∧ H' pa = some (.lst hs) ∧ DqAll H' hs ((hvs s mm (2 ^ i)).map rD))
    ⟨p5, ts, _, _, _, rfl, Ext.new hp5, L2.upd_same, by rw [Nat.pow_zero, hvs_one]; exact hall.ext (hE4.newer hp5)⟩ ?_ ?_
  · rintro i σ H6 hi ⟨pa, hs, z1, z2, z3, rfl, hE, hpa, hhs⟩
    have hi6 : i < 6 := hi
    have hw : 2 ^ i ≤ 32 := Nat.le_trans (Nat.pow_le_pow_right (by decide) (show i ≤ 5 by omega)) (by decide)
    have hw0 : 0 < 2 ^ i := Nat.pow_pos (by decide)
    have ewn : 2 ^ (i + 1) = 2 * 2 ^ i := by rw [Nat.pow_succ, Nat.mul_comm]
    generalize 2 ^ i = w at hhs hw hw0 ewn
    have hlen : hs.length = (mm + w - 1) / w := by rw [hhs.len, List.length_map, hvs_len]
    have hl40 : hs.length ≤ 71 := by
      rw [hlen]
      exact Nat.le_trans (Nat.div_le_self _ _) (by omega)
    walk_at "go"
    refine ⟨_, _, _, _, rfl, rg_two (by omega), ?_⟩
    refine lc_rc (R := fun j acc Hd => DqAll Hd acc (((hvs s mm (2 * w)).take j).map rD)) .nil (fun _ _ _ _ e h => h.ext e) ?_ ?_
    · rintro j acc D2 H7 hj hD2 hacc hE7 hac
      have hjn : j < (mm + 2 * w - 1) / (2 * w) := by rw [cnt_two hw0, ← hlen]; exact hj
      have hal : acc.length ≤ 1000 := by rw [hac.len, List.length_map, List.length_take]; omega
      have hpa7 := hE7.get hpa (hhs.npl (sq_rat _))
      have ej : 0 + (j : Int) * 2 = ((2 * j : Nat) : Int) := by omega
      have put : ∀ (v : V) (H8 : Hp), Ext H7 H8 → Dq (del H8 D2) v (rD (seg s (2 * w * j : Nat) (min (2 * w * (j + 1)) mm : Nat))) → ∃ acc, H8 D2 = some (.lst acc) ∧ acc.length < sizeLine ∧ LcP H6 D2 (fun j acc Hd => DqAll Hd acc (((hvs s mm (2 * w)).take j).map rD)) (j + 1) (upd H8 D2 (.lst (acc ++ [v]))) := fun v H8 hE8 hv => by
        refine LcP.put hD2 hacc (hac.npl (sq_rat _)) hE7 hE8 hal ?_
        rw [List.take_add_one, hvs_at s hjn, List.map_append]
        exact (hac.ext (Ext.del hE8)).snoc hv
      have notD : ∀ {H8 : Hp} {v : V} {r : Rat}, Ext H7 H8 → Dq H8 v (rD r) → Dq (del H8 D2) v (rD r) := fun {H8 v r} e8 d => by
        obtain ⟨av, rfl, hav⟩ := d.pair
        refine .of_pair (del_at hav fun z => ?_)
        subst z
        rw [e8.get hacc (hac.npl (sq_rat _))] at hav
        cases hav
      have i2 : 2 * j < (mm + w - 1) / w := by rw [hlen] at hj; omega
      have a1 := hvs_at s i2
      have wj : 2 * w * j = w * (2 * j) := by rw [Nat.mul_comm 2 w, Nat.mul_assoc]
      have wj2 : 2 * w * (j + 1) = w * (2 * j + 1 + 1) := by rw [Nat.mul_comm 2 w, Nat.mul_assoc]; congr 1
      walk_at "go"
      rw [ej]
      by_cases hc : 2 * j + 1 < (mm + w - 1) / w
      · have a2 := hvs_at s hc
        have lt : w * (2 * j + 1) ≤ mm := by
          have h3 : (2 * j + 1 + 1) * w ≤ mm + w - 1 := (Nat.le_div_iff_mul_le hw0).mp hc
          rw [Nat.add_mul, Nat.one_mul, Nat.mul_comm] at h3
          omega
        refine ⟨pa, hs, _, 2 * j, rfl, hpa7, hhs.ext hE7, hvs_bd s1 s2 (by omega) (by omega) hw0, by rw [hvs_len, ← hlen]; omega, .inl ⟨_, _, a1, a2, fun v H8 hE8 hv => ?_⟩⟩
        refine put v H8 hE8 (notD hE8 ?_)
        rw [Nat.min_eq_left lt, seg_add (by omega) (by omega) (by omega)] at hv
        rw [wj, wj2]
        exact hv
      · have en : (mm + w - 1) / w = 2 * j + 1 := by omega
        have ge : mm ≤ w * (2 * j + 1) := by
          have h4 := Nat.lt_mul_div_succ (mm + w - 1) hw0
          rw [en] at h4
          have h5 : w * (2 * j + 1 + 1) = w * (2 * j + 1) + w := Nat.mul_succ _ _
          omega
        refine ⟨pa, hs, _, 2 * j, rfl, hpa7, hhs.ext hE7, hvs_bd s1 s2 (by omega) (by omega) hw0, by rw [hvs_len, ← hlen]; omega, .inr ⟨_, a1, by rw [hvs_len]; exact en, fun v hv => ?_⟩⟩
        refine put v H7 Ext.refl (notD Ext.refl ?_)
        rw [Nat.min_eq_right ge] at hv
        have ge2 : mm ≤ w * (2 * j + 1 + 1) := Nat.le_trans ge (Nat.mul_le_mul_left w (by omega))
        rw [wj, wj2, Nat.min_eq_right ge2]
        exact hv
    · rintro D2 acc H7 hD2 hacc hE7 hac
      have et : (hvs s mm (2 * w)).take ((hs.length + 1) / 2) = hvs s mm (2 * w) := by
        rw [hlen, ← cnt_two hw0, ← hvs_len s mm (2 * w), List.take_length]
      rw [et] at hac
      walk_at "go"
      exact ⟨D2, acc, _, _, _, rfl, hE.trans hE7, hacc, by rw [ewn]; exact hac⟩
  rintro σ H6 ⟨pa, hs, z1, z2, z3, rfl, hE6, hpa, hhs⟩
  have h64 : (2 : Nat) ^ ((6 : Int)).toNat = 64 := rfl
  rw [h64, hvs_64 (by omega) (by omega)] at hhs
  walk_at "go"
  refine call_low (Int.mul_pos (by omega) (by omega)) (mul_bits (a := 41) (b := 42) (by omega) (by omega) (by decide)) fun z H7 hE7 hz => ?_
  have es : Rat.divInt (mm : Int) (s * (s + mm)) = seg s 0 mm := by unfold seg; rw [Int.sub_zero, Int.add_zero]
  rw [es] at hz
  have hpa7 := hE7.get hpa (hhs.npl (sq_rat [seg s 0 mm]))
  walk_at "go"
  intro p8 hp8
  walk_at "go"
  have nz : ¬ Pl (.lst [z]) := npl_nobl fun x hx b e => by
    rw [List.mem_singleton] at hx
    subst hx e
    cases hz
  refine call_alike (d := .list [rD (seg s 0 mm)]) (.lst (upd_old hp8 hpa7) (hhs.npl (sq_rat [seg s 0 mm])) (hhs.ext (hE7.newer hp8))) (.lst L2.upd_same nz (.cons (hz.ext (Ext.new hp8)) .nil)) ⟨by show 1 ≤ 1000; decide, fun d hd => by
    rw [List.mem_singleton] at hd; subst hd; exact sm_pr _ _⟩ fun H9 hE9 => ?_
  exact q _ ((((hE1.trans hE4).trans hE6).trans (hE7.newer hp8)).trans hE9)
end
end Kf

end
section
set_option Elab.async false
set_option linter.all false
set_option maxRecDepth 100000
set_option maxHeartbeats 4000000
local macro_rules | `(tactic| walk_at "npl") => `(tactic| first | exact Kf.npl rfl | exact Kf.npl_ints _ | exact Kf.npl_one _ _ | exact Kf.npl_refs _ | assumption)
local macro_rules | `(tactic| walk_at "nn") => `(tactic| first
  | assumption
  | (refine' Kf.Ext.non ?nne ?nnh; (case nne => assumption); (case nnh => walk_at "nn")))
local macro_rules | `(tactic| walk_at "ext") => `(tactic| first
  | assumption
  | exact Kf.Ext.refl
  | (refine' Kf.Ext.newer ?exa ?exn; (case exn => assumption); (case exa => walk_at "ext"))
  | (refine' Kf.Ext.own ?exa ?exn; (case exn => walk_at "nn"); (case exa => walk_at "ext"))
  | (refine' Kf.Ext.trans ?exa ?exb; (case exb => assumption); (case exa => walk_at "ext")))
local macro_rules | `(tactic| walk_at "pool") => `(tactic| first
  | assumption
  | (refine' Kf.PoolAt.ext ?plh ?ple; (case plh => assumption); (case ple => walk_at "ext"))
  | (refine' Kf.PoolAt.upd ?plh ?plo ?pln; (case plo => assumption); (case pln => walk_at "npl"); (case plh => walk_at "pool")))
local macro_rules | `(tactic| walk_at "lk") => `(tactic| first
  | assumption
  | exact L2.upd_same
  | (refine' Kf.upd_old ?lkn ?lkh; (case lkn => assumption); (case lkh => walk_at "lk"))
  | (refine' Kf.upd_oth ?lkn ?lkh; (case lkn => (first | assumption | (apply Ne.symm; assumption))); (case lkh => walk_at "lk"))
  | (refine' Kf.Ext.get ?lke ?lkh ?lkn; (case lke => assumption); (case lkh => walk_at "lk"); (case lkn => walk_at "npl"))
  | (refine' L2.Same.at ?lke ?lkh; (case lke => assumption); (case lkh => walk_at "lk")))
local macro_rules | `(tactic| walk_at "sq") => `(tactic| first
  | assumption
  | (refine' L2.SqL.of ?sqh; (case sqh => walk_at "lk"))
  | (refine' L2.SqT.of ?sqh; (case sqh => walk_at "lk"))
  | (refine' Kf.Ext.seqL ?sqe ?sqh ?sqn; (case sqh => assumption); (case sqe => walk_at "ext"); (case sqn => walk_at "npl"))
  | (refine' Kf.Ext.seqT ?sqe ?sqh; (case sqh => assumption); (case sqe => walk_at "ext")))
local macro_rules | `(tactic| walk_at "at") => `(tactic| first | exact L2.atI_nat (j := 0) rfl | exact L2.atI_nat (j := 1) rfl | exact L2.atI_nat (j := 2) rfl | exact L2.atI_nat (j := 3) rfl | exact L2.atI_nat (j := 4) rfl | assumption)
local macro_rules | `(tactic| walk_at "ixn") => `(tactic| first | exact Kf.ixN_nat (j := 0) rfl | exact Kf.ixN_nat (j := 1) rfl | exact Kf.ixN_nat (j := 2) rfl | exact Kf.ixN_nat (j := 3) rfl | assumption)
local macro_rules | `(tactic| walk_at "set") => `(tactic| (first | (simp only [List.set_cons_succ, List.set_cons_zero]; rfl) | rfl))
local macro_rules | `(tactic| walk_at "om") => `(tactic| first | decide | omega | (simp only [List.length_map, List.length_cons, List.length_nil] at *; omega))
local macro_rules | `(tactic| walk_at "calls") => `(tactic| first
  | (with_reducible refine' Kf.call_take ?clp ?cla ?clb ?clq; (case clp => walk_at "pool"); (case cla => walk_at "om"); (case clb => walk_at "om"); intro r H' hE h0 h1)
  | (with_reducible refine' Kf.call_pool ?cls ?cla ?clq; (case cls => walk_at "sq"); (case cla => walk_at "om"); intro p H' hE hN hP)
  | (with_reducible refine' Kf.call_turn ?cls ?clp ?cla ?clq; (case cls => walk_at "sq"); (case clp => walk_at "pool"); (case cla => walk_at "om"); intro u H' hE hP))
local macro_rules | `(tactic| walk_at "side") => `(tactic| first
  | exact Kf.cmul_fmod (by decide) (by decide)
  | exact rfl
  | decide
  | omega
  | assumption
  | (refine ⟨?_, ?_⟩ <;> decide)
  | (refine ⟨?_, ?_, ?_⟩ <;> decide)
  | (refine ⟨?_, ?_⟩ <;> omega)
  | (refine Or.inl ⟨?_, ?_⟩ <;> decide)
  | (refine Or.inr ⟨?_, ?_⟩ <;> decide)
  | (refine Or.inl ⟨?_, ?_⟩ <;> omega)
  | (refine Or.inr ⟨?_, ?_⟩ <;> omega))
local macro_rules | `(tactic| walk_at "kit") => `(tactic| first | exact Kf.isi_int_int | exact Kf.isi_int_bool | exact Kf.isi_int_str | exact Kf.isi_int_list | exact Kf.isi_int_tuple | exact Kf.isi_bool_int | exact Kf.isi_bool_bool | exact Kf.isi_bool_str | exact Kf.isi_bool_list | exact Kf.isi_bool_tuple | exact Kf.isi_str_int | exact Kf.isi_str_bool | exact Kf.isi_str_str | exact Kf.isi_str_list | exact Kf.isi_str_tuple | exact Kf.isi_non_list | exact Kf.isi_non_tuple | exact Kf.isi_list_list | exact Kf.isi_list_tuple | exact Kf.isi_tuple_list | exact Kf.isi_tuple_tuple | exact Kf.isi_dict_dict)
local macro_rules | `(tactic| walk_at "ty") => `(tactic| first
  | exact L2.TyX.base (L2.TyOf.int _)
  | exact L2.TyX.base (L2.TyOf.bl _)
  | exact L2.TyX.base (L2.TyOf.str _)
  | exact L2.TyX.base L2.TyOf.non
  | (refine' L2.TyX.base (L2.TyOf.lst ?tyh); (case tyh => walk_at "lk"))
  | (refine' L2.TyX.base (L2.TyOf.tup ?tyh); (case tyh => walk_at "lk"))
  | (refine' L2.TyX.base (L2.TyOf.dK ?tyh); (case tyh => walk_at "lk")))
local macro_rules | `(tactic| walk_at "om2") => `(tactic| first | assumption | decide | omega)
local macro_rules | `(tactic| walk_at "st") => `(tactic| with_reducible first
  | (refine Kf.w_var rfl ?_)
  | (refine Kf.w_c ?_)
  | (refine Kf.w_seq ?_)
  | (refine Kf.w_asg ?_)
  | (refine' Kf.w_gname ?sth ?_; (case sth => with_unfolding_all walk_at "set"))
  | (refine Kf.w_op ?_)
  | (refine Kf.w_un ?_)
  | (refine Kf.w_rU ?_)
  | (refine Kf.w_rI0 ?_)
  | (refine' Kf.w_rI ?sth ?_; (case sth => with_unfolding_all walk_at "side"))
  | (refine' Kf.w_rEq ?sth ?_; (case sth => with_unfolding_all rfl))
  | (refine' Kf.w_rNe ?sth ?_; (case sth => with_unfolding_all rfl))
  | (refine Kf.w_tTest ?_)
  | (refine Kf.w_tB ?_)
  | (refine Kf.w_exbl ?_)
  | (refine Kf.w_exint ?_)
  | (refine Kf.w_ifS ?_)
  | (refine Kf.w_ret ?_)
  | (refine Kf.w_retN ?_)
  | (refine Kf.w_drop ?_)
  | (refine Kf.w_and ?_)
  | (refine Kf.w_or ?_)
  | (refine Kf.w_not ?_)
  | (refine Kf.w_andV ?_)
  | (refine Kf.w_orV ?_)
  | (refine Kf.w_notV ?_)
  | (refine Kf.w_if ?_)
  | (refine Kf.w_lc ?_)
  | (refine Kf.w_for ?_)
  | (refine Kf.w_rng1 ?_)
  | (refine' Kf.w_rng1x ?sth ?stg ?_; (case sth => with_unfolding_all walk_at "om"); (case stg => with_unfolding_all walk_at "om"))
  | (refine Kf.w_ilist ?_)
  | (refine Kf.w_iseq ?_)
  | (refine Kf.w_itup ?_)
  | (refine' Kf.w_ilistx ?sth ?_; (case sth => with_unfolding_all walk_at "sq"))
  | (refine' Kf.w_itupx ?sth ?_; (case sth => with_unfolding_all walk_at "sq"))
  | (refine' Kf.w_wipe ?sth ?_; (case sth => with_unfolding_all rfl))
  | (refine Kf.w_yes ?_)
  | (refine' Kf.w_isi ?sth ?stg ?_; (case sth => with_unfolding_all walk_at "ty"); (case stg => walk_at "kit"))
  | (refine Kf.w_isN ?_)
  | (refine Kf.w_notN ?_)
  | (refine Kf.w_cb ?_)
  | (refine Kf.w_nil ?_)
  | (refine Kf.w_cons ?_)
  | (refine Kf.w_tup ?_)
  | (refine Kf.w_lst ?_)
  | (refine' Kf.w_lines ?sth ?_; (case sth => with_unfolding_all rfl))
  | (refine Kf.w_call ?_)
  | (refine Kf.w_next ?_)
  | (refine Kf.w_break ?_)
  | (refine Kf.w_cont ?_)
  | (refine Kf.w_dnewK ?_)
  | (refine Kf.w_dget ?_)
  | (refine Kf.w_sl ?_)
  | (refine Kf.w_nopart ?_)
  | (refine Kf.w_part ?_)
  | (refine Kf.w_bm ?_)
  | (refine Kf.w_bm0 ?_)
  | (refine' Kf.w_bmL ?sth ?_; (case sth => with_unfolding_all walk_at "lk"))
  | (refine' Kf.w_cat ?sth ?stg ?stf ?_; (case sth => with_unfolding_all walk_at "lk"); (case stg => with_unfolding_all walk_at "lk"); (case stf => with_unfolding_all walk_at "om"))
  | (refine' Kf.w_slL ?sth ?_; (case sth => with_unfolding_all walk_at "sq"))
  | (refine' Kf.w_inL ?sth ?_; (case sth => with_unfolding_all walk_at "sq"))
  | (refine' Kf.w_inT ?sth ?_; (case sth => with_unfolding_all walk_at "sq"))
  | (refine' Kf.w_ninL ?sth ?_; (case sth => with_unfolding_all walk_at "sq"))
  | (refine' Kf.w_ninT ?sth ?_; (case sth => with_unfolding_all walk_at "sq"))
  | (refine' Kf.w_listof ?sth ?_; (case sth => with_unfolding_all walk_at "sq"))
  | (refine' Kf.w_tupof ?sth ?_; (case sth => with_unfolding_all walk_at "sq"))
  | (refine Kf.w_listRev ?_)
  | (refine Kf.w_gsub ?_)
  | (refine' Kf.w_ixL ?sth ?stg ?_; (case sth => with_unfolding_all walk_at "sq"); (case stg => with_unfolding_all walk_at "at"))
  | (refine' Kf.w_ixT ?sth ?stg ?_; (case sth => with_unfolding_all walk_at "sq"); (case stg => with_unfolding_all walk_at "at"))
  | (refine' Kf.w_setL ?sth ?stg ?_; (case sth => with_unfolding_all walk_at "lk"); (case stg => with_unfolding_all walk_at "ixn"))
  | (refine' Kf.w_len ?sth ?_; (case sth => with_unfolding_all walk_at "sq"))
  | (refine' Kf.w_lenT ?sth ?_; (case sth => with_unfolding_all walk_at "sq"))
  | (refine Kf.w_int1 ?_)
  | (refine Kf.w_intb ?_)
  | (refine Kf.w_abs ?_)
  | (refine Kf.w_aug rfl ?_)
  | (refine Kf.w_par ?_)
  | (refine' Kf.w_gtup ?sth ?stg ?_; (case sth => with_unfolding_all walk_at "sq"); (case stg => with_unfolding_all exact rfl))
  | (refine' Kf.w_glst ?sth ?stg ?_; (case sth => with_unfolding_all walk_at "sq"); (case stg => with_unfolding_all exact rfl))
  | (refine Kf.w_rng2 ?_)
  | (refine Kf.w_rng3 ?_)
  | (refine' Kf.w_rng2x ?sth ?stg ?stf ?ste ?_; (case sth => with_unfolding_all walk_at "om"); (case stg => with_unfolding_all walk_at "om"); (case stf => with_unfolding_all walk_at "om"); (case ste => with_unfolding_all walk_at "om"))
  | (refine Kf.w_gcons ?_)
  | (refine Kf.w_gnil ?_)
  | (refine Kf.w_gcd ?_)
  | (refine Kf.w_bits ?_)
  | (refine Kf.w_two ?_)
  | (refine Kf.w_ipI ?_)
  | (refine L2.iteT ?_)
  | (refine L2.iteF ?_)
  | (refine Kf.iteNT ?_)
  | (refine Kf.iteNF ?_)
  | (refine' Kf.ite_decT ?sth ?_; (case sth => exact rfl))
  | (refine' Kf.ite_decF ?sth ?_; (case sth => with_unfolding_all (intro e; cases e; done)))
  | (refine' Kf.ite_ndecF ?sth ?_; (case sth => exact rfl))
  | (refine' Kf.ite_ndecT ?sth ?_; (case sth => with_unfolding_all (intro e; cases e; done)))
  | (refine' Kf.ite_viT ?sth ?_; (case sth => (with_unfolding_all walk_at "om2")))
  | (refine' Kf.ite_viF ?sth ?_; (case sth => (with_unfolding_all walk_at "om2")))
  | (refine' Kf.ite_nviT ?sth ?_; (case sth => (with_unfolding_all walk_at "om2")))
  | (refine' Kf.ite_nviF ?sth ?_; (case sth => (with_unfolding_all walk_at "om2")))
  | (refine' Kf.ite_decT ?sth ?_; (case sth => (with_unfolding_all walk_at "om2")))
  | (refine' Kf.ite_decF ?sth ?_; (case sth => (with_unfolding_all walk_at "om2")))
  | with_unfolding_all walk_at "calls")
local macro_rules | `(tactic| walk_at "go") => `(tactic| repeat walk_at "st")

namespace Kf
open PySem PySem.Spec PyProof.Rows L2
open R0 (tt xr Bd)
theorem pmk_own0 {X : Cx} {C : Addr} {bmB : List Value} {B newId initId : String} {x : Str} {p pos : Pos} (F : ExcBaseFacts B newId initId bmB) (q : PySem.W.excIn X.K C bmB newId = true) (gC : X.mg x = some (.ref C))
    (kC : PySem.W.keepIn X.K (.ref C) = true) (r : Raises X (.ref C)) (hg : Gl X x) (hdb : (x == ("__debug__" : Str)) = false := by decide) : PMk X (.Call (.Name x p) [] [] pos) (fun _ H Q => Q (.ref C) none H) := by
  intro pins s σ H Q I h
  refine wpAny_Call_Name_kw (ld_glob I hg gC ?_ hdb)
  refine PySem.W.callWith_K0 I.kIn kC ?_
  show wpAny _ _ (call (.ref C) []) _ _ _
  obtain ⟨bm, N, nm, qn, bs, hdct, sn, sub, ab, col, dd, k0, k1, k2, k3, k5, mN, hC, hN, hni, T⟩ := exc_obj I.kIn q
  refine wpAny_call_exc_subT F T hC hN hni (fun h' e hm => ?_) (Nat.zero_le _)
  exact mk_of I hm r h (I.hok.gone hm.new)
/-- the class of the error, as the top has written it -/
structure BadC (K : PySem.W.Frag) (mg : Str → Option Value) (C : Addr) : Prop where
  q : PySem.W.excIn K C [.type "ValueError", .type "Exception", .type "BaseException", .type "object"] "ValueError.__new__" = true
  g : mg "BadRatio" = some (.ref C)
  k : PySem.W.keepIn K (.ref C) = true
  s : PySem.W.subIn K (.ref C) (.type "BaseException") = some true
  t : PySem.W.typeIn K (.ref C) = some (.type "type")
/-- the promise of a def that may let an error out -/
structure PrX (P : Program) (w : World) (K : PySem.W.Frag) (mg : Str → Option Value) (base : Heap) (x : Str) (k : Nat) (ps : List Str) (sp : Sp) : Prop where
  ex : ∃ f fd, FnOk P w K mg base (L2.CX P w) k f fd ps sp ∧ Binds K fd ps [] ∧ PySem.W.keepIn K (.ref f) = true ∧ mg x = some (.ref f)
section
variable {X : Cx} {x : Str} {k j : Nat} {ps : List Str} {sp : Sp} {e : Expr} {es : List Expr} {t : TA} {p pos : Pos} {W : WX} {E : XK}
theorem pe_callPX (pr : PrX X.prog X.w X.K X.mg X.base x k ps sp) (hr : Room j X.A) (tk : Takes X W) (hW : ∀ cls d σ H, E cls d H → W cls d σ H) (ha : PA X (e :: es) t) (hk : k ≤ j := by decide) (hg : Gl X x := by rfl) (hd : (x == ("__debug__" : Str)) = false := by decide)
    (he : starEach (e :: es) X.env = (false, eval e X.env) :: starEach es X.env := by rfl) (hpl : (backTo pos (starEach es X.env)).any (·.1) = false := by rfl) : PE X (.Call (.Name x p) (e :: es) [] pos) (tCall sp [] E t) := by
  obtain ⟨f, fd, F, b, kp, g⟩ := pr.ex
  exact pe_call F (hr.mono hk) hg g kp b .nil (passes_call tk hW) ha hd he hpl
theorem pe_callPS (pr : PrX X.prog X.w X.K X.mg X.base x k ps sp) (hr : Room j X.A) (tk : Takes X W) (ha : PA X (e :: es) t) (hk : k ≤ j := by decide) (hg : Gl X x := by rfl) (hd : (x == ("__debug__" : Str)) = false := by decide)
    (he : starEach (e :: es) X.env = (false, eval e X.env) :: starEach es X.env := by rfl) (hpl : (backTo pos (starEach es X.env)).any (·.1) = false := by rfl) : PE X (.Call (.Name x p) (e :: es) [] pos) (tCallS sp (WE W) t) := by
  obtain ⟨f, fd, F, b, kp, g⟩ := pr.ex
  exact pe_callS F (hr.mono hk) hg g kp b (fun σ => passAt tk σ) ha hd he hpl
end
/-- isinstance(e, c) and isinstance(e, (c, ..)), e the error that the suite holds -/
def rIsEX (K : PySem.W.Frag) (D a : Addr) (cls : Value) (d : Option Addr) : List V → Hp → VK → Prop := fun xs H Q => cls = .ref D ∧ d = none ∧
  ((∃ (c : V) (cv : Value) (b : Bool), xs = [.ref a, c] ∧ (∀ u, RelV c u → u = cv) ∧ PySem.W.kitOne K (.ref D) cv = some b ∧ Q (.bl b) H) ∨
    ∃ (tp : Addr) (cs : List V) (us : List Value) (b : Bool), xs = [.ref a, .ref tp] ∧ H tp = some (.tup cs) ∧ Paired ClsV cs us ∧ PySem.W.kitAny K (.ref D) us = some b ∧ Q (.bl b) H)
theorem call_isEX {X : Cx} {a D : Addr} {oe : Obj} {cls : Value} {d : Option Addr} {pn : List (Addr × Obj)} (C : ExcC X.K D) (hz : Zc cls d oe) (hf : ∃ vs, oe.data = .fields vs) : CallR (X.suite a ((a, oe) :: pn)) (.builtin "isinstance") (rIsEX X.K D a cls d) := by
  intro pins s σ H xs us Q I r h
  obtain ⟨rfl, rfl, h⟩ := h
  rcases h with h | ⟨tp, cs, ws, b, rfl, hT, k, e, q⟩
  · exact call_isE C hz hf pins s σ H xs us Q I r h
  · obtain ⟨u1, u2, rfl, r1, r2⟩ := vals2 r
    cases (show u1 = Value.ref a from r1)
    cases (show u2 = Value.ref tp from r2)
    obtain ⟨_, its, rv, o, h1, h2, n, h3⟩ := (show ObjOk (X.suite a ((a, oe) :: pn)).prog (X.suite a ((a, oe) :: pn)).w H s.heap tp (.tup cs) from I.hok tp _ hT)
    have e3 := ClsV.all k rv
    subst e3
    obtain ⟨oc, od, dt, sl⟩ := o
    simp only at h2 h3
    subst h2 h3
    obtain ⟨hget, _⟩ := I.pin (a, oe) (List.mem_append.mpr (.inl List.mem_cons_self))
    obtain ⟨vs, hv⟩ := hf
    have J : PySem.W.InstAt s.heap a oe D none := by
      obtain ⟨oc, od, oda, osl⟩ := oe
      obtain ⟨h1, h2⟩ := hz
      dsimp only at h1 h2 hv
      subst h1 h2 hv
      exact ⟨hget, rfl, rfl, trivial⟩
    exact PySem.W.kia_tup (PySem.W.handS_kitx_exc C.hg C.hk C.hs C.hd C.ha C.hn C.ht C.hm) I.kIn J h1 e (fun z => nomatch z) fun tk => ⟨.bl b, H, I.kept (t' := tk) fun _ _ z => z, rfl, q⟩
/-- the other classes -/
structure OthC (K : PySem.W.Frag) (mg : Str → Option Value) (C PE c1 c2 c3 c4 c5 c6 c7 d1 d2 d3 d4 d5 d6 : Addr) : Prop where
  gP : mg "PaperError" = some (.ref PE)
  g1 : mg "BadLiteral" = some (.ref c1)
  g2 : mg "BadModel" = some (.ref c2)
  g3 : mg "BadName" = some (.ref c3)
  g4 : mg "BadNode" = some (.ref c4)
  g5 : mg "BadRange" = some (.ref c5)
  g6 : mg "BadSort" = some (.ref c6)
  g7 : mg "BadText" = some (.ref c7)
  h1 : mg "BadTree" = some (.ref d1)
  h2 : mg "NameTaken" = some (.ref d2)
  h3 : mg "NoAnswer" = some (.ref d3)
  h4 : mg "NoLevel" = some (.ref d4)
  h5 : mg "Unfit" = some (.ref d5)
  h6 : mg "UnknownName" = some (.ref d6)
  k1 : PySem.W.kitAny K (.ref C) [.ref c1, .ref c2, .ref c3, .ref c4, .ref c5, .ref c6, .ref c7] = some false
  k2 : PySem.W.kitAny K (.ref C) [.ref d1, .ref d2, .ref d3, .ref d4, .ref d5, .ref d6] = some false
  k3 : PySem.W.kitOne K (.ref C) (.ref C) = some true
  k4 : PySem.W.kitOne K (.ref C) (.type "ValueError") = some true
  xm : PySem.W.exmOne K (.ref C) (.ref PE) = some true
  xc : ExcC K C
section
variable {P : Program} {w : World} {K : PySem.W.Frag} {mg : Str → Option Value} {base : Heap} {H : Hp} {Q : VK} {E : XK}
def spRatioX (C : Addr) : Sp := fun vs H Q E => ∃ p : Int, vs = [.int p, .int 0] ∧ E (.ref C) none H
theorem ok_ratioX {C : Addr} (B : BadC K mg C) (D : DfD K mg "ratio" s_ratio [.int 1] P_ratio) (m_gcd : mg "gcd" = some (.builtin "math.gcd")) : PrX P w K mg base "ratio" 1 P_ratio (spRatioX C) := by
  obtain ⟨f, fd, ds, F, b, bd, rd, g⟩ := D.ex
  refine ⟨f, fd, F.ok sc_ratio (fun vs H Q E h => ?_) (fun cdv A outer s H vs Q E hr h => ?_), b, F.kp, g⟩
  · obtain ⟨p, rfl, _⟩ := h; rfl
  obtain ⟨p, rfl, e⟩ := h
  have nd := sc_ratio.nd
  have tk : Takes (cxOf (L2.CX P w) P w K mg base N_ratio "ratio" (defScope s_ratio) f cdv A outer s H E) (fun cls d _ H => E cls d H) := takes_of rfl rfl rfl rfl
  refine ⟨_, (pss_cons (ps_if (pt_cmpR op_eq (pv 1) pe_int (nomark _)) (pss_one (ps_raise rfl tk (pmk_own0 PySem.F.excBase_ValueError B.q B.g B.k (raises_own B.s B.t) (by rfl)))) pss_nil)
      (pss_cons (ps_set (i := 2) nd rfl (Or.inl rfl) (pe_callBfun cr_gcd (by rfl) m_gcd (pa_cons (pv 0) (pa_cons (pv 1) pa_nil))))
      (pss_cons (ps_if (pt_cmpR op_lt (pv 1) pe_int (nomark _)) (pss_one (ps_set (i := 2) nd rfl (Or.inl rfl) (pe_un un_neg (pv 2)))) pss_nil)
      (pss_one (ps_ret (pe_tup (pa_cons (pe_op op_fdivX (pv 0) (pv 2)) (pa_cons (pe_op op_fdivX (pv 1) (pv 2)) pa_nil)))))))), ?_⟩
  refine w_start (σ := [some _, some _, none]) rfl ?_
  walk_at "go"
  exact e
def spOverX (C : Addr) : Sp := fun vs H Q E => ∃ (x y : V) (a : Rat), vs = [x, y] ∧ Dq H x (rD a) ∧ Dq H y (rD 0) ∧ Bd 2000 a ∧ E (.ref C) none H
theorem ok_overX {C : Addr} (D : Df K mg "over" s_over P_over) (p_ratioX : PrX P w K mg base "ratio" 1 P_ratio (spRatioX C)) : PrX P w K mg base "over" 2 P_over (spOverX C) := by
  obtain ⟨f, fd, F, b, g⟩ := D.ex
  refine ⟨f, fd, F.okX sc_over (fun vs H Q E h => ?_) (fun cdv A outer s H vs Q E hr h => ?_), b, F.kp, g⟩
  · obtain ⟨x, y, a, rfl, _⟩ := h; rfl
  obtain ⟨x, y, a, rfl, hx, hy, ba, e⟩ := h
  obtain ⟨ax, rfl, hx⟩ := hx.pair
  obtain ⟨ay, rfl, hy2⟩ := hy.pair
  have hy' : H ay = some (.tup [.int 0, .int 1]) := hy2
  clear hy2 hy
  have nd := sc_over.nd
  have tk : Takes (cxOf (L2.CX P w) P w K mg base N_over "over" (defScope s_over) f cdv A outer s H E) (fun cls d _ H => E cls d H) := takes_of rfl rfl rfl rfl
  refine ⟨_, (pss_one (ps_ret (pe_callPX p_ratioX hr tk (fun _ _ _ _ h => h) (pa_cons (pe_op op_mulW (pe_ix (ix_tupK (K := K) rfl) (pv 0) pe_int (fun _ _ => rfl)) (pe_ix (ix_tupK (K := K) rfl) (pv 1) pe_int (fun _ _ => rfl))) (pa_cons (pe_op op_mulW (pe_ix (ix_tupK (K := K) rfl) (pv 0) pe_int (fun _ _ => rfl)) (pe_ix (ix_tupK (K := K) rfl) (pv 1) pe_int (fun _ _ => rfl))) pa_nil))))), ?_⟩
  refine w_start (σ := [some _, some _]) rfl ?_
  walk_at "go"
  refine w_wmul (b := 2) (Bd.n ba) (by decide) (by decide) (by decide) (by decide) ?_
  walk_at "go"
  refine w_wmul (b := 2) (Bd.d ba) (by decide) (by decide) (by decide) (by decide) ?_
  walk_at "go"
  refine ⟨_, by rw [Int.mul_zero]; rfl, e⟩
end
end Kf

end
section
set_option Elab.async false
set_option linter.all false
set_option maxRecDepth 100000
set_option maxHeartbeats 4000000
local macro_rules | `(tactic| walk_at "npl") => `(tactic| first | exact Kf.npl rfl | exact Kf.npl_ints _ | exact Kf.npl_one _ _ | exact Kf.npl_refs _ | assumption)
local macro_rules | `(tactic| walk_at "nn") => `(tactic| first
  | assumption
  | (refine' Kf.Ext.non ?nne ?nnh; (case nne => assumption); (case nnh => walk_at "nn")))
local macro_rules | `(tactic| walk_at "ext") => `(tactic| first
  | assumption
  | exact Kf.Ext.refl
  | (refine' Kf.Ext.newer ?exa ?exn; (case exn => assumption); (case exa => walk_at "ext"))
  | (refine' Kf.Ext.own ?exa ?exn; (case exn => walk_at "nn"); (case exa => walk_at "ext"))
  | (refine' Kf.Ext.trans ?exa ?exb; (case exb => assumption); (case exa => walk_at "ext")))
local macro_rules | `(tactic| walk_at "pool") => `(tactic| first
  | assumption
  | (refine' Kf.PoolAt.ext ?plh ?ple; (case plh => assumption); (case ple => walk_at "ext"))
  | (refine' Kf.PoolAt.upd ?plh ?plo ?pln; (case plo => assumption); (case pln => walk_at "npl"); (case plh => walk_at "pool")))
local macro_rules | `(tactic| walk_at "lk") => `(tactic| first
  | assumption
  | exact L2.upd_same
  | (refine' Kf.upd_old ?lkn ?lkh; (case lkn => assumption); (case lkh => walk_at "lk"))
  | (refine' Kf.upd_oth ?lkn ?lkh; (case lkn => (first | assumption | (apply Ne.symm; assumption))); (case lkh => walk_at "lk"))
  | (refine' Kf.Ext.get ?lke ?lkh ?lkn; (case lke => assumption); (case lkh => walk_at "lk"); (case lkn => walk_at "npl"))
  | (refine' L2.Same.at ?lke ?lkh; (case lke => assumption); (case lkh => walk_at "lk")))
local macro_rules | `(tactic| walk_at "sq") => `(tactic| first
  | assumption
  | (refine' L2.SqL.of ?sqh; (case sqh => walk_at "lk"))
  | (refine' L2.SqT.of ?sqh; (case sqh => walk_at "lk"))
  | (refine' Kf.Ext.seqL ?sqe ?sqh ?sqn; (case sqh => assumption); (case sqe => walk_at "ext"); (case sqn => walk_at "npl"))
  | (refine' Kf.Ext.seqT ?sqe ?sqh; (case sqh => assumption); (case sqe => walk_at "ext")))
local macro_rules | `(tactic| walk_at "at") => `(tactic| first | exact L2.atI_nat (j := 0) rfl | exact L2.atI_nat (j := 1) rfl | exact L2.atI_nat (j := 2) rfl | exact L2.atI_nat (j := 3) rfl | exact L2.atI_nat (j := 4) rfl | assumption)
local macro_rules | `(tactic| walk_at "ixn") => `(tactic| first | exact Kf.ixN_nat (j := 0) rfl | exact Kf.ixN_nat (j := 1) rfl | exact Kf.ixN_nat (j := 2) rfl | exact Kf.ixN_nat (j := 3) rfl | assumption)
local macro_rules | `(tactic| walk_at "set") => `(tactic| (first | (simp only [List.set_cons_succ, List.set_cons_zero]; rfl) | rfl))
local macro_rules | `(tactic| walk_at "om") => `(tactic| first | decide | omega | (simp only [List.length_map, List.length_cons, List.length_nil] at *; omega))
local macro_rules | `(tactic| walk_at "calls") => `(tactic| first
  | (with_reducible refine' Kf.call_take ?clp ?cla ?clb ?clq; (case clp => walk_at "pool"); (case cla => walk_at "om"); (case clb => walk_at "om"); intro r H' hE h0 h1)
  | (with_reducible refine' Kf.call_pool ?cls ?cla ?clq; (case cls => walk_at "sq"); (case cla => walk_at "om"); intro p H' hE hN hP)
  | (with_reducible refine' Kf.call_turn ?cls ?clp ?cla ?clq; (case cls => walk_at "sq"); (case clp => walk_at "pool"); (case cla => walk_at "om"); intro u H' hE hP))
local macro_rules | `(tactic| walk_at "side") => `(tactic| first
  | exact Kf.cmul_fmod (by decide) (by decide)
  | exact rfl
  | decide
  | omega
  | assumption
  | (refine ⟨?_, ?_⟩ <;> decide)
  | (refine ⟨?_, ?_, ?_⟩ <;> decide)
  | (refine ⟨?_, ?_⟩ <;> omega)
  | (refine Or.inl ⟨?_, ?_⟩ <;> decide)
  | (refine Or.inr ⟨?_, ?_⟩ <;> decide)
  | (refine Or.inl ⟨?_, ?_⟩ <;> omega)
  | (refine Or.inr ⟨?_, ?_⟩ <;> omega))
local macro_rules | `(tactic| walk_at "kit") => `(tactic| first | exact Kf.isi_int_int | exact Kf.isi_int_bool | exact Kf.isi_int_str | exact Kf.isi_int_list | exact Kf.isi_int_tuple | exact Kf.isi_bool_int | exact Kf.isi_bool_bool | exact Kf.isi_bool_str | exact Kf.isi_bool_list | exact Kf.isi_bool_tuple | exact Kf.isi_str_int | exact Kf.isi_str_bool | exact Kf.isi_str_str | exact Kf.isi_str_list | exact Kf.isi_str_tuple | exact Kf.isi_non_list | exact Kf.isi_non_tuple | exact Kf.isi_list_list | exact Kf.isi_list_tuple | exact Kf.isi_tuple_list | exact Kf.isi_tuple_tuple | exact Kf.isi_dict_dict)
local macro_rules | `(tactic| walk_at "ty") => `(tactic| first
  | exact L2.TyX.base (L2.TyOf.int _)
  | exact L2.TyX.base (L2.TyOf.bl _)
  | exact L2.TyX.base (L2.TyOf.str _)
  | exact L2.TyX.base L2.TyOf.non
  | (refine' L2.TyX.base (L2.TyOf.lst ?tyh); (case tyh => walk_at "lk"))
  | (refine' L2.TyX.base (L2.TyOf.tup ?tyh); (case tyh => walk_at "lk"))
  | (refine' L2.TyX.base (L2.TyOf.dK ?tyh); (case tyh => walk_at "lk")))
local macro_rules | `(tactic| walk_at "om2") => `(tactic| first | assumption | decide | omega)
local macro_rules | `(tactic| walk_at "st") => `(tactic| with_reducible first
  | (refine Kf.w_var rfl ?_)
  | (refine Kf.w_c ?_)
  | (refine Kf.w_seq ?_)
  | (refine Kf.w_asg ?_)
  | (refine' Kf.w_gname ?sth ?_; (case sth => with_unfolding_all walk_at "set"))
  | (refine Kf.w_op ?_)
  | (refine Kf.w_un ?_)
  | (refine Kf.w_rU ?_)
  | (refine Kf.w_rI0 ?_)
  | (refine' Kf.w_rI ?sth ?_; (case sth => with_unfolding_all walk_at "side"))
  | (refine' Kf.w_rEq ?sth ?_; (case sth => with_unfolding_all rfl))
  | (refine' Kf.w_rNe ?sth ?_; (case sth => with_unfolding_all rfl))
  | (refine Kf.w_tTest ?_)
  | (refine Kf.w_tB ?_)
  | (refine Kf.w_exbl ?_)
  | (refine Kf.w_exint ?_)
  | (refine Kf.w_ifS ?_)
  | (refine Kf.w_ret ?_)
  | (refine Kf.w_retN ?_)
  | (refine Kf.w_drop ?_)
  | (refine Kf.w_and ?_)
  | (refine Kf.w_or ?_)
  | (refine Kf.w_not ?_)
  | (refine Kf.w_andV ?_)
  | (refine Kf.w_orV ?_)
  | (refine Kf.w_notV ?_)
  | (refine Kf.w_if ?_)
  | (refine Kf.w_lc ?_)
  | (refine Kf.w_for ?_)
  | (refine Kf.w_rng1 ?_)
  | (refine' Kf.w_rng1x ?sth ?stg ?_; (case sth => with_unfolding_all walk_at "om"); (case stg => with_unfolding_all walk_at "om"))
  | (refine Kf.w_ilist ?_)
  | (refine Kf.w_iseq ?_)
  | (refine Kf.w_itup ?_)
  | (refine' Kf.w_ilistx ?sth ?_; (case sth => with_unfolding_all walk_at "sq"))
  | (refine' Kf.w_itupx ?sth ?_; (case sth => with_unfolding_all walk_at "sq"))
  | (refine' Kf.w_wipe ?sth ?_; (case sth => with_unfolding_all rfl))
  | (refine Kf.w_yes ?_)
  | (refine' Kf.w_isi ?sth ?stg ?_; (case sth => with_unfolding_all walk_at "ty"); (case stg => walk_at "kit"))
  | (refine Kf.w_isN ?_)
  | (refine Kf.w_notN ?_)
  | (refine Kf.w_cb ?_)
  | (refine Kf.w_nil ?_)
  | (refine Kf.w_cons ?_)
  | (refine Kf.w_tup ?_)
  | (refine Kf.w_lst ?_)
  | (refine' Kf.w_lines ?sth ?_; (case sth => with_unfolding_all rfl))
  | (refine Kf.w_call ?_)
  | (refine Kf.w_next ?_)
  | (refine Kf.w_break ?_)
  | (refine Kf.w_cont ?_)
  | (refine Kf.w_dnewK ?_)
  | (refine Kf.w_dget ?_)
  | (refine Kf.w_sl ?_)
  | (refine Kf.w_nopart ?_)
  | (refine Kf.w_part ?_)
  | (refine Kf.w_bm ?_)
  | (refine Kf.w_bm0 ?_)
  | (refine' Kf.w_bmL ?sth ?_; (case sth => with_unfolding_all walk_at "lk"))
  | (refine' Kf.w_cat ?sth ?stg ?stf ?_; (case sth => with_unfolding_all walk_at "lk"); (case stg => with_unfolding_all walk_at "lk"); (case stf => with_unfolding_all walk_at "om"))
  | (refine' Kf.w_slL ?sth ?_; (case sth => with_unfolding_all walk_at "sq"))
  | (refine' Kf.w_inL ?sth ?_; (case sth => with_unfolding_all walk_at "sq"))
  | (refine' Kf.w_inT ?sth ?_; (case sth => with_unfolding_all walk_at "sq"))
  | (refine' Kf.w_ninL ?sth ?_; (case sth => with_unfolding_all walk_at "sq"))
  | (refine' Kf.w_ninT ?sth ?_; (case sth => with_unfolding_all walk_at "sq"))
  | (refine' Kf.w_listof ?sth ?_; (case sth => with_unfolding_all walk_at "sq"))
  | (refine' Kf.w_tupof ?sth ?_; (case sth => with_unfolding_all walk_at "sq"))
  | (refine Kf.w_listRev ?_)
  | (refine Kf.w_gsub ?_)
  | (refine' Kf.w_ixL ?sth ?stg ?_; (case sth => with_unfolding_all walk_at "sq"); (case stg => with_unfolding_all walk_at "at"))
  | (refine' Kf.w_ixT ?sth ?stg ?_; (case sth => with_unfolding_all walk_at "sq"); (case stg => with_unfolding_all walk_at "at"))
  | (refine' Kf.w_setL ?sth ?stg ?_; (case sth => with_unfolding_all walk_at "lk"); (case stg => with_unfolding_all walk_at "ixn"))
  | (refine' Kf.w_len ?sth ?_; (case sth => with_unfolding_all walk_at "sq"))
  | (refine' Kf.w_lenT ?sth ?_; (case sth => with_unfolding_all walk_at "sq"))
  | (refine Kf.w_int1 ?_)
  | (refine Kf.w_intb ?_)
  | (refine Kf.w_abs ?_)
  | (refine Kf.w_aug rfl ?_)
  | (refine Kf.w_par ?_)
  | (refine' Kf.w_gtup ?sth ?stg ?_; (case sth => with_unfolding_all walk_at "sq"); (case stg => with_unfolding_all exact rfl))
  | (refine' Kf.w_glst ?sth ?stg ?_; (case sth => with_unfolding_all walk_at "sq"); (case stg => with_unfolding_all exact rfl))
  | (refine Kf.w_rng2 ?_)
  | (refine Kf.w_rng3 ?_)
  | (refine' Kf.w_rng2x ?sth ?stg ?stf ?ste ?_; (case sth => with_unfolding_all walk_at "om"); (case stg => with_unfolding_all walk_at "om"); (case stf => with_unfolding_all walk_at "om"); (case ste => with_unfolding_all walk_at "om"))
  | (refine Kf.w_gcons ?_)
  | (refine Kf.w_gnil ?_)
  | (refine Kf.w_gcd ?_)
  | (refine Kf.w_bits ?_)
  | (refine Kf.w_two ?_)
  | (refine Kf.w_ipI ?_)
  | (refine L2.iteT ?_)
  | (refine L2.iteF ?_)
  | (refine Kf.iteNT ?_)
  | (refine Kf.iteNF ?_)
  | (refine' Kf.ite_decT ?sth ?_; (case sth => exact rfl))
  | (refine' Kf.ite_decF ?sth ?_; (case sth => with_unfolding_all (intro e; cases e; done)))
  | (refine' Kf.ite_ndecF ?sth ?_; (case sth => exact rfl))
  | (refine' Kf.ite_ndecT ?sth ?_; (case sth => with_unfolding_all (intro e; cases e; done)))
  | (refine' Kf.ite_viT ?sth ?_; (case sth => (with_unfolding_all walk_at "om2")))
  | (refine' Kf.ite_viF ?sth ?_; (case sth => (with_unfolding_all walk_at "om2")))
  | (refine' Kf.ite_nviT ?sth ?_; (case sth => (with_unfolding_all walk_at "om2")))
  | (refine' Kf.ite_nviF ?sth ?_; (case sth => (with_unfolding_all walk_at "om2")))
  | (refine' Kf.ite_decT ?sth ?_; (case sth => (with_unfolding_all walk_at "om2")))
  | (refine' Kf.ite_decF ?sth ?_; (case sth => (with_unfolding_all walk_at "om2")))
  | with_unfolding_all walk_at "calls")
local macro_rules | `(tactic| walk_at "go") => `(tactic| repeat walk_at "st")

namespace Kf
open PySem PySem.Spec PyProof.Rows L2
open R0 (tt xr Bd)
abbrev s_law : Stmt := topS 42
abbrev N_law : List Str := ["script", "cases", "k", "row", "many", "start", "factor", "tails"]
abbrev P_law : List Str := ["script"]
theorem sc_law : FnScope N_law P_law (defScope s_law) := ⟨rfl, rfl, rfl, by decide +kernel, rfl, by decide +kernel, by decide +kernel⟩
section
variable {P : Program} {w : World} {K : PySem.W.Frag} {mg : Str → Option Value} {base : Heap} {H : Hp} {Q : VK} {E : XK}
theorem w_callS {sp : Sp} {E : L2.St → XK} {t : TA} {σ : L2.St} (h : t σ H fun vs H1 => sp vs H1 Q (E σ)) : tCallS sp E t σ H Q := h
theorem ok_refused {C PE c1 c2 c3 c4 c5 c6 c7 d1 d2 d3 d4 d5 d6 : Addr} (D : Df K mg "_law_refused" s__law_refused P__law_refused) (O : OthC K mg C PE c1 c2 c3 c4 c5 c6 c7 d1 d2 d3 d4 d5 d6) (B : BadC K mg C) (b_isinstance : mg "isinstance" = none) (b_ValueError : mg "ValueError" = none)
    (p_overX : PrX P w K mg base "over" 2 P_over (spOverX C)) : Pr P w K mg base "_law_refused" 3 P__law_refused (spRefused K) := by
  refine D.ok sc__law_refused (fun vs H Q E h => ?_) (fun f cdv A outer s H vs Q E hr h => ?_)
  · obtain ⟨x, y, a, rfl, _⟩ := h; rfl
  obtain ⟨x, y, r, rfl, hx, hy, ba, q⟩ := h
  have nd := sc__law_refused.nd
  refine ⟨_, pss_cons (ps_try_as (i := 2) (tb := fun W => tDrop (tCallS (spOverX C) (WE W) (tCons (tVar 0) (tCons (tVar 1) tNil)))) (Wout := fun _ _ _ _ => False) rfl rfl nd rfl rfl ⟨by rfl, by decide, Or.inl O.gP⟩ takes0
      (fun W pn xe tk _ => pss_one (ps_expr (pe_callPS p_overX hr tk (pa_cons (pv 0) (pa_cons (pv 1) pa_nil)))))
      (fun a oe cls d pn hz hf => pss_cons (ps_if (pt_val (pe_callB (call_isEX O.xc hz hf) (by rfl) b_isinstance (by decide +kernel) (pa_cons (pv 2) (pa_cons (pe_tup (pa_cons (pe_glob (v := .ref c1) (by rfl) O.g1 rfl) (pa_cons (pe_glob (v := .ref c2) (by rfl) O.g2 rfl) (pa_cons (pe_glob (v := .ref c3) (by rfl) O.g3 rfl) (pa_cons (pe_glob (v := .ref c4) (by rfl) O.g4 rfl) (pa_cons (pe_glob (v := .ref c5) (by rfl) O.g5 rfl) (pa_cons (pe_glob (v := .ref c6) (by rfl) O.g6 rfl) (pa_cons (pe_glob (v := .ref c7) (by rfl) O.g7 rfl) pa_nil)))))))) pa_nil)))) (pss_one (ps_ret pe_bl)) pss_nil)
        (pss_cons (ps_if (pt_val (pe_callB (call_isEX O.xc hz hf) (by rfl) b_isinstance (by decide +kernel) (pa_cons (pv 2) (pa_cons (pe_tup (pa_cons (pe_glob (v := .ref d1) (by rfl) O.h1 rfl) (pa_cons (pe_glob (v := .ref d2) (by rfl) O.h2 rfl) (pa_cons (pe_glob (v := .ref d3) (by rfl) O.h3 rfl) (pa_cons (pe_glob (v := .ref d4) (by rfl) O.h4 rfl) (pa_cons (pe_glob (v := .ref d5) (by rfl) O.h5 rfl) (pa_cons (pe_glob (v := .ref d6) (by rfl) O.h6 rfl) pa_nil))))))) pa_nil)))) (pss_one (ps_ret pe_bl)) pss_nil)
        (pss_one (ps_ret (pe_and (pe_callB (call_isEX O.xc hz hf) (by rfl) b_isinstance (by decide +kernel) (pa_cons (pv 2) (pa_cons (pe_glob (v := .ref C) (by rfl) B.g rfl) pa_nil))) (pe_one (pe_callB (call_isEX O.xc hz hf) (by rfl) b_isinstance (by decide +kernel) (pa_cons (pv 2) (pa_cons (pe_bltn (v := .ty "ValueError") (by rfl) b_ValueError (by decide +kernel) rfl) pa_nil))))))))))
    (pss_one (ps_ret pe_bl)), ?_⟩
  refine w_start (σ := [some _, some _, none]) rfl ?_
  refine w_seq ?_
  refine w_drop ?_
  refine w_callS ?_
  walk_at "go"
  refine ⟨x, y, r, rfl, hx, hy, ba, true, O.xm, fun _ a ha => ?_, fun z => nomatch z⟩
  walk_at "go"
  intro p1 hp1
  refine ⟨rfl, rfl, .inr ⟨p1, _, _, false, rfl, L2.upd_same, .cons (.own _) (.cons (.own _) (.cons (.own _) (.cons (.own _) (.cons (.own _) (.cons (.own _) (.cons (.own _) .nil)))))), O.k1, ?_⟩⟩
  walk_at "go"
  intro p2 hp2
  refine ⟨rfl, rfl, .inr ⟨p2, _, _, false, rfl, L2.upd_same, .cons (.own _) (.cons (.own _) (.cons (.own _) (.cons (.own _) (.cons (.own _) (.cons (.own _) .nil))))), O.k2, ?_⟩⟩
  walk_at "go"
  refine ⟨rfl, rfl, .inl ⟨_, .ref C, true, rfl, fun u hu => hu, O.k3, ?_⟩⟩
  walk_at "go"
  refine ⟨rfl, rfl, .inl ⟨_, .type "ValueError", true, rfl, fun u hu => hu, O.k4, ?_⟩⟩
  exact q _ ((Ext.new hp1).newer hp2)
/-! ### the whole -/
def CaseAt (H : Hp) (v : V) : Prop := ∃ (p ra : Addr) (a : Int) (l : List Int) (m s f : Int), v = .ref p ∧ H p = some (.lst [.ref ra, .int m, .int s, .int f]) ∧ H ra = some (.lst ((a :: l).map V.int)) ∧ ROk a l ∧ COk m s f
theorem CaseAt.ext {H H' : Hp} {v : V} (h : CaseAt H v) (e : Ext H H') : CaseAt H' v := by
  obtain ⟨p, ra, a, l, m, s, f, rfl, h1, h2, h3, h4⟩ := h
  exact ⟨p, ra, a, l, m, s, f, rfl, e.get h1 (npl rfl), e.get h2 (npl_ints _), h3, h4⟩
theorem CaseAt.ref {H : Hp} {v : V} (h : CaseAt H v) : ∃ p, v = .ref p := by
  obtain ⟨p, ra, a, l, m, s, f, rfl, _⟩ := h
  exact ⟨p, rfl⟩
theorem cs_npl {H : Hp} {vs : List V} (h : ∀ v ∈ vs, CaseAt H v) : ¬ Pl (.lst vs) := npl_nobl fun x hx b e => by
  obtain ⟨p, z⟩ := (h x hx).ref
  rw [z] at e; cases e
def spLaw (K : PySem.W.Frag) : Sp := fun vs H Q _ => ∃ (a : Addr) (ns : List Int), vs = [.ref a] ∧ SqL K H a (ns.map V.int) ∧ ns.length ≤ 63 ∧ ∀ H', Q (.bl true) H'
theorem ok_law (D : Df K mg "law" s_law P_law) (b_range : mg "range" = none) (p__law_pool : Pr P w K mg base "_law_pool" 1 P__law_pool (spPool K)) (p__law_case : Pr P w K mg base "_law_case" 3 P__law_case (spCase K)) (p__law_tails : Pr P w K mg base "_law_tails" 1 P__law_tails (spTails K))
    (p__law_built : Pr P w K mg base "_law_built" 4 P__law_built (spChk K)) (p__law_apart : Pr P w K mg base "_law_apart" 4 P__law_apart (spChk K)) (p__law_fronted : Pr P w K mg base "_law_fronted" 4 P__law_fronted (spChk K))
    (p__law_sums : Pr P w K mg base "_law_sums" 5 P__law_sums (spSums K)) (p__law_products : Pr P w K mg base "_law_products" 4 P__law_products (spProd K)) : Pr P w K mg base "law" 6 P_law (spLaw K) := by
  refine D.ok sc_law (fun vs H Q E h => ?_) (fun f cdv A outer s H vs Q E hr h => ?_)
  · obtain ⟨a, ns, rfl, _⟩ := h; rfl
  obtain ⟨a, sc, rfl, hS, hl, q⟩ := h
  have nd := sc_law.nd
  refine ⟨_, (pss_cons (ps_setLc (i := 1) (own := [("k", 2)]) rfl nd rfl rfl (sw_true rfl rfl rfl (by decide +kernel)) (pi_range1 (by rfl) b_range (pa_cons pe_int pa_nil)) (blkOk_by (N := N_law) (sc := defScope s_law) (by decide +kernel)) (fun _ _ _ _ _ => pg_name (i := 2) nd rfl (Or.inl rfl)) (fun _ _ _ _ _ => pts_nil) (fun _ _ _ _ _ => (pe_callP p__law_case hr (pa_cons (pe_callP p__law_pool hr (pa_cons (pv 0) (pa_cons (pv 2) pa_nil))) pa_nil))))
      (pss_cons (ps_for PassesOwn.never rfl (pi_tupK (K := K) rfl (pe_tup (pa_cons pe_int (pa_cons pe_int (pa_cons pe_int pa_nil))))) (pg_name (i := 2) nd rfl (Or.inl rfl)) (pss_cons (ps_asg (pe_ix (ix_listK (K := K) rfl) (pv 1) (pv 2) (fun _ _ => rfl)) (pg_lst (by rfl) (pgs_cons (pg_name (i := 3) nd rfl (Or.inl rfl)) (pgs_cons (pg_name (i := 4) nd rfl (Or.inl rfl)) (pgs_cons (pg_name (i := 5) nd rfl (Or.inl rfl)) (pgs_cons (pg_name (i := 6) nd rfl (Or.inl rfl)) pgs_nil))))))
      (pss_cons (ps_set (i := 7) nd rfl (Or.inl rfl) (pe_callP p__law_tails hr (pa_cons (pv 3) pa_nil)))
      (pss_cons (ps_if (PW.pt (pw_or (pt_not (pt_val (pe_callP p__law_built hr (pa_cons (pv 3) (pa_cons (pv 7) pa_nil))))) (pw_or (pt_not (pt_val (pe_callP p__law_apart hr (pa_cons (pv 3) (pa_cons (pv 7) pa_nil))))) (pw_or1 (pt_not (pt_val (pe_callP p__law_fronted hr (pa_cons (pv 3) (pa_cons (pv 7) pa_nil))))))))) (pss_one (ps_ret pe_bl)) pss_nil)
      (pss_one (ps_if (PW.pt (pw_or (pt_not (pt_val (pe_callP p__law_sums hr (pa_cons (pv 4) (pa_cons (pv 5) pa_nil))))) (pw_or1 (pt_not (pt_val (pe_callP p__law_products hr (pa_cons (pv 4) (pa_cons (pv 5) (pa_cons (pv 6) pa_nil))))))))) (pss_one (ps_ret pe_bl)) pss_nil))))))
      (pss_one (ps_ret pe_bl)))), ?_⟩
  refine w_start (σ := [some _, none, none, none, none, none, none, none]) rfl ?_
  walk_at "go"
  refine lc_r (R := fun i acc Hd => acc.length = i ∧ ∀ v ∈ acc, CaseAt Hd v) ⟨rfl, fun _ h => nomatch h⟩ (fun _ _ _ _ e h => ⟨h.1, fun v hv => (h.2 v hv).ext e⟩) ?_ ?_
  · rintro i acc D2 H1 hi hD2 hacc hE ⟨hal, hall⟩
    have hi2 : i < 2 := hi
    have hS1 := hE.seqL hS (npl_ints sc)
    walk_at "go"
    rename_i p H2 hE2 hp hP
    walk_at "go"
    refine call_case hP fun pc H3 ra a' l m s' f hE3 h1 h2 ok1 ok2 => ?_
    have hE13 := hE2.trans hE3
    have hacc3 := hE13.get hacc (cs_npl hall)
    refine LcP.put hD2 hacc (cs_npl hall) hE hE13 (by omega) ⟨by rw [List.length_append, hal]; rfl, fun v hv => ?_⟩
    rcases List.mem_append.mp hv with z | z
    · exact (hall v z).ext (Ext.del hE13)
    · rw [List.mem_singleton] at z
      subst z
      refine ⟨pc, ra, a', l, m, s', f, rfl, del_at h1 fun z => ?_, del_at h2 fun z => ?_, ok1, ok2⟩
      · subst z
        rw [h1] at hacc3
        have := HO.lst.inj (Option.some.inj hacc3)
        rw [← this] at hal
        simp at hal; omega
      · subst z
        rw [h2] at hacc3
        have := HO.lst.inj (Option.some.inj hacc3)
        rw [← this] at hal
        have := ok1.l1
        simp at hal; omega
  rintro D2 cs H1 hD2 hcs hE1 ⟨hcl, hall⟩
  have npc := cs_npl hall
  have hcl2 : cs.length = 2 := hcl
  walk_at "go"
  intro pt hpt
  walk_at "go"
  have hsT : SqT K (upd H1 pt (.tup [.int 0, .int 1, .int 0])) pt [.int 0, .int 1, .int 0] := SqT.of L2.upd_same
  refine for_tup (xs := [.int 0, .int 1, .int 0]) (fun i σ H' => ∃ y1 y2 y3 y4 y5 y6, σ = [some (.ref a), some (.ref D2), y1, y2, y3, y4, y5, y6] ∧ Ext (upd H1 pt (.tup [.int 0, .int 1, .int 0])) H') ⟨_, _, _, _, _, _, rfl, Ext.refl⟩ (fun i σ H' _ ⟨_, _, _, _, _, _, _, e⟩ => e.seqT hsT) ?_ ?_
  · rintro i y σ H2 hi ⟨y1, y2, y3, y4, y5, y6, rfl, hE2⟩
    obtain ⟨kk, rfl, hk⟩ : ∃ kk : Nat, y = .int (kk : Int) ∧ kk < 2 := by
      match i, hi with
      | 0, hi => exact ⟨0, (Option.some.inj hi).symm, by decide⟩
      | 1, hi => exact ⟨1, (Option.some.inj hi).symm, by decide⟩
      | 2, hi => exact ⟨0, (Option.some.inj hi).symm, by decide⟩
      | n + 3, hi => simp at hi
    have hE12 := (Ext.new hpt).trans hE2
    have hcs2 := hE12.get hcs npc
    have hv := List.getElem?_eq_getElem (l := cs) (i := kk) (by omega)
    have hat : atI cs (kk : Int) = some cs[kk] := atI_nat hv
    obtain ⟨pc, ra, a', l, m, s', f, ev, h1, h2, ok1, ok2⟩ := (hall _ (List.mem_of_getElem? hv)).ext hE12
    rw [ev] at hat
    walk_at "go"
    refine call_tails h2 ok1 fun t H3 hE3 ht => ?_
    have h3 := hE3.get h2 (npl_ints _)
    walk_at "go"
    refine call_chk h3 ok1 ht fun H4 hE4 => ?_
    have h4 := hE4.get h3 (npl_ints _)
    walk_at "go"
    refine call_chk h4 ok1 (ht.ext hE4) fun H5 hE5 => ?_
    have h5 := hE5.get h4 (npl_ints _)
    walk_at "go"
    refine call_chk h5 ok1 (ht.ext (hE4.trans hE5)) fun H6 hE6 => ?_
    walk_at "go"
    refine ⟨m, s', f, rfl, ok2, fun H7 hE7 => ?_⟩
    walk_at "go"
    refine ⟨m, s', f, rfl, ok2, fun H8 hE8 => ?_⟩
    walk_at "go"
    exact ⟨_, _, _, _, _, _, rfl, (((((hE2.trans hE3).trans hE4).trans hE5).trans hE6).trans hE7).trans hE8⟩
  · rintro σ H2 ⟨y1, y2, y3, y4, y5, y6, rfl, hE2⟩
    walk_at "go"
    exact q _
end
end Kf

end
section
set_option Elab.async false
set_option linter.all false
set_option maxRecDepth 100000
set_option maxHeartbeats 4000000
local macro_rules | `(tactic| walk_at "npl") => `(tactic| first | exact Kf.npl rfl | exact Kf.npl_ints _ | exact Kf.npl_one _ _ | exact Kf.npl_refs _ | assumption)
local macro_rules | `(tactic| walk_at "nn") => `(tactic| first
  | assumption
  | (refine' Kf.Ext.non ?nne ?nnh; (case nne => assumption); (case nnh => walk_at "nn")))
local macro_rules | `(tactic| walk_at "ext") => `(tactic| first
  | assumption
  | exact Kf.Ext.refl
  | (refine' Kf.Ext.newer ?exa ?exn; (case exn => assumption); (case exa => walk_at "ext"))
  | (refine' Kf.Ext.own ?exa ?exn; (case exn => walk_at "nn"); (case exa => walk_at "ext"))
  | (refine' Kf.Ext.trans ?exa ?exb; (case exb => assumption); (case exa => walk_at "ext")))
local macro_rules | `(tactic| walk_at "pool") => `(tactic| first
  | assumption
  | (refine' Kf.PoolAt.ext ?plh ?ple; (case plh => assumption); (case ple => walk_at "ext"))
  | (refine' Kf.PoolAt.upd ?plh ?plo ?pln; (case plo => assumption); (case pln => walk_at "npl"); (case plh => walk_at "pool")))
local macro_rules | `(tactic| walk_at "lk") => `(tactic| first
  | assumption
  | exact L2.upd_same
  | (refine' Kf.upd_old ?lkn ?lkh; (case lkn => assumption); (case lkh => walk_at "lk"))
  | (refine' Kf.upd_oth ?lkn ?lkh; (case lkn => (first | assumption | (apply Ne.symm; assumption))); (case lkh => walk_at "lk"))
  | (refine' Kf.Ext.get ?lke ?lkh ?lkn; (case lke => assumption); (case lkh => walk_at "lk"); (case lkn => walk_at "npl"))
  | (refine' L2.Same.at ?lke ?lkh; (case lke => assumption); (case lkh => walk_at "lk")))
local macro_rules | `(tactic| walk_at "sq") => `(tactic| first
  | assumption
  | (refine' L2.SqL.of ?sqh; (case sqh => walk_at "lk"))
  | (refine' L2.SqT.of ?sqh; (case sqh => walk_at "lk"))
  | (refine' Kf.Ext.seqL ?sqe ?sqh ?sqn; (case sqh => assumption); (case sqe => walk_at "ext"); (case sqn => walk_at "npl"))
  | (refine' Kf.Ext.seqT ?sqe ?sqh; (case sqh => assumption); (case sqe => walk_at "ext")))
local macro_rules | `(tactic| walk_at "at") => `(tactic| first | exact L2.atI_nat (j := 0) rfl | exact L2.atI_nat (j := 1) rfl | exact L2.atI_nat (j := 2) rfl | exact L2.atI_nat (j := 3) rfl | exact L2.atI_nat (j := 4) rfl | assumption)
local macro_rules | `(tactic| walk_at "ixn") => `(tactic| first | exact Kf.ixN_nat (j := 0) rfl | exact Kf.ixN_nat (j := 1) rfl | exact Kf.ixN_nat (j := 2) rfl | exact Kf.ixN_nat (j := 3) rfl | assumption)
local macro_rules | `(tactic| walk_at "set") => `(tactic| (first | (simp only [List.set_cons_succ, List.set_cons_zero]; rfl) | rfl))
local macro_rules | `(tactic| walk_at "om") => `(tactic| first | decide | omega | (simp only [List.length_map, List.length_cons, List.length_nil] at *; omega))
local macro_rules | `(tactic| walk_at "calls") => `(tactic| first
  | (with_reducible refine' Kf.call_take ?clp ?cla ?clb ?clq; (case clp => walk_at "pool"); (case cla => walk_at "om"); (case clb => walk_at "om"); intro r H' hE h0 h1)
  | (with_reducible refine' Kf.call_pool ?cls ?cla ?clq; (case cls => walk_at "sq"); (case cla => walk_at "om"); intro p H' hE hN hP)
  | (with_reducible refine' Kf.call_turn ?cls ?clp ?cla ?clq; (case cls => walk_at "sq"); (case clp => walk_at "pool"); (case cla => walk_at "om"); intro u H' hE hP))
local macro_rules | `(tactic| walk_at "side") => `(tactic| first
  | exact Kf.cmul_fmod (by decide) (by decide)
  | exact rfl
  | decide
  | omega
  | assumption
  | (refine ⟨?_, ?_⟩ <;> decide)
  | (refine ⟨?_, ?_, ?_⟩ <;> decide)
  | (refine ⟨?_, ?_⟩ <;> omega)
  | (refine Or.inl ⟨?_, ?_⟩ <;> decide)
  | (refine Or.inr ⟨?_, ?_⟩ <;> decide)
  | (refine Or.inl ⟨?_, ?_⟩ <;> omega)
  | (refine Or.inr ⟨?_, ?_⟩ <;> omega))
local macro_rules | `(tactic| walk_at "kit") => `(tactic| first | exact Kf.isi_int_int | exact Kf.isi_int_bool | exact Kf.isi_int_str | exact Kf.isi_int_list | exact Kf.isi_int_tuple | exact Kf.isi_bool_int | exact Kf.isi_bool_bool | exact Kf.isi_bool_str | exact Kf.isi_bool_list | exact Kf.isi_bool_tuple | exact Kf.isi_str_int | exact Kf.isi_str_bool | exact Kf.isi_str_str | exact Kf.isi_str_list | exact Kf.isi_str_tuple | exact Kf.isi_non_list | exact Kf.isi_non_tuple | exact Kf.isi_list_list | exact Kf.isi_list_tuple | exact Kf.isi_tuple_list | exact Kf.isi_tuple_tuple | exact Kf.isi_dict_dict)
local macro_rules | `(tactic| walk_at "ty") => `(tactic| first
  | exact L2.TyX.base (L2.TyOf.int _)
  | exact L2.TyX.base (L2.TyOf.bl _)
  | exact L2.TyX.base (L2.TyOf.str _)
  | exact L2.TyX.base L2.TyOf.non
  | (refine' L2.TyX.base (L2.TyOf.lst ?tyh); (case tyh => walk_at "lk"))
  | (refine' L2.TyX.base (L2.TyOf.tup ?tyh); (case tyh => walk_at "lk"))
  | (refine' L2.TyX.base (L2.TyOf.dK ?tyh); (case tyh => walk_at "lk")))
local macro_rules | `(tactic| walk_at "om2") => `(tactic| first | assumption | decide | omega)
local macro_rules | `(tactic| walk_at "st") => `(tactic| with_reducible first
  | (refine Kf.w_var rfl ?_)
  | (refine Kf.w_c ?_)
  | (refine Kf.w_seq ?_)
  | (refine Kf.w_asg ?_)
  | (refine' Kf.w_gname ?sth ?_; (case sth => with_unfolding_all walk_at "set"))
  | (refine Kf.w_op ?_)
  | (refine Kf.w_un ?_)
  | (refine Kf.w_rU ?_)
  | (refine Kf.w_rI0 ?_)
  | (refine' Kf.w_rI ?sth ?_; (case sth => with_unfolding_all walk_at "side"))
  | (refine' Kf.w_rEq ?sth ?_; (case sth => with_unfolding_all rfl))
  | (refine' Kf.w_rNe ?sth ?_; (case sth => with_unfolding_all rfl))
  | (refine Kf.w_tTest ?_)
  | (refine Kf.w_tB ?_)
  | (refine Kf.w_exbl ?_)
  | (refine Kf.w_exint ?_)
  | (refine Kf.w_ifS ?_)
  | (refine Kf.w_ret ?_)
  | (refine Kf.w_retN ?_)
  | (refine Kf.w_drop ?_)
  | (refine Kf.w_and ?_)
  | (refine Kf.w_or ?_)
  | (refine Kf.w_not ?_)
  | (refine Kf.w_andV ?_)
  | (refine Kf.w_orV ?_)
  | (refine Kf.w_notV ?_)
  | (refine Kf.w_if ?_)
  | (refine Kf.w_lc ?_)
  | (refine Kf.w_for ?_)
  | (refine Kf.w_rng1 ?_)
  | (refine' Kf.w_rng1x ?sth ?stg ?_; (case sth => with_unfolding_all walk_at "om"); (case stg => with_unfolding_all walk_at "om"))
  | (refine Kf.w_ilist ?_)
  | (refine Kf.w_iseq ?_)
  | (refine Kf.w_itup ?_)
  | (refine' Kf.w_ilistx ?sth ?_; (case sth => with_unfolding_all walk_at "sq"))
  | (refine' Kf.w_itupx ?sth ?_; (case sth => with_unfolding_all walk_at "sq"))
  | (refine' Kf.w_wipe ?sth ?_; (case sth => with_unfolding_all rfl))
  | (refine Kf.w_yes ?_)
  | (refine' Kf.w_isi ?sth ?stg ?_; (case sth => with_unfolding_all walk_at "ty"); (case stg => walk_at "kit"))
  | (refine Kf.w_isN ?_)
  | (refine Kf.w_notN ?_)
  | (refine Kf.w_cb ?_)
  | (refine Kf.w_nil ?_)
  | (refine Kf.w_cons ?_)
  | (refine Kf.w_tup ?_)
  | (refine Kf.w_lst ?_)
  | (refine' Kf.w_lines ?sth ?_; (case sth => with_unfolding_all rfl))
  | (refine Kf.w_call ?_)
  | (refine Kf.w_next ?_)
  | (refine Kf.w_break ?_)
  | (refine Kf.w_cont ?_)
  | (refine Kf.w_dnewK ?_)
  | (refine Kf.w_dget ?_)
  | (refine Kf.w_sl ?_)
  | (refine Kf.w_nopart ?_)
  | (refine Kf.w_part ?_)
  | (refine Kf.w_bm ?_)
  | (refine Kf.w_bm0 ?_)
  | (refine' Kf.w_bmL ?sth ?_; (case sth => with_unfolding_all walk_at "lk"))
  | (refine' Kf.w_cat ?sth ?stg ?stf ?_; (case sth => with_unfolding_all walk_at "lk"); (case stg => with_unfolding_all walk_at "lk"); (case stf => with_unfolding_all walk_at "om"))
  | (refine' Kf.w_slL ?sth ?_; (case sth => with_unfolding_all walk_at "sq"))
  | (refine' Kf.w_inL ?sth ?_; (case sth => with_unfolding_all walk_at "sq"))
  | (refine' Kf.w_inT ?sth ?_; (case sth => with_unfolding_all walk_at "sq"))
  | (refine' Kf.w_ninL ?sth ?_; (case sth => with_unfolding_all walk_at "sq"))
  | (refine' Kf.w_ninT ?sth ?_; (case sth => with_unfolding_all walk_at "sq"))
  | (refine' Kf.w_listof ?sth ?_; (case sth => with_unfolding_all walk_at "sq"))
  | (refine' Kf.w_tupof ?sth ?_; (case sth => with_unfolding_all walk_at "sq"))
  | (refine Kf.w_listRev ?_)
  | (refine Kf.w_gsub ?_)
  | (refine' Kf.w_ixL ?sth ?stg ?_; (case sth => with_unfolding_all walk_at "sq"); (case stg => with_unfolding_all walk_at "at"))
  | (refine' Kf.w_ixT ?sth ?stg ?_; (case sth => with_unfolding_all walk_at "sq"); (case stg => with_unfolding_all walk_at "at"))
  | (refine' Kf.w_setL ?sth ?stg ?_; (case sth => with_unfolding_all walk_at "lk"); (case stg => with_unfolding_all walk_at "ixn"))
  | (refine' Kf.w_len ?sth ?_; (case sth => with_unfolding_all walk_at "sq"))
  | (refine' Kf.w_lenT ?sth ?_; (case sth => with_unfolding_all walk_at "sq"))
  | (refine Kf.w_int1 ?_)
  | (refine Kf.w_intb ?_)
  | (refine Kf.w_abs ?_)
  | (refine Kf.w_aug rfl ?_)
  | (refine Kf.w_par ?_)
  | (refine' Kf.w_gtup ?sth ?stg ?_; (case sth => with_unfolding_all walk_at "sq"); (case stg => with_unfolding_all exact rfl))
  | (refine' Kf.w_glst ?sth ?stg ?_; (case sth => with_unfolding_all walk_at "sq"); (case stg => with_unfolding_all exact rfl))
  | (refine Kf.w_rng2 ?_)
  | (refine Kf.w_rng3 ?_)
  | (refine' Kf.w_rng2x ?sth ?stg ?stf ?ste ?_; (case sth => with_unfolding_all walk_at "om"); (case stg => with_unfolding_all walk_at "om"); (case stf => with_unfolding_all walk_at "om"); (case ste => with_unfolding_all walk_at "om"))
  | (refine Kf.w_gcons ?_)
  | (refine Kf.w_gnil ?_)
  | (refine Kf.w_gcd ?_)
  | (refine Kf.w_bits ?_)
  | (refine Kf.w_two ?_)
  | (refine Kf.w_ipI ?_)
  | (refine L2.iteT ?_)
  | (refine L2.iteF ?_)
  | (refine Kf.iteNT ?_)
  | (refine Kf.iteNF ?_)
  | (refine' Kf.ite_decT ?sth ?_; (case sth => exact rfl))
  | (refine' Kf.ite_decF ?sth ?_; (case sth => with_unfolding_all (intro e; cases e; done)))
  | (refine' Kf.ite_ndecF ?sth ?_; (case sth => exact rfl))
  | (refine' Kf.ite_ndecT ?sth ?_; (case sth => with_unfolding_all (intro e; cases e; done)))
  | (refine' Kf.ite_viT ?sth ?_; (case sth => (with_unfolding_all walk_at "om2")))
  | (refine' Kf.ite_viF ?sth ?_; (case sth => (with_unfolding_all walk_at "om2")))
  | (refine' Kf.ite_nviT ?sth ?_; (case sth => (with_unfolding_all walk_at "om2")))
  | (refine' Kf.ite_nviF ?sth ?_; (case sth => (with_unfolding_all walk_at "om2")))
  | (refine' Kf.ite_decT ?sth ?_; (case sth => (with_unfolding_all walk_at "om2")))
  | (refine' Kf.ite_decF ?sth ?_; (case sth => (with_unfolding_all walk_at "om2")))
  | with_unfolding_all walk_at "calls")
local macro_rules | `(tactic| walk_at "go") => `(tactic| repeat walk_at "st")

namespace Kf
open PySem PySem.Spec PyProof.Rows L2
theorem all_mk {l : PySem.W.OpenLaw} {w : World} {K : PySem.W.Frag} {h : Heap} {mg : Str → Option Value} {fa f0 f1 f2 f3 f4 f5 f6 f7 f8 f9 f10 f11 f12 f13 f14 f15 f16 f17 f18 f19 f20 f21 f22 f23 : Addr} (X : K.In h) (G : h.Ns mainGlobals mg) (hfa : mg "law" = some (.ref fa))
    {od0 an0 od1 an1 od2 an2 od3 an3 od4 an4 od5 an5 od6 an6 od7 an7 od8 an8 od9 an9 od10 an10 od11 an11 od12 an12 od13 an13 od14 an14 od15 an15 od16 an16 od17 an17 od18 an18 od19 an19 od20 an20 od21 an21 od22 an22 od23 an23 : Option Addr} {sl0 sl1 sl2 sl3 sl4 sl5 sl6 sl7 sl8 sl9 sl10 sl11 sl12 sl13 sl14 sl15 sl16 sl17 sl18 sl19 sl20 sl21 sl22 sl23 : Array (Option Value)} {oc0 kV0 dc0 pm0 cd0 ct0 oc1 kV1 dc1 pm1 cd1 ct1 oc2 kV2 dc2 pm2 cd2 ct2 oc3 kV3 dc3 pm3 cd3 ct3 oc4 kV4 dc4 pm4 cd4 ct4 oc5 kV5 dc5 pm5 cd5 ct5 oc6 kV6 dc6 pm6 cd6 ct6 oc7 kV7 dc7 pm7 cd7 ct7 oc8 kV8 dc8 pm8 cd8 ct8 oc9 kV9 dc9 pm9 cd9 ct9 oc10 kV10 dc10 pm10 cd10 ct10 oc11 kV11 dc11 pm11 cd11 ct11 oc12 kV12 dc12 pm12 cd12 ct12 oc13 kV13 dc13 pm13 cd13 ct13 oc14 kV14 dc14 pm14 cd14 ct14 oc15 kV15 dc15 pm15 cd15 ct15 oc16 kV16 dc16 pm16 cd16 ct16 oc17 kV17 dc17 pm17 cd17 ct17 oc18 kV18 dc18 pm18 cd18 ct18 oc19 kV19 dc19 pm19 cd19 ct19 oc20 kV20 dc20 pm20 cd20 ct20 oc21 kV21 dc21 pm21 cd21 ct21 oc22 kV22 dc22 pm22 cd22 ct22 oc23 kV23 dc23 pm23 cd23 ct23 : Value}
    {T_ratio C PE c1_ c2_ c3_ c4_ c5_ c6_ c7_ d1_ d2_ d3_ d4_ d5_ d6_ : Addr} {ocT : Value} {odT : Option Addr} {tT : Tok} {nT : Nat} {slT : Array (Option Value)}
    (a0 : PySem.W.nsIn K mainGlobals "ratio" = some (some (.ref f0))) (l0 : K.lookup f0 = some ⟨oc0, od0, .func (PySem.W.fnOf "ratio" "ratio" (defArgs s_ratio) (defBody s_ratio) (defScope s_ratio) (.ref T_ratio) kV0 dc0 pm0 an0 cd0 ct0), sl0⟩) (c0 : PySem.W.codeIn K cd0 "ratio" = true) (k0 : PySem.W.keepIn K (.ref f0) = true)
    (a1 : PySem.W.nsIn K mainGlobals "plus" = some (some (.ref f1))) (l1 : K.lookup f1 = some ⟨oc1, od1, .func (PySem.W.fnOf "plus" "plus" (defArgs s_plus) (defBody s_plus) (defScope s_plus) .none kV1 dc1 pm1 an1 cd1 ct1), sl1⟩) (c1 : PySem.W.codeIn K cd1 "plus" = true) (k1 : PySem.W.keepIn K (.ref f1) = true)
    (a2 : PySem.W.nsIn K mainGlobals "minus" = some (some (.ref f2))) (l2 : K.lookup f2 = some ⟨oc2, od2, .func (PySem.W.fnOf "minus" "minus" (defArgs s_minus) (defBody s_minus) (defScope s_minus) .none kV2 dc2 pm2 an2 cd2 ct2), sl2⟩) (c2 : PySem.W.codeIn K cd2 "minus" = true) (k2 : PySem.W.keepIn K (.ref f2) = true)
    (a3 : PySem.W.nsIn K mainGlobals "times" = some (some (.ref f3))) (l3 : K.lookup f3 = some ⟨oc3, od3, .func (PySem.W.fnOf "times" "times" (defArgs s_times) (defBody s_times) (defScope s_times) .none kV3 dc3 pm3 an3 cd3 ct3), sl3⟩) (c3 : PySem.W.codeIn K cd3 "times" = true) (k3 : PySem.W.keepIn K (.ref f3) = true)
    (a4 : PySem.W.nsIn K mainGlobals "over" = some (some (.ref f4))) (l4 : K.lookup f4 = some ⟨oc4, od4, .func (PySem.W.fnOf "over" "over" (defArgs s_over) (defBody s_over) (defScope s_over) .none kV4 dc4 pm4 an4 cd4 ct4), sl4⟩) (c4 : PySem.W.codeIn K cd4 "over" = true) (k4 : PySem.W.keepIn K (.ref f4) = true)
    (a5 : PySem.W.nsIn K mainGlobals "opposite" = some (some (.ref f5))) (l5 : K.lookup f5 = some ⟨oc5, od5, .func (PySem.W.fnOf "opposite" "opposite" (defArgs s_opposite) (defBody s_opposite) (defScope s_opposite) .none kV5 dc5 pm5 an5 cd5 ct5), sl5⟩) (c5 : PySem.W.codeIn K cd5 "opposite" = true) (k5 : PySem.W.keepIn K (.ref f5) = true)
    (a6 : PySem.W.nsIn K mainGlobals "compare" = some (some (.ref f6))) (l6 : K.lookup f6 = some ⟨oc6, od6, .func (PySem.W.fnOf "compare" "compare" (defArgs s_compare) (defBody s_compare) (defScope s_compare) .none kV6 dc6 pm6 an6 cd6 ct6), sl6⟩) (c6 : PySem.W.codeIn K cd6 "compare" = true) (k6 : PySem.W.keepIn K (.ref f6) = true)
    (a7 : PySem.W.nsIn K mainGlobals "_law_pool" = some (some (.ref f7))) (l7 : K.lookup f7 = some ⟨oc7, od7, .func (PySem.W.fnOf "_law_pool" "_law_pool" (defArgs s__law_pool) (defBody s__law_pool) (defScope s__law_pool) .none kV7 dc7 pm7 an7 cd7 ct7), sl7⟩) (c7 : PySem.W.codeIn K cd7 "_law_pool" = true) (k7 : PySem.W.keepIn K (.ref f7) = true)
    (a8 : PySem.W.nsIn K mainGlobals "_law_take" = some (some (.ref f8))) (l8 : K.lookup f8 = some ⟨oc8, od8, .func (PySem.W.fnOf "_law_take" "_law_take" (defArgs s__law_take) (defBody s__law_take) (defScope s__law_take) .none kV8 dc8 pm8 an8 cd8 ct8), sl8⟩) (c8 : PySem.W.codeIn K cd8 "_law_take" = true) (k8 : PySem.W.keepIn K (.ref f8) = true)
    (a9 : PySem.W.nsIn K mainGlobals "_law_whole" = some (some (.ref f9))) (l9 : K.lookup f9 = some ⟨oc9, od9, .func (PySem.W.fnOf "_law_whole" "_law_whole" (defArgs s__law_whole) (defBody s__law_whole) (defScope s__law_whole) .none kV9 dc9 pm9 an9 cd9 ct9), sl9⟩) (c9 : PySem.W.codeIn K cd9 "_law_whole" = true) (k9 : PySem.W.keepIn K (.ref f9) = true)
    (a10 : PySem.W.nsIn K mainGlobals "_law_lowest" = some (some (.ref f10))) (l10 : K.lookup f10 = some ⟨oc10, od10, .func (PySem.W.fnOf "_law_lowest" "_law_lowest" (defArgs s__law_lowest) (defBody s__law_lowest) (defScope s__law_lowest) .none kV10 dc10 pm10 an10 cd10 ct10), sl10⟩) (c10 : PySem.W.codeIn K cd10 "_law_lowest" = true) (k10 : PySem.W.keepIn K (.ref f10) = true)
    (a11 : PySem.W.nsIn K mainGlobals "_law_alike" = some (some (.ref f11))) (l11 : K.lookup f11 = some ⟨oc11, od11, .func (PySem.W.fnOf "_law_alike" "_law_alike" (defArgs s__law_alike) (defBody s__law_alike) (defScope s__law_alike) .none kV11 dc11 pm11 an11 cd11 ct11), sl11⟩) (c11 : PySem.W.codeIn K cd11 "_law_alike" = true) (k11 : PySem.W.keepIn K (.ref f11) = true)
    (a12 : PySem.W.nsIn K mainGlobals "_law_row" = some (some (.ref f12))) (l12 : K.lookup f12 = some ⟨oc12, od12, .func (PySem.W.fnOf "_law_row" "_law_row" (defArgs s__law_row) (defBody s__law_row) (defScope s__law_row) .none kV12 dc12 pm12 an12 cd12 ct12), sl12⟩) (c12 : PySem.W.codeIn K cd12 "_law_row" = true) (k12 : PySem.W.keepIn K (.ref f12) = true)
    (a13 : PySem.W.nsIn K mainGlobals "_law_case" = some (some (.ref f13))) (l13 : K.lookup f13 = some ⟨oc13, od13, .func (PySem.W.fnOf "_law_case" "_law_case" (defArgs s__law_case) (defBody s__law_case) (defScope s__law_case) .none kV13 dc13 pm13 an13 cd13 ct13), sl13⟩) (c13 : PySem.W.codeIn K cd13 "_law_case" = true) (k13 : PySem.W.keepIn K (.ref f13) = true)
    (a14 : PySem.W.nsIn K mainGlobals "_law_tails" = some (some (.ref f14))) (l14 : K.lookup f14 = some ⟨oc14, od14, .func (PySem.W.fnOf "_law_tails" "_law_tails" (defArgs s__law_tails) (defBody s__law_tails) (defScope s__law_tails) .none kV14 dc14 pm14 an14 cd14 ct14), sl14⟩) (c14 : PySem.W.codeIn K cd14 "_law_tails" = true) (k14 : PySem.W.keepIn K (.ref f14) = true)
    (a15 : PySem.W.nsIn K mainGlobals "_law_fronts" = some (some (.ref f15))) (l15 : K.lookup f15 = some ⟨oc15, od15, .func (PySem.W.fnOf "_law_fronts" "_law_fronts" (defArgs s__law_fronts) (defBody s__law_fronts) (defScope s__law_fronts) .none kV15 dc15 pm15 an15 cd15 ct15), sl15⟩) (c15 : PySem.W.codeIn K cd15 "_law_fronts" = true) (k15 : PySem.W.keepIn K (.ref f15) = true)
    (a16 : PySem.W.nsIn K mainGlobals "_law_built" = some (some (.ref f16))) (l16 : K.lookup f16 = some ⟨oc16, od16, .func (PySem.W.fnOf "_law_built" "_law_built" (defArgs s__law_built) (defBody s__law_built) (defScope s__law_built) .none kV16 dc16 pm16 an16 cd16 ct16), sl16⟩) (c16 : PySem.W.codeIn K cd16 "_law_built" = true) (k16 : PySem.W.keepIn K (.ref f16) = true)
    (a17 : PySem.W.nsIn K mainGlobals "_law_refused" = some (some (.ref f17))) (l17 : K.lookup f17 = some ⟨oc17, od17, .func (PySem.W.fnOf "_law_refused" "_law_refused" (defArgs s__law_refused) (defBody s__law_refused) (defScope s__law_refused) .none kV17 dc17 pm17 an17 cd17 ct17), sl17⟩) (c17 : PySem.W.codeIn K cd17 "_law_refused" = true) (k17 : PySem.W.keepIn K (.ref f17) = true)
    (a18 : PySem.W.nsIn K mainGlobals "_law_apart" = some (some (.ref f18))) (l18 : K.lookup f18 = some ⟨oc18, od18, .func (PySem.W.fnOf "_law_apart" "_law_apart" (defArgs s__law_apart) (defBody s__law_apart) (defScope s__law_apart) .none kV18 dc18 pm18 an18 cd18 ct18), sl18⟩) (c18 : PySem.W.codeIn K cd18 "_law_apart" = true) (k18 : PySem.W.keepIn K (.ref f18) = true)
    (a19 : PySem.W.nsIn K mainGlobals "_law_fronted" = some (some (.ref f19))) (l19 : K.lookup f19 = some ⟨oc19, od19, .func (PySem.W.fnOf "_law_fronted" "_law_fronted" (defArgs s__law_fronted) (defBody s__law_fronted) (defScope s__law_fronted) .none kV19 dc19 pm19 an19 cd19 ct19), sl19⟩) (c19 : PySem.W.codeIn K cd19 "_law_fronted" = true) (k19 : PySem.W.keepIn K (.ref f19) = true)
    (a20 : PySem.W.nsIn K mainGlobals "_law_both" = some (some (.ref f20))) (l20 : K.lookup f20 = some ⟨oc20, od20, .func (PySem.W.fnOf "_law_both" "_law_both" (defArgs s__law_both) (defBody s__law_both) (defScope s__law_both) .none kV20 dc20 pm20 an20 cd20 ct20), sl20⟩) (c20 : PySem.W.codeIn K cd20 "_law_both" = true) (k20 : PySem.W.keepIn K (.ref f20) = true)
    (a21 : PySem.W.nsIn K mainGlobals "_law_sums" = some (some (.ref f21))) (l21 : K.lookup f21 = some ⟨oc21, od21, .func (PySem.W.fnOf "_law_sums" "_law_sums" (defArgs s__law_sums) (defBody s__law_sums) (defScope s__law_sums) .none kV21 dc21 pm21 an21 cd21 ct21), sl21⟩) (c21 : PySem.W.codeIn K cd21 "_law_sums" = true) (k21 : PySem.W.keepIn K (.ref f21) = true)
    (a22 : PySem.W.nsIn K mainGlobals "_law_products" = some (some (.ref f22))) (l22 : K.lookup f22 = some ⟨oc22, od22, .func (PySem.W.fnOf "_law_products" "_law_products" (defArgs s__law_products) (defBody s__law_products) (defScope s__law_products) .none kV22 dc22 pm22 an22 cd22 ct22), sl22⟩) (c22 : PySem.W.codeIn K cd22 "_law_products" = true) (k22 : PySem.W.keepIn K (.ref f22) = true)
    (a23 : PySem.W.nsIn K mainGlobals "law" = some (some (.ref f23))) (l23 : K.lookup f23 = some ⟨oc23, od23, .func (PySem.W.fnOf "law" "law" (defArgs s_law) (defBody s_law) (defScope s_law) .none kV23 dc23 pm23 an23 cd23 ct23), sl23⟩) (c23 : PySem.W.codeIn K cd23 "law" = true) (k23 : PySem.W.keepIn K (.ref f23) = true)
    (lT : K.lookup T_ratio = some ⟨ocT, odT, .seq #[.int 1 tT] nT, slT⟩)
    (xg : PySem.W.nsIn K mainGlobals "gcd" = some (some (.builtin "math.gcd")))
    (xC : PySem.W.nsIn K mainGlobals "BadRatio" = some (some (.ref C)))
    (xP : PySem.W.nsIn K mainGlobals "PaperError" = some (some (.ref PE)))
    (xc1 : PySem.W.nsIn K mainGlobals "BadLiteral" = some (some (.ref c1_)))
    (xc2 : PySem.W.nsIn K mainGlobals "BadModel" = some (some (.ref c2_)))
    (xc3 : PySem.W.nsIn K mainGlobals "BadName" = some (some (.ref c3_)))
    (xc4 : PySem.W.nsIn K mainGlobals "BadNode" = some (some (.ref c4_)))
    (xc5 : PySem.W.nsIn K mainGlobals "BadRange" = some (some (.ref c5_)))
    (xc6 : PySem.W.nsIn K mainGlobals "BadSort" = some (some (.ref c6_)))
    (xc7 : PySem.W.nsIn K mainGlobals "BadText" = some (some (.ref c7_)))
    (xd1 : PySem.W.nsIn K mainGlobals "BadTree" = some (some (.ref d1_)))
    (xd2 : PySem.W.nsIn K mainGlobals "NameTaken" = some (some (.ref d2_)))
    (xd3 : PySem.W.nsIn K mainGlobals "NoAnswer" = some (some (.ref d3_)))
    (xd4 : PySem.W.nsIn K mainGlobals "NoLevel" = some (some (.ref d4_)))
    (xd5 : PySem.W.nsIn K mainGlobals "Unfit" = some (some (.ref d5_)))
    (xd6 : PySem.W.nsIn K mainGlobals "UnknownName" = some (some (.ref d6_)))
    (e1 : PySem.W.excIn K C [.type "ValueError", .type "Exception", .type "BaseException", .type "object"] "ValueError.__new__" = true)
    (e2 : PySem.W.keepIn K (.ref C) = true)
    (e3 : PySem.W.subIn K (.ref C) (.type "BaseException") = some true)
    (e4 : PySem.W.typeIn K (.ref C) = some (.type "type"))
    (u1 : PySem.W.kitAny K (.ref C) [.ref c1_, .ref c2_, .ref c3_, .ref c4_, .ref c5_, .ref c6_, .ref c7_] = some false)
    (u2 : PySem.W.kitAny K (.ref C) [.ref d1_, .ref d2_, .ref d3_, .ref d4_, .ref d5_, .ref d6_] = some false)
    (u3 : PySem.W.kitOne K (.ref C) (.ref C) = some true)
    (u4 : PySem.W.kitOne K (.ref C) (.type "ValueError") = some true)
    (g1 : PySem.W.subIn K (.ref PE) (.type "BaseException") = some true)
    (g2 : PySem.W.hasDictIn K PE = true)
    (g3 : PySem.W.typeIn K (.ref PE) = some (.type "type"))
    (g4 : PySem.W.subIn K (.ref C) (.ref PE) = some true)
    (q1 : PySem.W.findIn K (.ref C) "__getattribute__" = some (some (.builtin "BaseException.__getattribute__")))
    (q2 : PySem.W.findIn K (.ref C) "__getattr__" = some none)
    (q4 : PySem.W.hasDictIn K C = true)
    (q5 : PySem.W.findIn K (.ref C) "__class__" = some (some (.builtin "object.__class__")))
    (q6 : PySem.W.specialIn K (.builtin "object.__class__") "__get__" = some (some (.builtin "getset_descriptor.__get__")))
    (q7 : PySem.W.takesIn K (.builtin "object.__class__") = some true)
    (q8 : PySem.W.mroIn K C (.type "object") = some true)
    (z0 : PySem.W.nsIn K mainGlobals "len" = some none)
    (z1 : PySem.W.nsIn K mainGlobals "int" = some none)
    (z2 : PySem.W.nsIn K mainGlobals "isinstance" = some none)
    (z3 : PySem.W.nsIn K mainGlobals "bool" = some none)
    (z4 : PySem.W.nsIn K mainGlobals "list" = some none)
    (z5 : PySem.W.nsIn K mainGlobals "tuple" = some none)
    (z6 : PySem.W.nsIn K mainGlobals "str" = some none)
    (z7 : PySem.W.nsIn K mainGlobals "range" = some none)
    (z8 : PySem.W.nsIn K mainGlobals "abs" = some none)
    (z9 : PySem.W.nsIn K mainGlobals "reversed" = some none)
    (z10 : PySem.W.nsIn K mainGlobals "ValueError" = some none)
    : ∃ fd : FuncData, (∀ (s : Shared) (v : Value), BindsTo s fd ⟨[v], []⟩ [("script", v)]) ∧ ∀ base : Heap, K.In base → base.Ns mainGlobals mg → FnOk l.prog w K mg base CX0 6 fa fd ["script"] (spLaw K) := by
  have e := hfa.symm.trans (PySem.W.mg_of X G a23)
  cases e
  have D_ratio : DfD K mg "ratio" s_ratio [.int 1] P_ratio := DfD.mk1 l0 c0 k0 lT ⟨_, rfl⟩ (PySem.W.mg_of X G a0) (fun _ _ _ _ _ _ _ _ _ => ⟨_, rfl, rfl⟩) (fun _ _ _ _ _ _ _ _ _ _ => ⟨_, rfl, rfl⟩)
  have D_plus : Df K mg "plus" s_plus P_plus := Df.mk' l1 c1 k1 (fun F => F.binds fun _ _ _ _ _ _ us hl => match us, hl with | [_, _], _ => rfl) (PySem.W.mg_of X G a1)
  have D_minus : Df K mg "minus" s_minus P_minus := Df.mk' l2 c2 k2 (fun F => F.binds fun _ _ _ _ _ _ us hl => match us, hl with | [_, _], _ => rfl) (PySem.W.mg_of X G a2)
  have D_times : Df K mg "times" s_times P_times := Df.mk' l3 c3 k3 (fun F => F.binds fun _ _ _ _ _ _ us hl => match us, hl with | [_, _], _ => rfl) (PySem.W.mg_of X G a3)
  have D_over : Df K mg "over" s_over P_over := Df.mk' l4 c4 k4 (fun F => F.binds fun _ _ _ _ _ _ us hl => match us, hl with | [_, _], _ => rfl) (PySem.W.mg_of X G a4)
  have D_opposite : Df K mg "opposite" s_opposite P_opposite := Df.mk' l5 c5 k5 (fun F => F.binds fun _ _ _ _ _ _ us hl => match us, hl with | [_], _ => rfl) (PySem.W.mg_of X G a5)
  have D_compare : Df K mg "compare" s_compare P_compare := Df.mk' l6 c6 k6 (fun F => F.binds fun _ _ _ _ _ _ us hl => match us, hl with | [_, _], _ => rfl) (PySem.W.mg_of X G a6)
  have D__law_pool : Df K mg "_law_pool" s__law_pool P__law_pool := Df.mk' l7 c7 k7 (fun F => F.binds fun _ _ _ _ _ _ us hl => match us, hl with | [_, _], _ => rfl) (PySem.W.mg_of X G a7)
  have D__law_take : Df K mg "_law_take" s__law_take P__law_take := Df.mk' l8 c8 k8 (fun F => F.binds fun _ _ _ _ _ _ us hl => match us, hl with | [_, _], _ => rfl) (PySem.W.mg_of X G a8)
  have D__law_whole : Df K mg "_law_whole" s__law_whole P__law_whole := Df.mk' l9 c9 k9 (fun F => F.binds fun _ _ _ _ _ _ us hl => match us, hl with | [_], _ => rfl) (PySem.W.mg_of X G a9)
  have D__law_lowest : Df K mg "_law_lowest" s__law_lowest P__law_lowest := Df.mk' l10 c10 k10 (fun F => F.binds fun _ _ _ _ _ _ us hl => match us, hl with | [_, _], _ => rfl) (PySem.W.mg_of X G a10)
  have D__law_alike : Df K mg "_law_alike" s__law_alike P__law_alike := Df.mk' l11 c11 k11 (fun F => F.binds fun _ _ _ _ _ _ us hl => match us, hl with | [_, _], _ => rfl) (PySem.W.mg_of X G a11)
  have D__law_row : Df K mg "_law_row" s__law_row P__law_row := Df.mk' l12 c12 k12 (fun F => F.binds fun _ _ _ _ _ _ us hl => match us, hl with | [_], _ => rfl) (PySem.W.mg_of X G a12)
  have D__law_case : Df K mg "_law_case" s__law_case P__law_case := Df.mk' l13 c13 k13 (fun F => F.binds fun _ _ _ _ _ _ us hl => match us, hl with | [_], _ => rfl) (PySem.W.mg_of X G a13)
  have D__law_tails : Df K mg "_law_tails" s__law_tails P__law_tails := Df.mk' l14 c14 k14 (fun F => F.binds fun _ _ _ _ _ _ us hl => match us, hl with | [_], _ => rfl) (PySem.W.mg_of X G a14)
  have D__law_fronts : Df K mg "_law_fronts" s__law_fronts P__law_fronts := Df.mk' l15 c15 k15 (fun F => F.binds fun _ _ _ _ _ _ us hl => match us, hl with | [_], _ => rfl) (PySem.W.mg_of X G a15)
  have D__law_built : Df K mg "_law_built" s__law_built P__law_built := Df.mk' l16 c16 k16 (fun F => F.binds fun _ _ _ _ _ _ us hl => match us, hl with | [_, _], _ => rfl) (PySem.W.mg_of X G a16)
  have D__law_refused : Df K mg "_law_refused" s__law_refused P__law_refused := Df.mk' l17 c17 k17 (fun F => F.binds fun _ _ _ _ _ _ us hl => match us, hl with | [_, _], _ => rfl) (PySem.W.mg_of X G a17)
  have D__law_apart : Df K mg "_law_apart" s__law_apart P__law_apart := Df.mk' l18 c18 k18 (fun F => F.binds fun _ _ _ _ _ _ us hl => match us, hl with | [_, _], _ => rfl) (PySem.W.mg_of X G a18)
  have D__law_fronted : Df K mg "_law_fronted" s__law_fronted P__law_fronted := Df.mk' l19 c19 k19 (fun F => F.binds fun _ _ _ _ _ _ us hl => match us, hl with | [_, _], _ => rfl) (PySem.W.mg_of X G a19)
  have D__law_both : Df K mg "_law_both" s__law_both P__law_both := Df.mk' l20 c20 k20 (fun F => F.binds fun _ _ _ _ _ _ us hl => match us, hl with | [_, _], _ => rfl) (PySem.W.mg_of X G a20)
  have D__law_sums : Df K mg "_law_sums" s__law_sums P__law_sums := Df.mk' l21 c21 k21 (fun F => F.binds fun _ _ _ _ _ _ us hl => match us, hl with | [_, _], _ => rfl) (PySem.W.mg_of X G a21)
  have D__law_products : Df K mg "_law_products" s__law_products P__law_products := Df.mk' l22 c22 k22 (fun F => F.binds fun _ _ _ _ _ _ us hl => match us, hl with | [_, _, _], _ => rfl) (PySem.W.mg_of X G a22)
  have D_law : Df K mg "law" s_law P_law := Df.mk' l23 c23 k23 (fun F => F.binds fun _ _ _ _ _ _ us hl => match us, hl with | [_], _ => rfl) (PySem.W.mg_of X G a23)
  have b_len : mg "len" = none := PySem.W.mg_none_of X G z0
  have b_int : mg "int" = none := PySem.W.mg_none_of X G z1
  have b_isinstance : mg "isinstance" = none := PySem.W.mg_none_of X G z2
  have b_bool : mg "bool" = none := PySem.W.mg_none_of X G z3
  have b_list : mg "list" = none := PySem.W.mg_none_of X G z4
  have b_tuple : mg "tuple" = none := PySem.W.mg_none_of X G z5
  have b_str : mg "str" = none := PySem.W.mg_none_of X G z6
  have b_range : mg "range" = none := PySem.W.mg_none_of X G z7
  have b_abs : mg "abs" = none := PySem.W.mg_none_of X G z8
  have b_reversed : mg "reversed" = none := PySem.W.mg_none_of X G z9
  have b_ValueError : mg "ValueError" = none := PySem.W.mg_none_of X G z10
  have m_gcd : mg "gcd" = some (.builtin "math.gcd") := PySem.W.mg_of X G xg
  have BC : BadC K mg C := ⟨e1, PySem.W.mg_of X G xC, e2, e3, e4⟩
  have OC : OthC K mg C PE c1_ c2_ c3_ c4_ c5_ c6_ c7_ d1_ d2_ d3_ d4_ d5_ d6_ := ⟨PySem.W.mg_of X G xP, PySem.W.mg_of X G xc1, PySem.W.mg_of X G xc2, PySem.W.mg_of X G xc3, PySem.W.mg_of X G xc4, PySem.W.mg_of X G xc5, PySem.W.mg_of X G xc6, PySem.W.mg_of X G xc7, PySem.W.mg_of X G xd1, PySem.W.mg_of X G xd2, PySem.W.mg_of X G xd3, PySem.W.mg_of X G xd4, PySem.W.mg_of X G xd5, PySem.W.mg_of X G xd6, u1, u2, u3, u4, PySem.W.exm_ref g1 g2 g3 g4, ⟨q1, q2, e3, q4, q5, q6, q7, q8⟩⟩
  refine ⟨PySem.W.fnOf "law" "law" (defArgs s_law) (defBody s_law) (defScope s_law) .none kV23 dc23 pm23 an23 cd23 ct23, fun s v => .of_eq rfl, fun base _ _ => ?_⟩
  have p__law_pool : Pr l.prog w K mg base "_law_pool" 1 P__law_pool (spPool K) := by apply ok_pool <;> assumption
  have p__law_take : Pr l.prog w K mg base "_law_take" 1 P__law_take (spTake K) := by apply ok_take <;> assumption
  have p__law_whole : Pr l.prog w K mg base "_law_whole" 1 P__law_whole (spWhole K) := by apply ok_whole <;> assumption
  have p_alike1 : Pr l.prog w K mg base "_law_alike" 3 P__law_alike (spAlike 1) := by refine ok_alike ?_ ?_ ?_ ?_ ?_ ?_ ?_ ?_ ?_ ?_ 1 <;> assumption
  have p_alike2 : Pr l.prog w K mg base "_law_alike" 4 P__law_alike (spAlike 2) := by refine ok_alike ?_ ?_ ?_ ?_ ?_ ?_ ?_ ?_ ?_ ?_ 2 <;> assumption
  obtain ⟨p_ratio, p_ratio1⟩ := ok_ratio (P := l.prog) (w := w) (base := base) D_ratio m_gcd
  have p_plus : Pr l.prog w K mg base "plus" 2 P_plus (spTwo K (fun a b => a + b)) := by apply ok_plus <;> assumption
  have p_minus : Pr l.prog w K mg base "minus" 2 P_minus (spTwo K (fun a b => a - b)) := by apply ok_minus <;> assumption
  have p_times : Pr l.prog w K mg base "times" 2 P_times (spTwo K (fun a b => a * b)) := by apply ok_times <;> assumption
  have p_over : Pr l.prog w K mg base "over" 2 P_over (spOver K) := by apply ok_over <;> assumption
  have p_ratioX := ok_ratioX (P := l.prog) (w := w) (base := base) BC D_ratio m_gcd
  have p_overX := ok_overX (P := l.prog) (w := w) (base := base) D_over p_ratioX
  have p__law_refused : Pr l.prog w K mg base "_law_refused" 3 P__law_refused (spRefused K) := ok_refused D__law_refused OC BC b_isinstance b_ValueError p_overX
  have p_opposite : Pr l.prog w K mg base "opposite" 1 P_opposite (spOpp K) := by apply ok_opposite <;> assumption
  have p_compare : Pr l.prog w K mg base "compare" 1 P_compare (spCmp K) := by apply ok_compare <;> assumption
  have p__law_lowest : Pr l.prog w K mg base "_law_lowest" 1 P__law_lowest (spLow K) := by apply ok_lowest <;> assumption
  have p__law_row : Pr l.prog w K mg base "_law_row" 2 P__law_row (spRow K) := by apply ok_row <;> assumption
  have p__law_case : Pr l.prog w K mg base "_law_case" 3 P__law_case (spCase K) := by apply ok_case <;> assumption
  have p__law_tails : Pr l.prog w K mg base "_law_tails" 1 P__law_tails (spTails K) := by apply ok_tails <;> assumption
  have p__law_fronts : Pr l.prog w K mg base "_law_fronts" 1 P__law_fronts (spFronts K) := by apply ok_fronts <;> assumption
  have p__law_built : Pr l.prog w K mg base "_law_built" 4 P__law_built (spChk K) := by apply ok_built <;> assumption
  have p__law_apart : Pr l.prog w K mg base "_law_apart" 4 P__law_apart (spChk K) := by apply ok_apart <;> assumption
  have p__law_fronted : Pr l.prog w K mg base "_law_fronted" 4 P__law_fronted (spChk K) := by apply ok_fronted <;> assumption
  have p__law_both : Pr l.prog w K mg base "_law_both" 3 P__law_both (spBoth K) := by apply ok_both <;> assumption
  have p__law_products : Pr l.prog w K mg base "_law_products" 4 P__law_products (spProd K) := by apply ok_products <;> assumption
  have p__law_sums : Pr l.prog w K mg base "_law_sums" 5 P__law_sums (spSums K) := by apply ok_sums <;> assumption
  have p_law : Pr l.prog w K mg base "law" 6 P_law (spLaw K) := by apply ok_law <;> assumption
  exact p_law.at (PySem.W.mg_of X G a23) l23
end Kf
open PySem PySem.W PyProof.Rows
set_option maxRecDepth 100000 in
set_option maxHeartbeats 0 in
theorem PySem.Challenge.cw_solvedpapers_k00_continued_fractions_holds : PySem.Challenge.rw_solvedpapers_k00_continued_fractions.Holds := by
  w_on; o_law; k_head; (case hw => w_witness2)
  k_fill
  refine L2.walk_of (l := PySem.Challenge.rw_solvedpapers_k00_continued_fractions) (n := 63) (k := 6) (x := "script") (CX := fun _ => L2.CX0) (sp := fun w => Kf.spLaw _) rfl (by decide) rfl ⟨rfl, by decide, by decide⟩ (fun w h Y => PySem.W.kIn_of Y) ?F (fun _ _ a ns hl _ hS => ⟨a, ns, rfl, hS, hl, fun _ => rfl⟩) (fun _ _ _ _ _ h => h)
  case F =>
    intro w mg fa h KX G hmg
    refine' Kf.all_mk KX G hmg ?a0 ?l0 ?c0 ?k0 ?a1 ?l1 ?c1 ?k1 ?a2 ?l2 ?c2 ?k2 ?a3 ?l3 ?c3 ?k3 ?a4 ?l4 ?c4 ?k4 ?a5 ?l5 ?c5 ?k5 ?a6 ?l6 ?c6 ?k6 ?a7 ?l7 ?c7 ?k7 ?a8 ?l8 ?c8 ?k8 ?a9 ?l9 ?c9 ?k9 ?a10 ?l10 ?c10 ?k10 ?a11 ?l11 ?c11 ?k11 ?a12 ?l12 ?c12 ?k12 ?a13 ?l13 ?c13 ?k13 ?a14 ?l14 ?c14 ?k14 ?a15 ?l15 ?c15 ?k15 ?a16 ?l16 ?c16 ?k16 ?a17 ?l17 ?c17 ?k17 ?a18 ?l18 ?c18 ?k18 ?a19 ?l19 ?c19 ?k19 ?a20 ?l20 ?c20 ?k20 ?a21 ?l21 ?c21 ?k21 ?a22 ?l22 ?c22 ?k22 ?a23 ?l23 ?c23 ?k23 ?lT ?xg ?xC ?xP ?xc1 ?xc2 ?xc3 ?xc4 ?xc5 ?xc6 ?xc7 ?xd1 ?xd2 ?xd3 ?xd4 ?xd5 ?xd6 ?e1 ?e2 ?e3 ?e4 ?u1 ?u2 ?u3 ?u4 ?g1 ?g2 ?g3 ?g4 ?q1 ?q2 ?q4 ?q5 ?q6 ?q7 ?q8 ?z0 ?z1 ?z2 ?z3 ?z4 ?z5 ?z6 ?z7 ?z8 ?z9 ?z10
    case a0 => k_is
    case l0 => k_is
    case c0 => k_is
    case k0 => k_is
    case a1 => k_is
    case l1 => k_is
    case c1 => k_is
    case k1 => k_is
    case a2 => k_is
    case l2 => k_is
    case c2 => k_is
    case k2 => k_is
    case a3 => k_is
    case l3 => k_is
    case c3 => k_is
    case k3 => k_is
    case a4 => k_is
    case l4 => k_is
    case c4 => k_is
    case k4 => k_is
    case a5 => k_is
    case l5 => k_is
    case c5 => k_is
    case k5 => k_is
    case a6 => k_is
    case l6 => k_is
    case c6 => k_is
    case k6 => k_is
    case a7 => k_is
    case l7 => k_is
    case c7 => k_is
    case k7 => k_is
    case a8 => k_is
    case l8 => k_is
    case c8 => k_is
    case k8 => k_is
    case a9 => k_is
    case l9 => k_is
    case c9 => k_is
    case k9 => k_is
    case a10 => k_is
    case l10 => k_is
    case c10 => k_is
    case k10 => k_is
    case a11 => k_is
    case l11 => k_is
    case c11 => k_is
    case k11 => k_is
    case a12 => k_is
    case l12 => k_is
    case c12 => k_is
    case k12 => k_is
    case a13 => k_is
    case l13 => k_is
    case c13 => k_is
    case k13 => k_is
    case a14 => k_is
    case l14 => k_is
    case c14 => k_is
    case k14 => k_is
    case a15 => k_is
    case l15 => k_is
    case c15 => k_is
    case k15 => k_is
    case a16 => k_is
    case l16 => k_is
    case c16 => k_is
    case k16 => k_is
    case a17 => k_is
    case l17 => k_is
    case c17 => k_is
    case k17 => k_is
    case a18 => k_is
    case l18 => k_is
    case c18 => k_is
    case k18 => k_is
    case a19 => k_is
    case l19 => k_is
    case c19 => k_is
    case k19 => k_is
    case a20 => k_is
    case l20 => k_is
    case c20 => k_is
    case k20 => k_is
    case a21 => k_is
    case l21 => k_is
    case c21 => k_is
    case k21 => k_is
    case a22 => k_is
    case l22 => k_is
    case c22 => k_is
    case k22 => k_is
    case a23 => k_is
    case l23 => k_is
    case c23 => k_is
    case k23 => k_is
    case lT => k_is
    case xg => k_is
    case xC => k_is
    case xP => k_is
    case xc1 => k_is
    case xc2 => k_is
    case xc3 => k_is
    case xc4 => k_is
    case xc5 => k_is
    case xc6 => k_is
    case xc7 => k_is
    case xd1 => k_is
    case xd2 => k_is
    case xd3 => k_is
    case xd4 => k_is
    case xd5 => k_is
    case xd6 => k_is
    case e1 => k_exc
    case e2 => k_is
    case e3 => k_is
    case e4 => k_is
    case u1 => kit_is
    case u2 => kit_is
    case u3 => kit_is
    case u4 => kit_is
    case g1 => k_is
    case g2 => k_is
    case g3 => k_is
    case g4 => k_is
    case q1 => k_is
    case q2 => k_is
    case q4 => k_is
    case q5 => k_is
    case q6 => k_is
    case q7 => k_is
    case q8 => k_is
    case z0 => k_is
    case z1 => k_is
    case z2 => k_is
    case z3 => k_is
    case z4 => k_is
    case z5 => k_is
    case z6 => k_is
    case z7 => k_is
    case z8 => k_is
    case z9 => k_is
    case z10 => k_is
#print axioms PySem.Challenge.cw_solvedpapers_k00_continued_fractions_holds


end