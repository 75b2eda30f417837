import PyProof.Rows.All
import Wide.All
import OpenK.AllK
import Wide.FinOn
import HandS.ForMost
import HandS.Sort
import HandS.SortInts
import HandS.More
import HandS.Flow
import HandS.Deep
import HandS.Codes
import HandS.IsInst
import HandS.Rev
import HandS.RevTup
import HandS.Gcd
import HandS.Wide
import HandS.WideBits
import KE.KDictList
import KE.KRevIter
import HandS.Defaults
import HandS.TryOnly
import HandS.ExcOwn
import HandS.ExcIs
import HandS.WordsExc
import PyProof.Rows.ChunkEnd
import HandS.DictComp
import PySem.Challenge.RW_solvedpapers_k08_number_of_the_trail
section
set_option Elab.async false
set_option linter.all false
set_option maxRecDepth 100000
set_option maxHeartbeats 4000000
namespace Kf
open PySem PySem.Spec PyProof.Rows L2
/-! ### a def of the module's top, its promise -/
structure Df (K : PySem.W.Frag) (mg : Str → Option Value) (x : Str) (st : Stmt) (ps : List Str) : Prop where
  ex : ∃ f fd, Fun K x x st f fd ∧ Binds K fd ps [] ∧ mg x = some (.ref f)
structure Pr (P : Program) (w : World) (K : PySem.W.Frag) (mg : Str → Option Value) (base : Heap) (x : Str) (k : Nat) (ps : List Str) (sp : Sp) : Prop where
  ex : ∃ f fd, FnOk P w K mg base CX0 k f fd ps sp ∧ Binds K fd ps [] ∧ PySem.W.keepIn K (.ref f) = true ∧ mg x = some (.ref f) ∧ ∃ oc od osl, K.lookup f = some ⟨oc, od, .func fd, osl⟩
section
variable {P : Program} {w : World} {K : PySem.W.Frag} {mg : Str → Option Value} {base : Heap} {x : Str} {st : Stmt} {ps N : List Str} {k j : Nat} {sp sp' : Sp}
theorem Df.ok (D : Df K mg x st ps) (S : FnScope N ps (defScope st)) (len : ∀ vs H Q E, sp vs H Q E → vs.length = ps.length)
    (hbody : ∀ (f : Addr) (cdv : Value) (A : Around) (outer : List Env) (s : Shared) (H : Hp) (vs : List V) (Q : VK) (E : XK), Room k (A.deeper (envOfC x (defScope st) s.heap.objs.size f cdv)) → sp vs H Q E →
      ∃ t, PSs (cxOf CX0 P w K mg base N x (defScope st) f cdv A outer s H E).nox (defBody st) t ∧ t { nx := fun _ H' => Q .non H', rt := Q } (start N vs) H) : Pr P w K mg base x (k + 1) ps sp := by
  obtain ⟨f, fd, F, b, g⟩ := D.ex
  obtain ⟨oc, od, kV, doc, pm, an, cdv, ct, osl, e, lk, hcd⟩ := F.ex
  exact ⟨f, fd, F.ok S len (hbody f), b, F.kp, g, oc, od, osl, lk⟩
theorem Pr.at {f : Addr} {fd : FuncData} {oc : Value} {od : Option Addr} {osl : Array (Option Value)} (p : Pr P w K mg base x k ps sp) (g : mg x = some (.ref f)) (l : K.lookup f = some ⟨oc, od, .func fd, osl⟩) : FnOk P w K mg base CX0 k f fd ps sp := by
  obtain ⟨f', fd', F, _, _, g', oc', od', osl', l'⟩ := p.ex
  rw [g] at g'
  cases g'
  rw [l] at l'
  cases l'
  exact F
theorem Df.mk' {f : Addr} {oc : Value} {od an : Option Addr} {osl : Array (Option Value)} {kV doc pm cdv ct : Value} (l : K.lookup f = some ⟨oc, od, .func (PySem.W.fnOf x x (defArgs st) (defBody st) (defScope st) .none kV doc pm an cdv ct), osl⟩)
    (c : PySem.W.codeIn K cdv x = true) (k : PySem.W.keepIn K (.ref f) = true) (b : ∀ F : Fun K x x st f (PySem.W.fnOf x x (defArgs st) (defBody st) (defScope st) .none kV doc pm an cdv ct), Binds K (PySem.W.fnOf x x (defArgs st) (defBody st) (defScope st) .none kV doc pm an cdv ct) ps [])
    (g : mg x = some (.ref f)) : Df K mg x st ps := ⟨f, _, fun_mk l c k, b (fun_mk l c k), g⟩
theorem Pr.mono (p : Pr P w K mg base x k ps sp) (h : k ≤ j) : Pr P w K mg base x j ps sp := by
  obtain ⟨f, fd, F, r⟩ := p.ex
  exact ⟨f, fd, F.mono h, r⟩
theorem Pr.imp (p : Pr P w K mg base x k ps sp) (h : ∀ vs H Q E, sp' vs H Q E → sp vs H Q E) : Pr P w K mg base x k ps sp' := by
  obtain ⟨f, fd, F, r⟩ := p.ex
  exact ⟨f, fd, F.imp h, r⟩
end
/-! ### calls -/
section
variable {X : Cx} {x : Str} {k j : Nat} {ps : List Str} {sp : Sp} {e : Expr} {es : List Expr} {t : TA} {p pos : Pos}
theorem pe_callP (pr : Pr X.prog X.w X.K X.mg X.base x k ps sp) (hr : Room j X.A) (ha : PA X (e :: es) t) (hk : k ≤ j := by decide) (hg : Gl X x := by rfl) (hd : (x == ("__debug__" : Str)) = false := by decide)
    (he : starEach (e :: es) X.env = (false, eval e X.env) :: starEach es X.env := by rfl) (hpl : (backTo pos (starEach es X.env)).any (·.1) = false := by rfl) : PE X (.Call (.Name x p) (e :: es) [] pos) (tCall sp [] E0 t) := by
  obtain ⟨f, fd, F, b, kp, g, _⟩ := pr.ex
  exact pe_call F (hr.mono hk) hg g kp b .nil pass0 ha hd he hpl
end
/-! ### the rules with the written part by its name -/
section
variable {X : Cx} {K : PySem.W.Frag}
theorem ix_listK (e : X.K = K) : IxR X (rIxL K) := by subst e; exact ix_list
theorem ix_tupK (e : X.K = K) : IxR X (rIxT K) := by subst e; exact ix_tup
theorem ix_seqK (e : X.K = K) : IxR X (rIx K) := by subst e; exact ix_seq
theorem sl_listK (e : X.K = K) : SlR X (rSlL K) := by subst e; exact sl_list
theorem sl_tupK (e : X.K = K) : SlR X (rSlT K) := by subst e; exact sl_tup
theorem call_lenK (e : X.K = K) : CallR X (.builtin "len") (fun xs H Q => ∃ x n, xs = [x] ∧ LenV K x H n ∧ Q (.int (n : Nat)) H) := by subst e; exact call_len
theorem op_in_seqK (e : X.K = K) : OpR X (compareOp .In) (rIn K false) := by subst e; exact op_in_seq
theorem op_notIn_seqK (e : X.K = K) : OpR X (compareOp .NotIn) (rIn K true) := by subst e; exact op_notIn_seq
theorem op_inDK (e : X.K = K) (hu : X.A.units + 65 < cLine) : OpR X (compareOp .In) (rInD K) := by subst e; exact op_inD hu
theorem op_notInDK (e : X.K = K) (hu : X.A.units + 65 < cLine) : OpR X (compareOp .NotIn) (rNotInD K) := by subst e; exact op_notInD hu
theorem op_eqDK (e : X.K = K) (hu : X.A.units + 64 < cLine) : OpR X (compareOp .Eq) (rEqD K) := by subst e; exact op_eqD hu
theorem op_neDK (e : X.K = K) (hu : X.A.units + 64 < cLine) : OpR X (compareOp .NotEq) (rNeD K) := by subst e; exact op_neD hu
theorem op_catTK (e : X.K = K) : OpR X (binaryOp .Add) (rCatT K) := by subst e; exact op_catT
theorem call_isiK1 (e : X.K = K) : CallR X (.builtin "isinstance") (rIsi K) := by subst e; exact call_isi
theorem cr_sortedPK (e : X.K = K) : CallR X (.builtin "sorted") (rSortedP K) := by subst e; exact cr_sortedP
theorem cr_sortedIK (e : X.K = K) : CallR X (.builtin "sorted") (rSortedI K) := by subst e; exact cr_sortedI
theorem call_list_ofK (e : X.K = K) : CallR X (.type "list") (fun xs H Q => ∃ p ys, xs = [.ref p] ∧ (SqL K H p ys ∨ SqT K H p ys) ∧ ∀ l, H l = none → Q (.ref l) (upd H l (.lst ys))) := by subst e; exact call_list_of
theorem call_tuple_ofK (e : X.K = K) : CallR X (.type "tuple") (fun xs H Q => ∃ p ys, xs = [.ref p] ∧ ((SqL K H p ys ∧ ∀ l, H l = none → Q (.ref l) (upd H l (.tup ys))) ∨ (SqT K H p ys ∧ Q (.ref p) H))) := by subst e; exact call_tuple_of
theorem pi_listK {tg l : Expr} {tl : TE} (e : X.K = K) (hl : PE X l tl) : PI X tg l (iList K tl) := by subst e; exact pi_list hl
theorem pi_tupK {tg l : Expr} {tl : TE} (e : X.K = K) (hl : PE X l tl) : PI X tg l (iTup K tl) := by subst e; exact pi_tup hl
/-- a list or a tuple is walked -/
def iSeq (K : PySem.W.Frag) (tl : TE) : TI := fun σ H R => tl σ H fun x H1 => ∃ a, x = .ref a ∧ (((∃ xs, SqL K H1 a xs) ∧ R (Itl K a) H1) ∨ ((∃ xs, SqT K H1 a xs) ∧ R (Itt K a) H1))
theorem pi_seqK {tg l : Expr} {tl : TE} (e : X.K = K) (hl : PE X l tl) : PI X tg l (iSeq K tl) := by
  subst e
  refine ⟨fun pins s σ H R I h => ?_⟩
  refine thn (hl.run pins s σ H _ I h) fun v s1 ⟨x, H1, I1, r1, q1⟩ => ?_
  obtain ⟨a, e, q⟩ := q1
  subst e
  cases r1
  rcases q with ⟨⟨xs, hq⟩, q⟩ | ⟨⟨xs, hq⟩, q⟩
  · obtain ⟨its, rv, p, hz⟩ := I1.list hq
    refine wpAny_pyIter_list p.isList ?_
    refine ⟨s1.heap.objs.size, [s1.heap.objs.size], _, _, H1, rfl, I1.kept (t' := s1.toks) fun b o e => Heap.get?_push_of_some _ e, turn_list a _, ⟨_, Heap.get?_push_size _ rfl, rfl, rfl⟩, fun b hb => ?_, q⟩
    have e : b = s1.heap.objs.size := by simpa using hb
    subst e
    exact I1.fpOk (Nat.le_refl _) (I1.hok.fresh (Nat.le_refl _))
  · obtain ⟨its, rv, p, hz⟩ := I1.tuple hq
    refine wpAny_pyIter_tuple (show s1.heap.IsTuple a its.toArray from p) ?_
    refine ⟨s1.heap.objs.size, [s1.heap.objs.size], _, _, H1, rfl, I1.kept (t' := s1.toks) fun b o e => Heap.get?_push_of_some _ e, turn_tuple a _, ⟨_, Heap.get?_push_size _ rfl, rfl, rfl⟩, fun b hb => ?_, q⟩
    have e : b = s1.heap.objs.size := by simpa using hb
    subst e
    exact I1.fpOk (Nat.le_refl _) (I1.hok.fresh (Nat.le_refl _))
theorem pe_bmK {o e : Expr} {es : List Expr} {name : Str} {id T : String} {r : V → List V → Hp → VK → Prop} {to : TE} {t : TA} {apos cpos : Pos} (ek : X.K = K) (pa : PlainAttrs T) (slot : Slot T name id) (hty : typeOf (.builtin id) = pure (.type "method_descriptor")) (hm : MtR X id r) (ho : PE X o to) (ha : PA X (e :: es) t)
    (hbase : attributeBase o name X.env (eval o X.env) = eval o X.env := by rfl)
    (hfew : ((backTo cpos (starEach (e :: es) X.env)).all (fun x => !x.1) && (backToKw cpos (keywordEach [] X.env)).all (fun x => x.1.isSome)
      && decide ((e :: es).length + ([] : List Keyword).length + (if ([] : List Keyword).isEmpty then 0 else 1) < 30)) = true := by rfl)
    (hline : (apos.endLine == cpos.line) = true := by rfl) (hs : starEach (e :: es) X.env = (false, eval e X.env) :: starEach es X.env := by rfl) (hplain : (backTo cpos (starEach es X.env)).any (·.1) = false := by rfl) :
    PE X (.Call (.Attribute o name apos) (e :: es) [] cpos) (tBM K T r to t) := by subst ek; exact pe_bm pa slot hty hm ho ha hbase hfew hline hs hplain
end
/-! ### heaps -/
theorem upd_old {H : Hp} {a p : Addr} {o u : HO} (n : H p = none) (h : H a = some o) : upd H p u a = some o := by
  rw [upd_ne (ne_of_none h n)]; exact h
theorem upd_oth {H : Hp} {a p : Addr} {o u : HO} (n : a ≠ p) (h : H a = some o) : upd H p u a = some o := by
  rw [upd_ne n]; exact h
theorem Same.new {H : Hp} {p : Addr} {o : HO} (n : H p = none) : Same H (upd H p o) := fun _ _ e => upd_old n e
theorem _root_.L2.Same.at {H H' : Hp} {a : Addr} {o : HO} (e : Same H H') (h : H a = some o) : H' a = some o := e a o h
/-- a pool of numbers: [cell, count, great, spare] -/
def Pl (o : HO) : Prop := ∃ c k b s, o = .lst [.int c, .int k, .bl b, .int s]
/-- all stands as before, but that pools may have been drawn from -/
def Ext (H H' : Hp) : Prop := ∀ b o, H b = some o → (¬ Pl o → H' b = some o) ∧ (Pl o → ∃ o', Pl o' ∧ H' b = some o')
theorem Ext.refl {H : Hp} : Ext H H := fun _ _ e => ⟨fun _ => e, fun h => ⟨_, h, e⟩⟩
theorem Ext.of {H H' : Hp} (s : Same H H') : Ext H H' := fun b o e => ⟨fun _ => s b o e, fun h => ⟨_, h, s b o e⟩⟩
theorem Ext.trans {H H1 H2 : Hp} (a : Ext H H1) (b : Ext H1 H2) : Ext H H2 := fun c o e => by
  by_cases h : Pl o
  · obtain ⟨o', p, e'⟩ := (a c o e).2 h
    obtain ⟨o'', p', e''⟩ := (b c o' e').2 p
    exact ⟨fun n => absurd h n, fun _ => ⟨_, p', e''⟩⟩
  · exact ⟨fun n => (b c o ((a c o e).1 n)).1 n, fun z => absurd z h⟩
theorem Ext.new {H : Hp} {p : Addr} {o : HO} (n : H p = none) : Ext H (upd H p o) := Ext.of (Same.new n)
theorem Ext.pool {H : Hp} {p : Addr} {o o' : HO} (h : H p = some o) (q : Pl o) (q' : Pl o') : Ext H (upd H p o') := fun b u e => by
  by_cases hb : b = p
  · subst hb
    rw [h] at e; cases e
    exact ⟨fun n => absurd q n, fun _ => ⟨_, q', upd_same⟩⟩
  · rw [upd_ne hb]
    exact ⟨fun _ => e, fun z => ⟨_, z, e⟩⟩
theorem Ext.get {H H' : Hp} {b : Addr} {o : HO} (e : Ext H H') (h : H b = some o) (n : ¬ Pl o) : H' b = some o := (e b o h).1 n
theorem Ext.non {H H' : Hp} (e : Ext H H') {l : Addr} (h : H' l = none) : H l = none := by
  cases q : H l with
  | none => rfl
  | some o =>
    by_cases z : Pl o
    · obtain ⟨o', _, e'⟩ := (e l o q).2 z
      rw [h] at e'; cases e'
    · rw [(e l o q).1 z] at h; cases h
/-- an unlike list is no pool -/
def isPl : HO → Bool
  | .lst [.int _, .int _, .bl _, .int _] => true
  | _ => false
theorem pl_iff {o : HO} : Pl o ↔ isPl o = true := by
  constructor
  · rintro ⟨c, k, b, s, rfl⟩; rfl
  · intro h
    unfold isPl at h
    split at h
    · exact ⟨_, _, _, _, rfl⟩
    · cases h
theorem npl {o : HO} (h : isPl o = false) : ¬ Pl o := fun z => by rw [pl_iff.mp z] at h; cases h
theorem npl_ints (ns : List Int) : ¬ Pl (.lst (ns.map V.int)) := by
  rintro ⟨c, k, b, s, e⟩
  have e := HO.lst.inj e
  match ns, e with
  | [], e => cases e
  | [_], e => cases e
  | [_, _], e => cases e
  | _ :: _ :: _ :: _, e =>
    simp only [List.map_cons, List.cons.injEq] at e
    exact absurd e.2.2.1 (by intro z; cases z)
theorem npl_refs (ns : List Addr) : ¬ Pl (.lst (ns.map V.ref)) := by
  rintro ⟨c, k, b, s, e⟩
  have e := HO.lst.inj e
  match ns, e with
  | [], e => cases e
  | _ :: _, e =>
    simp only [List.map_cons, List.cons.injEq] at e
    exact absurd e.1 (by intro z; cases z)
/-- a pool stands at v -/
def PoolAt (H : Hp) (v : V) : Prop := ∃ a c k b s, v = .ref a ∧ H a = some (.lst [.int c, .int k, .bl b, .int s])
theorem PoolAt.ext {H H' : Hp} {v : V} (h : PoolAt H v) (e : Ext H H') : PoolAt H' v := by
  obtain ⟨a, c, k, b, s, rfl, h⟩ := h
  obtain ⟨o', ⟨c', k', b', s', rfl⟩, h'⟩ := (e a _ h).2 ⟨_, _, _, _, rfl⟩
  exact ⟨a, c', k', b', s', rfl, h'⟩
/-- what is read stands -/
theorem Ext.seqL {K : PySem.W.Frag} {H H' : Hp} {a : Addr} {xs : List V} (e : Ext H H') (h : SqL K H a xs) (n : ¬ Pl (.lst xs)) : SqL K H' a xs := by
  rcases h with (h | ⟨o, h⟩) | h
  · exact .inl (.inl (e.get h n))
  · exact .inl (.inr ⟨o, e.get h (npl rfl)⟩)
  · exact .inr h
theorem Ext.seqT {K : PySem.W.Frag} {H H' : Hp} {a : Addr} {xs : List V} (e : Ext H H') (h : SqT K H a xs) : SqT K H' a xs := by
  rcases h with (h | ⟨o, h⟩) | h
  · exact .inl (.inl (e.get h (npl rfl)))
  · exact .inl (.inr ⟨o, e.get h (npl rfl)⟩)
  · exact .inr h
/-! ### lists of ints, tuples of ints -/
def LsI (K : PySem.W.Frag) (H : Hp) (v : V) (ns : List Int) : Prop := ∃ a, v = .ref a ∧ SqL K H a (ns.map V.int)
def TpI (K : PySem.W.Frag) (H : Hp) (v : V) (ns : List Int) : Prop := ∃ a, v = .ref a ∧ SqT K H a (ns.map V.int)
theorem LsI.ext {K : PySem.W.Frag} {H H' : Hp} {v : V} {ns : List Int} (h : LsI K H v ns) (e : Ext H H') : LsI K H' v ns := by
  obtain ⟨a, rfl, h⟩ := h
  exact ⟨a, rfl, e.seqL h (npl_ints ns)⟩
theorem TpI.ext {K : PySem.W.Frag} {H H' : Hp} {v : V} {ns : List Int} (h : TpI K H v ns) (e : Ext H H') : TpI K H' v ns := by
  obtain ⟨a, rfl, h⟩ := h
  exact ⟨a, rfl, e.seqT h⟩
theorem hD_of {A : Around} {k : Nat} (hr : Room k A) : A.units + 65 < cLine := by have := hr.un; omega


/-! ### one object left out; own objects -/
def del (H : Hp) (D : Addr) : Hp := fun b => if b = D then none else H b
theorem del_same {H : Hp} {D : Addr} : del H D D = none := by unfold del; rw [if_pos rfl]
theorem del_ne {H : Hp} {D b : Addr} (h : b ≠ D) : del H D b = H b := by unfold del; rw [if_neg h]
theorem del_at {H : Hp} {D b : Addr} {o : HO} (h : H b = some o) (n : b ≠ D) : del H D b = some o := by rw [del_ne n]; exact h
theorem of_del {H : Hp} {D b : Addr} {o : HO} (h : del H D b = some o) : b ≠ D ∧ H b = some o := by
  by_cases e : b = D
  · subst e; rw [del_same] at h; cases h
  · rw [del_ne e] at h; exact ⟨e, h⟩
theorem del_sub {H : Hp} {D : Addr} : Ext (del H D) H := Ext.of fun _ _ e => (of_del e).2
theorem del_upd {H : Hp} {D : Addr} {o : HO} : del (upd H D o) D = del H D := by
  funext b; unfold del
  by_cases e : b = D
  · rw [if_pos e, if_pos e]
  · rw [if_neg e, if_neg e, upd_ne e]
theorem del_new {H : Hp} {D : Addr} (h : H D = none) : del H D = H := by
  funext b; unfold del
  by_cases e : b = D
  · rw [if_pos e, e, h]
  · rw [if_neg e]
theorem Ext.del {H H' : Hp} {D : Addr} (e : Ext H H') : Ext (del H D) (del H' D) := fun b o h => by
  obtain ⟨n, h⟩ := of_del h
  rw [del_ne n]
  exact e b o h
theorem Ext.own {H0 H : Hp} {l : Addr} {o : HO} (e : Ext H0 H) (n : H0 l = none) : Ext H0 (upd H l o) := fun b u h => by
  rw [upd_ne (ne_of_none h n)]
  exact e b u h
theorem Ext.newer {H0 H : Hp} {l : Addr} {o : HO} (e : Ext H0 H) (n : H l = none) : Ext H0 (upd H l o) := e.own (e.non n)
theorem npl_nil : ¬ Pl (.lst []) := npl rfl
theorem npl_one (ns : List Int) (v : Int) : ¬ Pl (.lst (ns.map V.int ++ [.int v])) := by
  have e : ns.map V.int ++ [V.int v] = (ns ++ [v]).map V.int := by simp
  rw [e]; exact npl_ints _
/-- the comprehension's list at D behind i turns -/
def LcP (H : Hp) (D : Addr) (R : Nat → List V → Hp → Prop) (i : Nat) (H' : Hp) : Prop := ∃ acc, H' D = some (.lst acc) ∧ Ext H H' ∧ R i acc (del H' D)
theorem LcP.put {H H1 H4 : Hp} {D : Addr} {R : Nat → List V → Hp → Prop} {i : Nat} {acc : List V} {y : V} (hD : H D = none) (h1 : H1 D = some (.lst acc)) (np : ¬ Pl (.lst acc)) (e1 : Ext H H1) (e4 : Ext H1 H4) (hl : acc.length ≤ 1000)
    (r : R (i + 1) (acc ++ [y]) (del H4 D)) : ∃ acc, H4 D = some (.lst acc) ∧ acc.length < sizeLine ∧ LcP H D R (i + 1) (upd H4 D (.lst (acc ++ [y]))) :=
  ⟨acc, e4.get h1 np, small1000 hl, acc ++ [y], upd_same, (e1.trans e4).own hD, by rw [del_upd]; exact r⟩
theorem LcP.skip {H H1 H4 : Hp} {D : Addr} {R : Nat → List V → Hp → Prop} {i : Nat} {acc : List V} (h1 : H1 D = some (.lst acc)) (np : ¬ Pl (.lst acc)) (e1 : Ext H H1) (e4 : Ext H1 H4) (r : R (i + 1) acc (del H4 D)) : LcP H D R (i + 1) H4 :=
  ⟨acc, e4.get h1 np, e1.trans e4, r⟩
theorem lc_r {lo : Int} {n : Nat} {g : TG} {tt : TT} {te : TE} {vs : List Nat} {σ : L2.St} {H : Hp} {Qd : Addr → Hp → Prop} (R : Nat → List V → Hp → Prop) (h0 : R 0 [] H) (mono : ∀ i acc H1 H2, Ext H1 H2 → R i acc H1 → R i acc H2)
    (hs : ∀ i acc D H1, i < n → H D = none → H1 D = some (.lst acc) → Ext H H1 → R i acc (del H1 D) → g (.int (lo + i)) (wipe σ vs) H1 fun σ2 H2 => wipe σ2 vs = wipe σ vs ∧ tt σ2 H2 fun b H3 =>
      if b = true then te σ2 H3 fun y H4 => ∃ acc, H4 D = some (.lst acc) ∧ acc.length < sizeLine ∧ LcP H D R (i + 1) (upd H4 D (.lst (acc ++ [y]))) else LcP H D R (i + 1) H3)
    (hd : ∀ D acc H1, H D = none → H1 D = some (.lst acc) → Ext H H1 → R n acc H1 → Qd D H1) :
    ∀ D, H D = none → ∃ W : Nat → Nat → Hp → Prop, (∃ m, W 0 m (upd H D (.lst []))) ∧ ∀ i m H, W i m H →
      ((Itr lo n).stop i H ∧ Qd D H) ∨ ((Itr lo n).go i H ∧ ∃ Nx : Hp → Prop, (∀ H', Nx H' → ∃ m', m' < m ∧ W (i + 1) m' H') ∧ ∀ x H', (Itr lo n).yld i H x H' → g x (wipe σ vs) H' fun σ2 H2 => wipe σ2 vs = wipe σ vs ∧ tt σ2 H2 fun b H3 =>
        if b = true then te σ2 H3 fun y H4 => ∃ acc, H4 D = some (.lst acc) ∧ acc.length < sizeLine ∧ Nx (upd H4 D (.lst (acc ++ [y]))) else Nx H3) := fun D hD =>
  lc_range (Pv := LcP H D R) (Qd := Qd D) ⟨[], upd_same, Ext.new hD, by rw [del_upd, del_new hD]; exact h0⟩ (fun i H1 hi ⟨acc, h1, e1, r1⟩ => hs i acc D H1 hi hD h1 e1 r1)
    (fun H1 ⟨acc, h1, e1, r1⟩ => hd D acc H1 hD h1 e1 (mono _ _ _ _ del_sub r1))
theorem lc_l {K : PySem.W.Frag} {a : Addr} {xs : List V} {g : TG} {tt : TT} {te : TE} {vs : List Nat} {σ : L2.St} {H : Hp} {Qd : Addr → Hp → Prop} (R : Nat → List V → Hp → Prop) (hl : SqL K H a xs) (nx : ¬ Pl (.lst xs)) (h0 : R 0 [] H) (mono : ∀ i acc H1 H2, Ext H1 H2 → R i acc H1 → R i acc H2)
    (hs : ∀ i x acc D H1, xs[i]? = some x → H D = none → H1 D = some (.lst acc) → Ext H H1 → R i acc (del H1 D) → g x (wipe σ vs) H1 fun σ2 H2 => wipe σ2 vs = wipe σ vs ∧ tt σ2 H2 fun b H3 =>
      if b = true then te σ2 H3 fun y H4 => ∃ acc, H4 D = some (.lst acc) ∧ acc.length < sizeLine ∧ LcP H D R (i + 1) (upd H4 D (.lst (acc ++ [y]))) else LcP H D R (i + 1) H3)
    (hd : ∀ D acc H1, H D = none → H1 D = some (.lst acc) → Ext H H1 → R xs.length acc H1 → Qd D H1) :
    ∀ D, H D = none → ∃ W : Nat → Nat → Hp → Prop, (∃ m, W 0 m (upd H D (.lst []))) ∧ ∀ i m H, W i m H →
      ((Itl K a).stop i H ∧ Qd D H) ∨ ((Itl K a).go i H ∧ ∃ Nx : Hp → Prop, (∀ H', Nx H' → ∃ m', m' < m ∧ W (i + 1) m' H') ∧ ∀ x H', (Itl K a).yld i H x H' → g x (wipe σ vs) H' fun σ2 H2 => wipe σ2 vs = wipe σ vs ∧ tt σ2 H2 fun b H3 =>
        if b = true then te σ2 H3 fun y H4 => ∃ acc, H4 D = some (.lst acc) ∧ acc.length < sizeLine ∧ Nx (upd H4 D (.lst (acc ++ [y]))) else Nx H3) := fun D hD =>
  lc_list (K := K) (a := a) (xs := xs) (Pv := LcP H D R) (Qd := Qd D) ⟨[], upd_same, Ext.new hD, by rw [del_upd, del_new hD]; exact h0⟩ (fun i H1 _ ⟨_, _, e1, _⟩ => e1.seqL hl nx) (fun i x H1 hi ⟨acc, h1, e1, r1⟩ => hs i x acc D H1 hi hD h1 e1 r1)
    (fun H1 ⟨acc, h1, e1, r1⟩ => hd D acc H1 hD h1 e1 (mono _ _ _ _ del_sub r1))
theorem lc_t {K : PySem.W.Frag} {a : Addr} {xs : List V} {g : TG} {tt : TT} {te : TE} {vs : List Nat} {σ : L2.St} {H : Hp} {Qd : Addr → Hp → Prop} (R : Nat → List V → Hp → Prop) (hl : SqT K H a xs) (h0 : R 0 [] H) (mono : ∀ i acc H1 H2, Ext H1 H2 → R i acc H1 → R i acc H2)
    (hs : ∀ i x acc D H1, xs[i]? = some x → H D = none → H1 D = some (.lst acc) → Ext H H1 → R i acc (del H1 D) → g x (wipe σ vs) H1 fun σ2 H2 => wipe σ2 vs = wipe σ vs ∧ tt σ2 H2 fun b H3 =>
      if b = true then te σ2 H3 fun y H4 => ∃ acc, H4 D = some (.lst acc) ∧ acc.length < sizeLine ∧ LcP H D R (i + 1) (upd H4 D (.lst (acc ++ [y]))) else LcP H D R (i + 1) H3)
    (hd : ∀ D acc H1, H D = none → H1 D = some (.lst acc) → Ext H H1 → R xs.length acc H1 → Qd D H1) :
    ∀ D, H D = none → ∃ W : Nat → Nat → Hp → Prop, (∃ m, W 0 m (upd H D (.lst []))) ∧ ∀ i m H, W i m H →
      ((Itt K a).stop i H ∧ Qd D H) ∨ ((Itt K a).go i H ∧ ∃ Nx : Hp → Prop, (∀ H', Nx H' → ∃ m', m' < m ∧ W (i + 1) m' H') ∧ ∀ x H', (Itt K a).yld i H x H' → g x (wipe σ vs) H' fun σ2 H2 => wipe σ2 vs = wipe σ vs ∧ tt σ2 H2 fun b H3 =>
        if b = true then te σ2 H3 fun y H4 => ∃ acc, H4 D = some (.lst acc) ∧ acc.length < sizeLine ∧ Nx (upd H4 D (.lst (acc ++ [y]))) else Nx H3) := fun D hD =>
  lc_tup (K := K) (a := a) (xs := xs) (Pv := LcP H D R) (Qd := Qd D) ⟨[], upd_same, Ext.new hD, by rw [del_upd, del_new hD]; exact h0⟩ (fun i H1 _ ⟨_, _, e1, _⟩ => e1.seqT hl) (fun i x H1 hi ⟨acc, h1, e1, r1⟩ => hs i x acc D H1 hi hD h1 e1 r1)
    (fun H1 ⟨acc, h1, e1, r1⟩ => hd D acc H1 hD h1 e1 (mono _ _ _ _ del_sub r1))
theorem PoolAt.upd {H : Hp} {v : V} {l : Addr} {o0 o : HO} (h : PoolAt H v) (hl : H l = some o0) (n : ¬ Pl o0) : PoolAt (upd H l o) v := by
  obtain ⟨a, c, k, b, s, rfl, h⟩ := h
  refine ⟨a, c, k, b, s, rfl, ?_⟩
  rw [upd_ne (fun e => n (by subst e; rw [hl] at h; cases h; exact ⟨_, _, _, _, rfl⟩))]
  exact h
/-! ### the readings, step by step -/
section
variable {σ : L2.St} {H : Hp} {Q : VK} {QB : Bool → Hp → Prop} {QL : List V → Hp → Prop} {QS : L2.St → Hp → Prop} {D : Ends} {K : PySem.W.Frag}
theorem w_var {i : Nat} {v : V} (h : σ[i]? = some (some v)) (q : Q v H) : tVar i σ H Q := ⟨v, h, q⟩
theorem w_c {v : V} (q : Q v H) : tC v σ H Q := q
theorem w_op {r : R2} {ta tb : TE} (h : ta σ H fun x H1 => tb σ H1 fun y H2 => r x y H2 Q) : tOp r ta tb σ H Q := h
theorem w_un {r : V → Hp → VK → Prop} {ta : TE} (h : ta σ H fun x H1 => r x H1 Q) : tUn r ta σ H Q := h
theorem w_rU {g : Int → V} {i : Int} (q : Q (g i) H) : rU g (.int i) H Q := ⟨i, rfl, q⟩
theorem w_rI0 {g : Int → Int → V} {i j : Int} (q : Q (g i j) H) : rI0 g (.int i) (.int j) H Q := ⟨i, j, rfl, rfl, q⟩
theorem w_rI {C : Int → Int → Prop} {g : Int → Int → V} {i j : Int} (c : C i j) (q : Q (g i j) H) : rI C g (.int i) (.int j) H Q := ⟨i, j, rfl, rfl, c, q⟩
theorem w_rEq {x y : V} (s : scal x y = true) (q : Q (.bl (decide (x = y))) H) : rEq x y H Q := ⟨s, q⟩
theorem w_rNe {x y : V} (s : scal x y = true) (q : Q (.bl (!decide (x = y))) H) : rNe x y H Q := ⟨s, q⟩
theorem w_seq {t u : TS} (h : t { D with nx := u D } σ H) : tSeq t u D σ H := h
theorem w_cut {t u : TS} (Mid : L2.St → Hp → Prop) (h : t { D with nx := Mid } σ H) (h2 : ∀ σ' H', Mid σ' H' → u D σ' H') : C8.tCut t u D σ H := ⟨Mid, h, h2⟩
theorem w_next (h : D.nx σ H) : tNext D σ H := h
theorem w_break (h : D.bk σ H) : tBreak D σ H := h
theorem w_cont (h : D.ct σ H) : tCont D σ H := h
theorem w_asg {te : TE} {g : TG} (h : te σ H fun x H1 => g x σ H1 D.nx) : tAsg te g D σ H := h
theorem w_gname {i : Nat} {v : V} {σ' : L2.St} (e : σ.set i (some v) = σ') (h : QS σ' H) : gName i v σ H QS := by subst e; exact h
theorem w_aug {i : Nat} {te : TE} {ti : TIp} {x : V} (h0 : σ[i]? = some (some x)) (h : te σ H fun y H1 => ti x y H1 fun z H2 => D.nx (σ.set i (some z)) H2) : tAug i te ti D σ H := ⟨x, h0, h⟩
theorem w_ipI {f : Int → Int → Int} {i j : Int} (q : Q (.int (f i j)) H) : ipI f (.int i) (.int j) H Q := ⟨i, j, rfl, rfl, q⟩
theorem w_ret {te : TE} (h : te σ H D.rt) : tRet te D σ H := h
theorem w_retN (h : D.rt .non H) : tRetN D σ H := h
theorem w_drop {te : TE} (h : te σ H fun _ H1 => D.nx σ H1) : tDrop te D σ H := h
theorem w_ifS {c : TT} {t u : TS} (h : c σ H fun b H1 => if b = true then t D σ H1 else u D σ H1) : tIfS c t u D σ H := h
theorem w_tTest {t : TE} (h : t σ H fun x H' => ∃ k, x = .bl k ∧ QB k H') : tTest t σ H QB := h
theorem w_tB {t : TE} (h : t σ H fun x H' => ∃ k, x = .bl k ∧ QB k H') : tB t σ H QB := h
theorem w_exbl {b : Bool} {p : Bool → Prop} (h : p b) : ∃ k, V.bl b = V.bl k ∧ p k := ⟨b, rfl, h⟩
theorem w_and {t u : TT} (h : t σ H fun c H1 => if c = true then u σ H1 QB else QB false H1) : tAnd t u σ H QB := h
theorem w_or {t u : TT} (h : t σ H fun c H1 => if c = true then QB true H1 else u σ H1 QB) : tOr t u σ H QB := h
theorem w_not {t : TT} (h : t σ H fun c H1 => QB (!c) H1) : tNot t σ H QB := h
theorem w_andV {ta tb : TE} (h : ta σ H fun x H1 => ∃ c, x = .bl c ∧ if c = true then tb σ H1 Q else Q (.bl false) H1) : tAndV ta tb σ H Q := h
theorem w_orV {ta tb : TE} (h : ta σ H fun x H1 => ∃ c, x = .bl c ∧ if c = true then Q (.bl true) H1 else tb σ H1 Q) : tOrV ta tb σ H Q := h
theorem w_notV {ta : TE} (h : ta σ H fun x H1 => ∃ c, x = .bl c ∧ Q (.bl (!c)) H1) : tNotV ta σ H Q := h
theorem w_if {t : TT} {ta tb : TE} (h : t σ H fun c H1 => if c = true then ta σ H1 Q else tb σ H1 Q) : tIf t ta tb σ H Q := h
theorem w_lc {wi : TI} {g : TG} {tt : TT} {te : TE} {vs : List Nat} (h : wi σ H fun J H1 => ∀ D, H1 D = none → ∃ W : Nat → Nat → Hp → Prop, (∃ m, W 0 m (upd H1 D (.lst []))) ∧ ∀ i m H, W i m H →
      (J.stop i H ∧ Q (.ref D) H) ∨ (J.go i H ∧ ∃ Nx : Hp → Prop, (∀ H', Nx H' → ∃ m', m' < m ∧ W (i + 1) m' H') ∧ ∀ x H', J.yld i H x H' → g x (wipe σ vs) H' fun σ2 H2 => wipe σ2 vs = wipe σ vs ∧ tt σ2 H2 fun b H3 =>
        if b = true then te σ2 H3 fun y H4 => ∃ acc, H4 D = some (.lst acc) ∧ acc.length < sizeLine ∧ Nx (upd H4 D (.lst (acc ++ [y]))) else Nx H3)) : tLc wi g tt te vs σ H Q := h
theorem w_for {wi : TI} {g : TG} {tb : TS} (h : wi σ H fun J H1 => ∃ W : Nat → Nat → L2.St → Hp → Prop, (∃ m, W 0 m σ H1) ∧ ∀ i m σ H, W i m σ H →
      (J.stop i H ∧ D.nx σ H) ∨ (J.go i H ∧ ∃ N : L2.St → Hp → Prop, (∀ σ' H', N σ' H' → ∃ m', m' < m ∧ W (i + 1) m' σ' H') ∧ ∀ x H', J.yld i H x H' → g x σ H' fun σ2 H2 => tb { D with nx := N, ct := N, bk := D.nx } σ2 H2)) : tFor wi g tb D σ H := h
theorem w_rng1 {ta : TA} {R : It → Hp → Prop} (h : ta σ H fun vs H1 => ∃ j : Int, vs = [.int j] ∧ -(2 ^ 62) ≤ j ∧ j < 2 ^ 62 ∧ R (Itr 0 j.toNat) H1) : iRng1 ta σ H R := h
theorem w_rng1x {j : Int} {p : Int → Prop} (h0 : -4611686018427387904 ≤ j) (h1 : j < 4611686018427387904) (q : p j) : ∃ k : Int, [V.int j] = [.int k] ∧ -(2 ^ 62) ≤ k ∧ k < 2 ^ 62 ∧ p k := ⟨j, rfl, by omega, by omega, q⟩
theorem w_ilist {tl : TE} {R : It → Hp → Prop} (h : tl σ H fun x H1 => ∃ a, x = .ref a ∧ (∃ xs, SqL K H1 a xs) ∧ R (Itl K a) H1) : iList K tl σ H R := h
theorem w_itup {tl : TE} {R : It → Hp → Prop} (h : tl σ H fun x H1 => ∃ a, x = .ref a ∧ (∃ xs, SqT K H1 a xs) ∧ R (Itt K a) H1) : iTup K tl σ H R := h
theorem w_iseq {tl : TE} {R : It → Hp → Prop} (h : tl σ H fun x H1 => ∃ a, x = .ref a ∧ (((∃ xs, SqL K H1 a xs) ∧ R (Itl K a) H1) ∨ ((∃ xs, SqT K H1 a xs) ∧ R (Itt K a) H1))) : iSeq K tl σ H R := h
theorem w_ilistx {a : Addr} {xs : List V} {p : Addr → Prop} (h : SqL K H a xs) (q : p a) : ∃ b, V.ref a = .ref b ∧ (∃ xs, SqL K H b xs) ∧ p b := ⟨a, rfl, ⟨xs, h⟩, q⟩
theorem w_itupx {a : Addr} {xs : List V} {p : Addr → Prop} (h : SqT K H a xs) (q : p a) : ∃ b, V.ref a = .ref b ∧ (∃ xs, SqT K H b xs) ∧ p b := ⟨a, rfl, ⟨xs, h⟩, q⟩
theorem w_wipe {σ' : L2.St} {vs : List Nat} {p : Prop} (e : wipe σ vs = wipe σ' vs) (q : p) : wipe σ vs = wipe σ' vs ∧ p := ⟨e, q⟩
theorem w_yes {QY : Bool → Hp → Prop} (q : QY true H) : tYes σ H QY := q
theorem w_isN {ta : TE} (h : ta σ H fun x H1 => Q (.bl (decide (x = .non))) H1) : tIsN ta σ H Q := h
theorem w_notN {ta : TE} (h : ta σ H fun x H1 => Q (.bl (!decide (x = .non))) H1) : tNotN ta σ H Q := h
theorem w_cb {r : List V → Hp → VK → Prop} {t : TA} (h : t σ H fun vs H1 => r vs H1 Q) : tCB r t σ H Q := h
theorem w_nil (h : QL [] H) : tNil σ H QL := h
theorem w_cons {ta : TE} {tr : TA} (h : ta σ H fun x H1 => tr σ H1 fun xs H2 => QL (x :: xs) H2) : tCons ta tr σ H QL := h
theorem w_tup {t : TA} (h : t σ H fun xs H1 => xs.length ≤ sizeLine ∧ ∀ p, H1 p = none → Q (.ref p) (upd H1 p (.tup xs))) : tTup t σ H Q := h
theorem w_lst {t : TA} (h : t σ H fun xs H1 => xs.length ≤ sizeLine ∧ ∀ p, H1 p = none → Q (.ref p) (upd H1 p (.lst xs))) : tLst t σ H Q := h
theorem le_line {n : Nat} (h : Nat.ble n 1000 = true) : n ≤ sizeLine := Nat.le_of_lt (small1000 (Nat.le_of_ble_eq_true h))
theorem w_lines {n : Nat} {p : Prop} (h : Nat.ble n 1000 = true) (q : p) : n ≤ sizeLine ∧ p := ⟨le_line h, q⟩
theorem w_call {sp : Sp} {dvs : List V} {E : XK} {t : TA} (h : t σ H fun vs H1 => sp (vs ++ dvs) H1 Q E) : tCall sp dvs E t σ H Q := h
theorem w_dnewK (h : ∀ p, H p = none → Q (.ref p) (upd H p (.dK []))) : tDNewK σ H Q := h
theorem w_dget {td ty : TE} (h : td σ H fun x H1 => ty σ H1 fun y H2 => ∃ a v, x = .ref a ∧ DGet H2 a y (some v) ∧ Q v H2) : tDGet td ty σ H Q := h
theorem w_sl {r : V → Option Int → Option Int → Hp → VK → Prop} {te : TE} {tl th : TO} (h : te σ H fun x H1 => tl σ H1 fun l H2 => th σ H2 fun u H3 => r x l u H3 Q) : tSl r te tl th σ H Q := h
theorem w_nopart {QO : Option Int → Hp → Prop} (h : QO none H) : tNoPart σ H QO := h
theorem w_part {QO : Option Int → Hp → Prop} {t : TE} (h : t σ H fun x H1 => ∃ i, x = .int i ∧ QO (some i) H1) : tPart t σ H QO := h
theorem w_exint {i : Int} {p : Int → Prop} (h : p i) : ∃ k, V.int i = V.int k ∧ p k := ⟨i, rfl, h⟩
theorem w_bm {T : String} {r : V → List V → Hp → VK → Prop} {to : TE} {t : TA} (h : to σ H fun x H1 => tyV K T x H1 ∧ t σ H1 fun xs H2 => r x xs H2 Q) : tBM K T r to t σ H Q := h
theorem w_bm0 {T : String} {r : V → List V → Hp → VK → Prop} {to : TE} (h : to σ H fun x H1 => tyV K T x H1 ∧ r x [] H1 Q) : tBM0 K T r to σ H Q := h
theorem ty_list {l : Addr} {xs : List V} (h : H l = some (.lst xs)) : tyV K "list" (.ref l) H := Or.inl ⟨rfl, _, SqL.of h⟩
theorem w_bmL {l : Addr} {xs : List V} {p : Prop} (h : H l = some (.lst xs)) (q : p) : tyV K "list" (.ref l) H ∧ p := ⟨ty_list h, q⟩
theorem w_append {l : Addr} {xs : List V} {y : V} (h : H l = some (.lst xs)) (n : xs.length < sizeLine) (q : Q .non (upd H l (.lst (xs ++ [y])))) : rAppend (.ref l) [y] H Q := ⟨l, xs, y, rfl, rfl, h, n, q⟩
theorem w_ixL {p : Addr} {xs : List V} {i : Int} {v : V} (h : SqL K H p xs) (e : atI xs i = some v) (q : Q v H) : rIxL K (.ref p) (.int i) H Q := ⟨p, xs, i, v, rfl, rfl, h, e, q⟩
theorem w_ixT {p : Addr} {xs : List V} {i : Int} {v : V} (h : SqT K H p xs) (e : atI xs i = some v) (q : Q v H) : rIxT K (.ref p) (.int i) H Q := ⟨p, xs, i, v, rfl, rfl, h, e, q⟩
theorem w_setL {p : Addr} {xs : List V} {k : Int} {j : Nat} {v : V} {QH : Hp → Prop} (h : H p = some (.lst xs)) (e : ixN xs.length k = some j) (q : QH (upd H p (.lst (xs.set j v)))) : rSetL (.ref p) (.int k) v H QH := ⟨p, xs, k, j, rfl, rfl, h, e, q⟩
theorem w_cat {l b : Addr} {xs zs : List V} (h1 : H l = some (.lst xs)) (h2 : H b = some (.lst zs)) (n : xs.length + zs.length ≤ 1000) (q : ∀ p, H p = none → Q (.ref p) (upd H p (.lst (xs ++ zs)))) : rCat (.ref l) (.ref b) H Q := ⟨l, b, xs, zs, rfl, rfl, h1, h2, Nat.le_of_lt (small1000 n), q⟩
theorem w_slL {a : Addr} {xs : List V} {lo hi : Option Int} (h : SqL K H a xs) (q : ∀ p, H p = none → Q (.ref p) (upd H p (.lst (cutV xs lo hi)))) : rSlL K (.ref a) lo hi H Q := ⟨a, xs, rfl, h, q⟩
theorem inV_int (n : Int) : ∀ ns : List Int, inV (.int n) (ns.map V.int) = decide (n ∈ ns)
  | [] => by simp [inV]
  | m :: r => by
    have ih := inV_int n r
    unfold inV at ih ⊢
    rw [List.map_cons, List.any_cons, ih]
    have e : eqV (.int m) (.int n) = decide (n = m) := by
      show (m == n) = decide (n = m)
      by_cases h : m = n
      · subst h; simp
      · rw [decide_eq_false (fun z => h z.symm)]; simpa using h
    rw [e, ← Bool.decide_or]
    simp only [List.mem_cons]
theorem flat_ints : ∀ ns : List Int, (ns.map V.int).all flatV = true
  | [] => rfl
  | _ :: r => by rw [List.map_cons, List.all_cons, flat_ints r]; rfl
theorem w_inL {p : Addr} {ns : List Int} {n : Int} (h : SqL K H p (ns.map V.int)) (q : Q (.bl (decide (n ∈ ns))) H) : rIn K false (.int n) (.ref p) H Q := ⟨p, _, rfl, .inl h, rfl, flat_ints ns, by rw [if_neg Bool.false_ne_true, inV_int]; exact q⟩
theorem w_inT {p : Addr} {ns : List Int} {n : Int} (h : SqT K H p (ns.map V.int)) (q : Q (.bl (decide (n ∈ ns))) H) : rIn K false (.int n) (.ref p) H Q := ⟨p, _, rfl, .inr h, rfl, flat_ints ns, by rw [if_neg Bool.false_ne_true, inV_int]; exact q⟩
theorem w_ninL {p : Addr} {ns : List Int} {n : Int} (h : SqL K H p (ns.map V.int)) (q : Q (.bl (!decide (n ∈ ns))) H) : rIn K true (.int n) (.ref p) H Q := ⟨p, _, rfl, .inl h, rfl, flat_ints ns, by rw [if_pos rfl, inV_int]; exact q⟩
theorem w_ninT {p : Addr} {ns : List Int} {n : Int} (h : SqT K H p (ns.map V.int)) (q : Q (.bl (!decide (n ∈ ns))) H) : rIn K true (.int n) (.ref p) H Q := ⟨p, _, rfl, .inr h, rfl, flat_ints ns, by rw [if_pos rfl, inV_int]; exact q⟩
theorem w_listof {a : Addr} {ys : List V} {p : Addr → List V → Prop} (h : SqL K H a ys) (q : p a ys) : ∃ b zs, [V.ref a] = [.ref b] ∧ (SqL K H b zs ∨ SqT K H b zs) ∧ p b zs := ⟨a, ys, rfl, .inl h, q⟩
theorem w_tupof {a : Addr} {ys : List V} {A B : Addr → List V → Prop} (h : SqL K H a ys) (q : A a ys) : ∃ b zs, [V.ref a] = [.ref b] ∧ ((SqL K H b zs ∧ A b zs) ∨ (SqT K H b zs ∧ B b zs)) := ⟨a, ys, rfl, .inl ⟨h, q⟩⟩
theorem w_gsub {to ti : TE} {t : TSet} {v : V} (h : to σ H fun o H1 => ti σ H1 fun i H2 => t o i v H2 fun H3 => QS σ H3) : gSub to ti t v σ H QS := h
theorem w_len {a : Addr} {xs : List V} {p : Nat → Prop} (h : SqL K H a xs) (q : p xs.length) : ∃ x n, [V.ref a] = [x] ∧ LenV K x H n ∧ p n := ⟨_, _, rfl, .inl ⟨_, h, rfl⟩, q⟩
theorem w_lenT {a : Addr} {xs : List V} {p : Nat → Prop} (h : SqT K H a xs) (q : p xs.length) : ∃ x n, [V.ref a] = [x] ∧ LenV K x H n ∧ p n := ⟨_, _, rfl, .inr ⟨_, h, rfl⟩, q⟩
theorem w_int1 {i : Int} {p : Int → Prop} {r : Bool → Prop} (q : p i) : (∃ j, [V.int i] = [.int j] ∧ p j) ∨ ∃ k, [V.int i] = [.bl k] ∧ r k := .inl ⟨i, rfl, q⟩
theorem w_intb {b : Bool} {p : Int → Prop} {r : Bool → Prop} (q : r b) : (∃ j, [V.bl b] = [.int j] ∧ p j) ∨ ∃ k, [V.bl b] = [.bl k] ∧ r k := .inr ⟨b, rfl, q⟩
theorem w_abs {i : Int} {p : Int → Prop} (q : p i) : ∃ j, [V.int i] = [.int j] ∧ p j := ⟨i, rfl, q⟩
end
theorem fmod_pos {a b : Int} (h : 0 < b) : 0 ≤ a.fmod b ∧ a.fmod b < b := by
  rw [Int.fmod_eq_emod_of_nonneg a (by omega)]
  exact ⟨Int.emod_nonneg a (by omega), Int.emod_lt_of_pos a h⟩
theorem cmul_fmod {x m y : Int} (h0 : 0 < m) (h1 : m < 18446744073709551616) : CMul (x.fmod m) y := .inl (by have := fmod_pos (a := x) h0; omega)
theorem w_start {t : TS} {D : Ends} {N : List Str} {vs : List V} {σ : L2.St} {H : Hp} (e : L2.start N vs = σ) (h : t D σ H) : t D (L2.start N vs) H := by rw [e]; exact h
theorem ixN_nat {n j : Nat} (h : Nat.blt j n = true) : ixN n (j : Int) = some j := by
  have h' : j < n := Nat.le_of_ble_eq_true h
  unfold ixN
  rw [if_pos (by omega), if_pos (by omega), Int.toNat_natCast]
/-! ### isinstance of built-in types -/
theorem w_isi {K : PySem.W.Frag} {H : Hp} {Q : VK} {x : V} {a b : String} {r : Bool} (ty : TyX K H x (.type a)) (e : kitB a b = some r) (q : Q (.bl r) H) : rIsi K [x, .ty b] H Q := ⟨x, .ty b, _, _, r, rfl, .ty b, ty, kit_ty e, q⟩
theorem isi_int_int : kitB "int" "int" = some true := by decide +kernel
theorem isi_int_bool : kitB "int" "bool" = some false := by decide +kernel
theorem isi_int_str : kitB "int" "str" = some false := by decide +kernel
theorem isi_int_list : kitB "int" "list" = some false := by decide +kernel
theorem isi_int_tuple : kitB "int" "tuple" = some false := by decide +kernel
theorem isi_bool_int : kitB "bool" "int" = some true := by decide +kernel
theorem isi_bool_bool : kitB "bool" "bool" = some true := by decide +kernel
theorem isi_bool_str : kitB "bool" "str" = some false := by decide +kernel
theorem isi_bool_list : kitB "bool" "list" = some false := by decide +kernel
theorem isi_bool_tuple : kitB "bool" "tuple" = some false := by decide +kernel
theorem isi_str_int : kitB "str" "int" = some false := by decide +kernel
theorem isi_str_bool : kitB "str" "bool" = some false := by decide +kernel
theorem isi_str_str : kitB "str" "str" = some true := by decide +kernel
theorem isi_str_list : kitB "str" "list" = some false := by decide +kernel
theorem isi_str_tuple : kitB "str" "tuple" = some false := by decide +kernel
theorem isi_non_list : kitB "NoneType" "list" = some false := by decide +kernel
theorem isi_non_tuple : kitB "NoneType" "tuple" = some false := by decide +kernel
theorem isi_list_list : kitB "list" "list" = some true := by decide +kernel
theorem isi_list_tuple : kitB "list" "tuple" = some false := by decide +kernel
theorem isi_tuple_list : kitB "tuple" "list" = some false := by decide +kernel
theorem isi_tuple_tuple : kitB "tuple" "tuple" = some true := by decide +kernel
theorem isi_dict_dict : kitB "dict" "dict" = some true := by decide +kernel
/-! ### branches -/
section
variable {A B : Prop} {p : Prop} [Decidable p]
theorem iteNT (q : B) : if (!true) = true then A else B := iteF q
theorem iteNF (q : A) : if (!false) = true then A else B := iteT q
theorem ite_d (h1 : p → A) (h2 : ¬ p → B) : if decide p = true then A else B := by
  by_cases h : p
  · rw [if_pos (decide_eq_true h)]; exact h1 h
  · rw [if_neg (by rw [decide_eq_false h]; exact Bool.false_ne_true)]; exact h2 h
theorem ite_nd (h1 : ¬ p → A) (h2 : p → B) : if (!decide p) = true then A else B := by
  by_cases h : p
  · rw [decide_eq_true h]; exact iteF (h2 h)
  · rw [decide_eq_false h]; exact iteT (h1 h)
theorem ite_decT (h : p) (q : A) : if decide p = true then A else B := by rw [if_pos (decide_eq_true h)]; exact q
theorem ite_decF (h : ¬ p) (q : B) : if decide p = true then A else B := by rw [if_neg (by rw [decide_eq_false h]; exact Bool.false_ne_true)]; exact q
theorem ite_ndecT (h : ¬ p) (q : A) : if (!decide p) = true then A else B := by rw [decide_eq_false h]; exact iteT q
theorem ite_ndecF (h : p) (q : B) : if (!decide p) = true then A else B := by rw [decide_eq_true h]; exact iteF q
theorem ite_viT {i j : Int} (h : i = j) (q : A) : if decide (V.int i = V.int j) = true then A else B := ite_decT (by rw [h]) q
theorem ite_viF {i j : Int} (h : i ≠ j) (q : B) : if decide (V.int i = V.int j) = true then A else B := ite_decF (fun e => h (V.int.inj e)) q
theorem ite_nviT {i j : Int} (h : i ≠ j) (q : A) : if (!decide (V.int i = V.int j)) = true then A else B := ite_ndecT (fun e => h (V.int.inj e)) q
theorem ite_nviF {i j : Int} (h : i = j) (q : B) : if (!decide (V.int i = V.int j)) = true then A else B := ite_ndecF (by rw [h]) q
theorem ite_vi {i j : Int} (h1 : i = j → A) (h2 : i ≠ j → B) : if decide (V.int i = V.int j) = true then A else B := ite_d (fun e => h1 (V.int.inj e)) fun e => h2 fun z => e (by rw [z])
theorem ite_nvi {i j : Int} (h1 : i ≠ j → A) (h2 : i = j → B) : if (!decide (V.int i = V.int j)) = true then A else B := ite_nd (fun e => h1 fun z => e (by rw [z])) fun e => h2 (V.int.inj e)
theorem ite_b {b : Bool} (h1 : b = true → A) (h2 : b = false → B) : if b = true then A else B := by
  cases b
  · exact iteF (h2 rfl)
  · exact iteT (h1 rfl)
end
end Kf

end
section
set_option Elab.async false
set_option linter.all false
set_option maxRecDepth 100000
set_option maxHeartbeats 4000000
namespace Kf
open PySem PySem.Spec PyProof.Rows L2 RT
theorem nolen_rt : typeLookup (.type "reversed") "__len__" = pure none := by rw [typeLookup_type, builtinLookup_eq_fast]; kernel_rfl
theorem slot_rt_hint : Slot "reversed" "__length_hint__" "reversed.__length_hint__" :=
  .of (owner := "reversed") (n := "__length_hint__") (by rw [typeLookup_type, builtinLookup_eq_fast]; kernel_rfl) (by decide +kernel) (by decide +kernel) (by decide +kernel)
    (by first | exact .inl (by decide +kernel) | exact .inr (by decide +kernel)) (by rw [isSubtype_type]; kernel_rfl)
theorem entry_rt_hint : entryFor table "reversed.__length_hint__" = some Builtin.«reversed.__length_hint__» := entryFor_of_tree (by kernel_rfl)
theorem args_rt_hint (a : Value) : argsOk "reversed.__length_hint__" ⟨[a], []⟩ := by
  unfold argsOk; rw [signature?_of (id := "reversed.__length_hint__") (n := ['_', '_', 't', 'n', 'i', 'h', '_', 'h', 't', 'g', 'n', 'e', 'l', '_', '_']) (o := ['d', 'e', 's', 'r', 'e', 'v', 'e', 'r']) (by kernel_rfl) owner_rt]; kernel_rfl
section
variable {prog : Program} {w : World} {A : Around} {E : Value → Shared → Prop} {s : Shared}
theorem hint_rt {it t : Addr} {n : Nat} {items : Array Value} {Q : Bool → Shared → Prop} (hit : IsRt s.heap it t ((items.size : Int) - 1)) (ht : IsTup s.heap t items) (hz : items.size ≤ sizeLine)
    (hQ : ∀ b tk, Q b { s with toks := tk }) : wpAny (model prog w) A (Builtin.List.listLengthHint (.ref it)) Q E s := by
  have hT := hit.typeIs
  obtain ⟨o, ho, hc, hd⟩ := id hit
  unfold Builtin.List.listLengthHint
  refine wpAny_bind (wpAny_specialOf hT nolen_rt ?_)
  show wpAny _ _ (specialOf (Value.ref it) (Str.ofString "__length_hint__") >>= _) _ _ _
  refine wpAny_bind (wpAny_specialOf hT slot_rt_hint.lookup ?_)
  generalize hid : ("reversed.__length_hint__" : String) = id0
  wp_delta
  rw [show splitId id0 = some ("reversed", "__length_hint__") from by subst hid; decide +kernel]
  subst hid
  refine wpAny_bind (wpAny_isInstance (b := true) hT (by rw [isSubtype_type]; kernel_rfl) ?_)
  rw [if_neg (by decide)]
  refine wpAny_bind (wpAny_rule ?_)
  refine wpAny_bind (wpAny_of_eq (slot_rt_hint.bind _) ?_)
  refine wpAny_bind (wpAny_attempt (wpAny_call_entry slot_rt_hint hT entry_rt_hint ?_ (args_rt_hint _)))
  unfold Builtin.«reversed.__length_hint__»
  refine wpAny_bind (wpAny_of_eq (a := Value.ref it) rfl ?_)
  refine wpAny_bind (wpAny_field ho hd (x := .ref t) rfl ?_)
  rw [if_neg (by intro z; cases z)]
  have hl := sizeLine_eq
  refine wpAny_bind (len_tuple ht (by omega) ?_)
  refine wpAny_bind (wpAny_of_eq (a := some ((items.size : Nat) : Int)) rfl ?_)
  refine wpAny_bind (wpAny_field ho hd (x := rawInt ((items.size : Int) - 1)) rfl ?_)
  show wpAny _ _ (if ((items.size : Nat) : Int) < (items.size : Int) - 1 + 1 then _ else retInt ((items.size : Int) - 1 + 1)) _ _ _
  rw [if_neg (by omega)]
  unfold retInt
  refine wpAny_bind (wpAny_mkInt (wpAny_pure ⟨_, rfl, ?_⟩))
  show wpAny _ _ (asInt? (.int ((items.size : Int) - 1 + 1) _) >>= _) _ _ _
  refine wpAny_bind (wpAny_of_eq (a := some ((items.size : Int) - 1 + 1)) rfl ?_)
  have h1 : Builtin.List.listFitsIndex ((items.size : Int) - 1 + 1) = true := by
    unfold Builtin.List.listFitsIndex
    rw [Bool.and_eq_true]
    exact ⟨decide_eq_true (by omega), decide_eq_true (by omega)⟩
  have h2 : Builtin.List.listTooLong ((items.size : Int) - 1 + 1).toNat = false := by
    unfold Builtin.List.listTooLong
    exact decide_eq_false (by omega)
  dsimp only
  rw [if_neg (by rw [h1]; decide), if_neg (by omega), if_neg (by rw [h2]; decide)]
  exact wpAny_pure (hQ _ _)
theorem hint_lri' {it : Addr} {Q : Bool → Shared → Prop} (hT : s.TypeIs (.ref it) "list_reverseiterator") (hQ : Q false s) : wpAny (model prog w) A (Builtin.List.listLengthHint (.ref it)) Q E s := by
  unfold Builtin.List.listLengthHint
  refine wpAny_bind (wpAny_specialOf hT nolen_lri ?_)
  show wpAny _ _ (specialOf (Value.ref it) (Str.ofString "__length_hint__") >>= _) _ _ _
  refine wpAny_bind (wpAny_specialOf hT hint_lri ?_)
  generalize hid : ("list_reverseiterator.__length_hint__" : String) = id0
  wp_delta
  rw [show splitId id0 = some ("list_reverseiterator", "__length_hint__") by subst hid; decide +kernel]
  subst hid
  refine wpAny_bind (wpAny_isInstance (b := true) hT (by rw [isSubtype_type]; kernel_rfl) ?_)
  rw [if_neg (by decide)]
  first
  | exact wpAny_pure hQ
  | (rw [if_pos (by decide +kernel)]; exact wpAny_pure hQ)
  | (rw [if_pos (by decide +kernel), if_neg (by decide +kernel)]; exact wpAny_pure hQ)
/-- reversed(t), t a tuple, walked -/
theorem walks_rt (hh : A.handled = none) (I t : Addr) (hne : t ≠ I) (items : Array Value) (hz : items.size ≤ sizeLine) :
    Walks prog w A I [I, t] [I] items.size (fun i v => items[items.size - 1 - i]? = some v) (fun i h => i ≤ items.size ∧ IsRt h I t ((items.size : Int) - 1 - (i : Int)) ∧ IsTup h t items) := by
  refine ⟨fun b hb => ?_, fun i h h' x hk => ?_, fun i s Q E hi x hQ => ?_, fun s Q E x hQ => ?_, fun i s Q E x hQ => iter_rt x.2.1 hQ⟩
  · rw [List.mem_singleton] at hb
    subst hb
    exact List.mem_cons_self
  · refine ⟨x.1, x.2.1.at fun o e => hk I List.mem_cons_self o e, ?_⟩
    obtain ⟨o, e, r⟩ := x.2.2
    exact ⟨o, hk t (by simp) o e, r⟩
  · obtain ⟨x1, x2, x3⟩ := x
    rw [show (items.size : Int) - 1 - (i : Int) = ((items.size - 1 - i : Nat) : Int) by omega] at x2
    have hx : items[items.size - 1 - i]? = some (items[items.size - 1 - i]'(by omega)) := Array.getElem?_eq_getElem (by omega)
    refine next_rt_item x2 x3 hx hz fun h' y2 sb => ?_
    rw [show ((items.size - 1 - i : Nat) : Int) - 1 = (items.size : Int) - 1 - ((i + 1 : Nat) : Int) by omega] at y2
    refine hQ _ h' _ hx ⟨hi, y2, ?_⟩ fun b o hb e => (sb.2 b (by simpa using hb)).trans e
    obtain ⟨o, e, r⟩ := x3
    exact ⟨o, (sb.2 t hne).trans e, r⟩
  · obtain ⟨x1, x2, x3⟩ := x
    rw [show (items.size : Int) - 1 - ((items.size : Nat) : Int) = -1 by omega] at x2
    exact next_rt_end hh x2 fun h' eb => hQ h' s.toks fun b o hb e => eb b o (by simpa using hb) e
/-- list(it), it an iterator of n items whose length is hinted at -/
theorem list_iter {T : String} {it d : Addr} {n : Nat} {Pv : Nat → Value → Prop} {St : Nat → Heap → Prop} {Q : Value → Shared → Prop} (W : Walks prog w A.in1.in1 it [it, d] [it] n Pv St) (hn : n ≤ sizeLine) (hT : s.TypeIs (.ref it) T) (n1 : (Value.type T == Value.type "list") = false) (n2 : (Value.type T == Value.type "tuple") = false)
    (hint : ∀ (h : Heap) (tk : Nat) (A : Around) (E : Value → Shared → Prop) (Q : Bool → Shared → Prop), (∀ b ∈ [it, d], ∀ o, s.heap.get? b = some o → h.get? b = some o) → (∀ b tk, Q b { s with heap := h, toks := tk }) → wpAny (model prog w) A (Builtin.List.listLengthHint (.ref it)) Q E { s with heap := h, toks := tk })
    (hd : d < s.heap.objs.size) (st : St 0 s.heap)
    (hQ : ∀ h' tk acc c, (∀ b o, b ≠ it → s.heap.get? b = some o → h'.get? b = some o) → h'.get? s.heap.objs.size = some { cls := .type "list", dict := none, data := .seq acc c, slots := #[] } → ItemsOf Pv acc n → Q (.ref s.heap.objs.size) { s with heap := h', toks := tk }) :
    wpAny (model prog w) A (call (.type "list") [.ref it]) Q E s := by
  have hit : it < s.heap.objs.size := by
    obtain ⟨o, e, _⟩ := hT
    exact Heap.lt_size e
  refine callType_codes (Q₁ := fun obj s₁ => obj = .ref s.heap.objs.size ∧ s₁ = { s with heap := s.heap.push { cls := .type "list", data := .seq #[] } }) PySem.F.called_list (PySem.F.typeCall_list_1 _) PySem.F.entry_list_init
    (code_list_new _ ⟨rfl, rfl⟩) fun obj s₁ h₁ => ?_
  obtain ⟨rfl, rfl⟩ := h₁
  generalize hS' : s.heap.objs.size = S
  have k1 : ∀ b o, s.heap.get? b = some o → (s.heap.push { cls := .type "list", data := .seq #[] }).get? b = some o := fun b o e => Heap.get?_push_of_some _ e
  have hS : (s.heap.push { cls := .type "list", data := .seq #[] }).get? S = some { cls := .type "list", data := .seq #[] } := by rw [← hS']; exact Heap.get?_push_size _ rfl
  have neI : S ≠ it := Nat.ne_of_gt (by rw [← hS']; exact hit)
  have neD : S ≠ d := Nat.ne_of_gt (by rw [← hS']; exact hd)
  have old : ∀ b o, s.heap.get? b = some o → b ≠ S := fun b o e => Nat.ne_of_lt (by rw [← hS']; exact Heap.lt_size e)
  generalize s.heap.push { cls := .type "list", data := .seq #[] } = g at k1 hS
  refine ⟨⟨_, hS, rfl⟩, PySem.F.args_list_init_2 _ _, ?_⟩
  show wpAny _ _ (do let x ← Builtin.List.listItems (.ref S); Builtin.List.listUpdate (.ref S) (fun _ => #[]); letGo x.toList.reverse; Builtin.List.listExtendWith (.ref S) (.ref it) .none) _ _ { s with heap := g }
  refine wpAny_bind ?_
  unfold Builtin.List.listItems
  refine wpAny_bind (wpAny_seqItems hS rfl (wpAny_pure ?_))
  show wpAny _ _ (updateSeq S (fun _ => #[]) >>= fun _ => letGo (#[] : Array Value).toList.reverse >>= fun _ => Builtin.List.listExtendWith (.ref S) (.ref it) .none) _ _ { s with heap := g }
  refine wpAny_bind (wpAny_updateSeq hS rfl ?_)
  have hS2 := Heap.get?_update_self (Obj.mapSeq (fun _ => (#[] : Array Value))) hS rfl
  have k2 : ∀ b o, b ≠ S → g.get? b = some o → (g.update S (Obj.mapSeq (fun _ => (#[] : Array Value)))).get? b = some o := fun b o hb e => (Heap.get?_update_other _ _ (Ne.symm hb)).trans e
  refine wpAny_bind (wpAny_letGo ?_)
  generalize g.update S (Obj.mapSeq (fun _ => (#[] : Array Value))) = g2 at hS2 k2
  have k3 : ∀ b o, s.heap.get? b = some o → g2.get? b = some o := fun b o e => k2 b o (old b o e) (k1 b o e)
  have st2 : St 0 g2 := W.frame 0 _ _ st fun b _ o e => k3 b o e
  have hT2 : ({ s with heap := g2 } : Shared).TypeIs (.ref it) T := by
    obtain ⟨o, e, r⟩ := hT
    exact ⟨o, k3 _ _ e, r⟩
  have hSf : S ∉ [it, d] := by
    simp only [List.mem_cons, List.not_mem_nil, or_false, not_or]
    exact ⟨neI, neD⟩
  have key : ∀ (h : Heap) (c tk : Nat), St 0 h → (∀ b o, b ≠ S → s.heap.get? b = some o → h.get? b = some o) → h.get? S = some { cls := .type "list", data := .seq #[] c } →
      codeAny (model prog w) A.in1 (.builtin "list.extend.loop" ⟨[.ref S, .ref it, .none], []⟩) (wants (fun r s₂ => r = Value.none ∧ Q (.ref S) s₂) E) { s with heap := h, toks := tk } := fun h c tk hst hk hSh => by
    refine codeAny_extend_loopS W.toS hn S hSf .none n 0 _ #[] c rfl (Nat.zero_le _) hst hSh (ItemsOf.nil _) fun s' acc c' hm hSa hacc => ?_
    rw [Moved.eq_with hm]
    refine (show Value.none = Value.none ∧ Q (.ref S) _ from ⟨rfl, ?_⟩)
    rw [← hS']
    refine hQ s'.heap s'.toks acc c' (fun b o hb e => hm.heap b o (fun hmem => ?_) (hk b o (old b o e) e)) (by rw [hS']; exact hSa) hacc
    rcases List.mem_cons.mp hmem with z | z
    · exact old b o e z
    · exact hb (List.mem_singleton.mp z)
  unfold Builtin.List.listExtendWith
  refine wpAny_bind (wpAny_typeOf (T := T) hT2 ?_)
  have h1 : Builtin.List.listSameRef (.ref S) (.ref it) = false := by simp [Builtin.List.listSameRef, neI]
  rw [if_neg (by rw [h1, n1, n2]; decide)]
  refine wpAny_bind (W.self 0 _ _ _ st2 ?_)
  refine wpAny_bind (wpAny_holding (hint g2 s.toks _ _ _ (fun b _ o e => k3 b o e) fun b tk => ?_))
  have qt := plainId_quiet PySem.F.plain_extend_loop ⟨[.ref S, .ref it, .none], []⟩
  refine wpAny_ite_split (fun _ => ?_) (fun _ => wpAny_pure ⟨qt, key g2 0 tk st2 (fun b o _ e => k3 b o e) hS2⟩)
  refine wpAny_bind (wpAny_rule (wpAny_bind ?_))
  show wpAny _ _ (updateSeq S (fun xs => xs.push .none) >>= fun _ => updateSeq S fun xs => xs.pop) _ _ _
  refine wpAny_bind (wpAny_updateSeq hS2 rfl ?_)
  have hS3 := Heap.get?_update_self (Obj.mapSeq (fun xs => xs.push Value.none)) hS2 rfl
  have k4 : ∀ b o, b ≠ S → g2.get? b = some o → (g2.update S (Obj.mapSeq (fun xs => xs.push Value.none))).get? b = some o := fun b o hb e => (Heap.get?_update_other _ _ (Ne.symm hb)).trans e
  generalize g2.update S (Obj.mapSeq (fun xs => xs.push Value.none)) = g3 at hS3 k4
  refine wpAny_updateSeq (hz := by seq_fits) hS3 rfl ?_
  have hS4 := Heap.get?_update_self (Obj.mapSeq (fun xs : Array Value => xs.pop)) hS3 rfl
  have k5 : ∀ b o, b ≠ S → g3.get? b = some o → (g3.update S (Obj.mapSeq (fun xs : Array Value => xs.pop))).get? b = some o := fun b o hb e => (Heap.get?_update_other _ _ (Ne.symm hb)).trans e
  have k6 : ∀ b o, b ≠ S → s.heap.get? b = some o → (g3.update S (Obj.mapSeq (fun xs : Array Value => xs.pop))).get? b = some o := fun b o hb e => k5 b o hb (k4 b o hb (k3 b o e))
  exact wpAny_pure ⟨qt, key _ _ _ (W.frame 0 _ _ st2 fun b hb o e => k5 b o (fun z => hSf (z ▸ hb)) (k4 b o (fun z => hSf (z ▸ hb)) e)) k6 hS4⟩
end
/-! ### the rule -/
section
variable {X : Cx} {K : PySem.W.Frag}
def tListRev (K : PySem.W.Frag) (te : TE) : TE := fun σ H Q => te σ H fun v H1 => ∃ (a : Addr) (xs : List V), v = .ref a ∧ (SqL K H1 a xs ∨ SqT K H1 a xs) ∧ ∀ q, H1 q = none → Q (.ref q) (upd H1 q (.lst xs.reverse))
theorem w_listRev {te : TE} {σ : L2.St} {H : Hp} {Q : VK} (h : te σ H fun v H1 => ∃ (a : Addr) (xs : List V), v = .ref a ∧ (SqL K H1 a xs ∨ SqT K H1 a xs) ∧ ∀ q, H1 q = none → Q (.ref q) (upd H1 q (.lst xs.reverse))) : tListRev K te σ H Q := h
theorem pe_listRev {e : Expr} {te : TE} {p p2 pos pos2 : Pos} (ek : X.K = K) (hc : X.calm = true) (hg : Gl X "list") (hm : X.mg "list" = none) (hg2 : Gl X "reversed") (hm2 : X.mg "reversed" = none) (he : PE X e te)
    (hs : starEach [e] X.env = (false, eval e X.env) :: starEach [] X.env := by rfl)
    (hs2 : starEach [.Call (.Name "reversed" p2) [e] [] pos2] X.env = (false, eval (.Call (.Name "reversed" p2) [e] [] pos2) X.env) :: starEach [] X.env := by rfl) :
    PE X (.Call (.Name "list" p) [.Call (.Name "reversed" p2) [e] [] pos2] [] pos) (tListRev K te) := by
  subst ek
  refine ⟨fun pins s σ H Q I h => ?_⟩
  refine Call_ (ld_blt I hg hm boot_list (PyProof.Rows.callWith_type1 (args_cons (Call_ (ld_blt I hg2 hm2 PyProof.Rows.boot_reversed (PyProof.Rows.callWith_type1 (args_cons (thn (he.run pins s σ H _ I h) fun u s1 ⟨v, H1, I1, r1, q1⟩ => args_nil ?_) hs) hs rfl))) hs2) hs2 rfl))
  obtain ⟨a, xs, ev, hq, q⟩ := q1
  subst ev
  obtain rfl : u = Value.ref a := r1
  have hline := sizeLine_eq
  have fin : ∀ (its : List Value) (s2 : Shared) (it : Addr) (I2 : Inv X pins σ H1 s2) (hf : FpOk X pins H1 it) (hil : it < s2.heap.objs.size), Vals xs its → xs.length ≤ sizeLine → ∀ (h' : Heap) (tk : Nat) (acc : Array Value) (c : Nat), (∀ b o, b ≠ it → s2.heap.get? b = some o → h'.get? b = some o) →
      h'.get? s2.heap.objs.size = some { cls := .type "list", dict := none, data := .seq acc c, slots := #[] } → ItemsOf (fun i v => its.toArray[its.toArray.size - 1 - i]? = some v) acc its.toArray.size → EP X pins σ Q (.ref s2.heap.objs.size) { s2 with heap := h', toks := tk } := by
    intro its s2 it I2 hf hil rv hz h' tk acc c hk hl hacc
    obtain ⟨f0, f1, f2, f3, f4, f5⟩ := hf
    have fresh := I2.hok.fresh (Nat.le_refl s2.heap.objs.size)
    have low : ∀ b o, s2.heap.get? b = some o → b ≠ s2.heap.objs.size := fun b o e => Nat.ne_of_lt (Heap.lt_size e)
    have nit : ∀ b o, H1 b = some o → b ≠ it := fun b o e z => by rw [z, f0] at e; cases e
    have ns : ∀ b o, H1 b = some o → b ≠ s2.heap.objs.size := fun b o e => ne_of_none e fresh
    have ho : HOk X.prog X.w (upd H1 s2.heap.objs.size (.lst xs.reverse)) h' := fun b o e => by
      by_cases hb : b = s2.heap.objs.size
      · subst hb
        rw [L2.upd_same] at e
        cases e
        exact ⟨by rw [List.length_reverse]; exact hz, acc.toList, c, vals_rev rv hacc, by rw [Array.toArray_toList]; exact hl⟩
      · rw [upd_ne hb] at e
        refine (I2.hok b o e).stay (fun d u hd eu => hk d u ?_ eu) (fun d q2 => by rw [upd_ne (ns d _ q2)]; exact q2) fun d ys q2 => by rw [upd_ne (ns d _ q2)]; exact q2
        rcases hd with z | z
        · rw [z]; exact nit b o e
        · exact nit d _ z
    refine ⟨.ref s2.heap.objs.size, upd H1 s2.heap.objs.size (.lst xs.reverse), ?_, rfl, q _ fresh⟩
    refine I2.step (g' := s2.gens) (d' := s2.drawn) (ch := [it]) (fun b hb => ?_) (fun b o _ _ hc e _ => hk b o (fun z => hc (by rw [z]; exact List.mem_cons_self)) e) (fun b o _ _ hc e _ => ⟨o.slots, hk b o (fun z => hc (by rw [z]; exact List.mem_cons_self)) e⟩)
      (fun b o _ e n => by rw [upd_ne (low b o e)]; exact n) (fun b o hc e => ⟨o, hk b o (fun z => hc (by rw [z]; exact List.mem_cons_self)) e⟩) (fun b ys e => by rw [upd_ne (ns b _ e)]; exact e) (fun b o u e => by rw [upd_ne (ns b _ e)]; exact e)
      (fun b ps e => ⟨#[], by rw [upd_ne (ns b _ e), e]; simp⟩) (fun m hm => ?_) ho I2.bare
    · rw [List.mem_singleton] at hb
      subst hb
      exact ⟨f3, f1, f4, f5⟩
    · obtain ⟨o, es, ep, e, r⟩ := hm
      exact ⟨o, es, ep, hk _ o (Ne.symm f1) e, r⟩
  have k0 : ∀ (ob : Obj) b o, s1.heap.get? b = some o → (s1.heap.push ob).get? b = some o := fun ob b o e => Heap.get?_push_of_some _ e
  have fp := I1.fpOk (H' := H1) (b := s1.heap.objs.size) (Nat.le_refl _) (I1.hok.fresh (Nat.le_refl _))
  have hd1 : X.A.handled = none := I1.ok.hd hc
  rcases hq with hq | hq
  · obtain ⟨its, rv, pl, hz⟩ := I1.list hq
    have il := pl.isList
    have hlen := rv.length
    obtain ⟨ol, hol, _⟩ := id il
    have hla := Heap.lt_size hol
    refine call_reversed_list il (args_nil ?_)
    have I2 : Inv X pins σ H1 { s1 with heap := s1.heap.push (revObj a ((its.toArray.size : Int) - 1)) } := I1.kept (t' := s1.toks) (k0 _)
    have hs : its.toArray.size ≤ sizeLine := by rw [List.size_toArray]; omega
    have hri : (s1.heap.push (revObj a ((its.toArray.size : Int) - 1))).IsRevIter s1.heap.objs.size a ((its.toArray.size : Int) - 1 - ((0 : Nat) : Int)) := by
      rw [show (its.toArray.size : Int) - 1 - ((0 : Nat) : Int) = (its.toArray.size : Int) - 1 by omega]
      exact ⟨_, Heap.get?_push_size _ rfl, rfl, rfl⟩
    refine list_iter (T := "list_reverseiterator") (s := { s1 with heap := s1.heap.push (revObj a ((its.toArray.size : Int) - 1)) }) (Walks.listRev (A := X.A.in1.in1) hd1 s1.heap.objs.size a (Nat.ne_of_lt hla) its.toArray) hs ⟨_, Heap.get?_push_size _ rfl, rfl⟩ (by decide) (by decide) ?_ (by rw [Heap.size_push]; exact Nat.lt_succ_of_lt hla) ⟨Nat.zero_le _, hri, il.push _⟩ ?_
    · intro h tk A E Q2 hk hQ
      have hT : ({ s1 with heap := h, toks := tk } : Shared).TypeIs (.ref s1.heap.objs.size) "list_reverseiterator" := ⟨_, hk _ List.mem_cons_self _ (Heap.get?_push_size _ rfl), rfl⟩
      exact hint_lri' hT (hQ _ _)
    · exact fun h' tk acc c hk hl hacc => fin its _ s1.heap.objs.size I2 fp (by show _ < (s1.heap.push _).objs.size; rw [Heap.size_push]; exact Nat.lt_succ_self _) rv hz h' tk acc c hk hl hacc
  · obtain ⟨its, rv, pl, hz⟩ := I1.tuple hq
    have hlen := rv.length
    obtain ⟨ol, hol, _⟩ := id pl
    have hla := Heap.lt_size hol
    have hs : its.toArray.size ≤ sizeLine := by rw [List.size_toArray]; omega
    refine call_reversed_tup pl (fun A E Q k => len_tuple pl (by omega) k) (args_nil ?_)
    have I2 : Inv X pins σ H1 { s1 with heap := s1.heap.push (rtObj a ((its.toArray.size : Int) - 1)), toks := s1.toks + 1 + 1 } := I1.kept (t' := s1.toks + 1 + 1) (k0 _)
    have hri : IsRt (s1.heap.push (rtObj a ((its.toArray.size : Int) - 1))) s1.heap.objs.size a ((its.toArray.size : Int) - 1 - ((0 : Nat) : Int)) := by
      rw [show (its.toArray.size : Int) - 1 - ((0 : Nat) : Int) = (its.toArray.size : Int) - 1 by omega]
      exact ⟨_, Heap.get?_push_size _ rfl, rfl, rfl⟩
    have hri' : IsRt (s1.heap.push (rtObj a ((its.toArray.size : Int) - 1))) s1.heap.objs.size a ((its.toArray.size : Int) - 1) := ⟨_, Heap.get?_push_size _ rfl, rfl, rfl⟩
    have pl2 : IsTup (s1.heap.push (rtObj a ((its.toArray.size : Int) - 1))) a its.toArray := by
      obtain ⟨o, e, r⟩ := pl
      exact ⟨o, k0 _ _ _ e, r⟩
    refine list_iter (T := "reversed") (s := { s1 with heap := s1.heap.push (rtObj a ((its.toArray.size : Int) - 1)), toks := s1.toks + 1 + 1 }) (walks_rt (A := X.A.in1.in1) hd1 s1.heap.objs.size a (Nat.ne_of_lt hla) its.toArray hs) hs ⟨_, Heap.get?_push_size _ rfl, rfl⟩ (by decide) (by decide) ?_ (by rw [Heap.size_push]; exact Nat.lt_succ_of_lt hla) ⟨Nat.zero_le _, hri, pl2⟩ ?_
    · intro h tk A E Q2 hk hQ
      refine hint_rt (s := { s1 with heap := h, toks := tk }) (n := 0) (hri'.at fun o e => hk _ List.mem_cons_self o e) ?_ hs hQ
      obtain ⟨o, e, r⟩ := pl2
      exact ⟨o, hk _ (by simp) _ e, r⟩
    · exact fun h' tk acc c hk hl hacc => fin its _ s1.heap.objs.size I2 fp (by show _ < (s1.heap.push _).objs.size; rw [Heap.size_push]; exact Nat.lt_succ_self _) rv hz h' tk acc c hk hl hacc
end
end Kf

end
section
set_option Elab.async false
set_option linter.all false
set_option maxRecDepth 100000
set_option maxHeartbeats 4000000
namespace Kf
open PySem PySem.Spec PyProof.Rows L2
/-! ### promises of a def with defaults -/
structure PrD (P : Program) (w : World) (K : PySem.W.Frag) (mg : Str → Option Value) (base : Heap) (x : Str) (k : Nat) (ps : List Str) (dvs : List V) (sp : Sp) : Prop where
  ex : ∃ f fd ds, FnOk P w K mg base CX0 k f fd ps sp ∧ Binds K fd ps ds ∧ Vals dvs ds ∧ PySem.W.keepIn K (.ref f) = true ∧ mg x = some (.ref f)
structure DfD (K : PySem.W.Frag) (mg : Str → Option Value) (x : Str) (st : Stmt) (dvs : List V) (ps : List Str) : Prop where
  ex : ∃ f fd ds, FunD K x x (defArgs st) (defBody st) (defScope st) dvs [] f fd ∧ Binds K fd ps [] ∧ Binds K fd ps ds ∧ Vals dvs ds ∧ mg x = some (.ref f)
section
variable {P : Program} {w : World} {K : PySem.W.Frag} {mg : Str → Option Value} {base : Heap} {x : Str} {st : Stmt} {dvs : List V} {ps N : List Str} {k j : Nat} {sp sp' : Sp}
theorem DfD.ok (D : DfD K mg x st dvs ps) (S : FnScope N ps (defScope st)) (len : ∀ vs H Q E, sp vs H Q E → vs.length = ps.length)
    (hbody : ∀ (f : Addr) (cdv : Value) (A : Around) (outer : List Env) (s : Shared) (H : Hp) (vs : List V) (Q : VK) (E : XK), Room k (A.deeper (envOfC x (defScope st) s.heap.objs.size f cdv)) → sp vs H Q E →
      ∃ t, PSs (cxOf CX0 P w K mg base N x (defScope st) f cdv A outer s H E).nox (defBody st) t ∧ t { nx := fun _ H' => Q .non H', rt := Q } (start N vs) H) :
    Pr P w K mg base x (k + 1) ps sp ∧ PrD P w K mg base x (k + 1) ps dvs sp := by
  obtain ⟨f, fd, ds, F, b, bd, rd, g⟩ := D.ex
  have ok : FnOk P w K mg base CX0 (k + 1) f fd ps sp := F.ok S len fun cdv A outer s H vs Q E hr h => by
    obtain ⟨t, h1, h2⟩ := hbody f cdv A outer s H vs Q E hr h
    exact ⟨t, h1.nox, h2⟩
  obtain ⟨oc, od, dV, kV, doc, pm, an, cdv, ct, osl, e, lk, _⟩ := F.ex
  exact ⟨⟨f, fd, ok, b, F.kp, g, oc, od, osl, lk⟩, ⟨f, fd, ds, ok, bd, rd, F.kp, g⟩⟩
end
section
variable {X : Cx} {x : Str} {k j : Nat} {ps : List Str} {dvs : List V} {sp : Sp} {e : Expr} {es : List Expr} {t : TA} {p pos : Pos}
theorem pe_callPD (pr : PrD X.prog X.w X.K X.mg X.base x k ps dvs sp) (hr : Room j X.A) (ha : PA X (e :: es) t) (hk : k ≤ j := by decide) (hg : Gl X x := by rfl) (hd : (x == ("__debug__" : Str)) = false := by decide)
    (he : starEach (e :: es) X.env = (false, eval e X.env) :: starEach es X.env := by rfl) (hpl : (backTo pos (starEach es X.env)).any (·.1) = false := by rfl) : PE X (.Call (.Name x p) (e :: es) [] pos) (tCall sp dvs E0 t) := by
  obtain ⟨f, fd, ds, F, b, rd, kp, g⟩ := pr.ex
  exact pe_call F (hr.mono hk) hg g kp b rd pass0 ha hd he hpl
end
/-- both ways of binding of a def with one default, from what the top says -/
theorem DfD.mk1 {K : PySem.W.Frag} {mg : Str → Option Value} {x : Str} {st : Stmt} {p1 p2 : Str} {f T : Addr} {oc ocT : Value} {od odT an : Option Addr} {osl slT : Array (Option Value)} {kV doc pm cdv ct dv : Value} {n : Nat} {d : V}
    (l : K.lookup f = some ⟨oc, od, .func (PySem.W.fnOf x x (defArgs st) (defBody st) (defScope st) (.ref T) kV doc pm an cdv ct), osl⟩) (c : PySem.W.codeIn K cdv x = true) (k : PySem.W.keepIn K (.ref f) = true)
    (lT : K.lookup T = some ⟨ocT, odT, .seq #[dv] n, slT⟩) (hd : RelV d dv) (g : mg x = some (.ref f))
    (h1 : ∀ (T : Addr) (kV doc pm : Value) (an : Option Addr) (cdv ct : Value) (u i : Value), ∃ k, bindArgs (PySem.W.fnOf x x (defArgs st) (defBody st) (defScope st) (.ref T) kV doc pm an cdv ct) ⟨[u], []⟩ = seqItems? (.ref T) >>= k ∧ k (some #[i]) = pure (List.zip [p1, p2] [u, i]))
    (h2 : ∀ (T : Addr) (kV doc pm : Value) (an : Option Addr) (cdv ct : Value) (u v i : Value), ∃ k, bindArgs (PySem.W.fnOf x x (defArgs st) (defBody st) (defScope st) (.ref T) kV doc pm an cdv ct) ⟨[u, v], []⟩ = seqItems? (.ref T) >>= k ∧ k (some #[i]) = pure (List.zip [p1, p2] [u, v])) :
    DfD K mg x st [d] [p1, p2] := by
  have F : FunD K x x (defArgs st) (defBody st) (defScope st) [d] [] f (PySem.W.fnOf x x (defArgs st) (defBody st) (defScope st) (.ref T) kV doc pm an cdv ct) :=
    ⟨⟨oc, od, _, kV, doc, pm, an, cdv, ct, osl, rfl, l, c, .inr ⟨by simp, T, _, [dv], n, rfl, lT, rfl, .cons hd .nil⟩, .inl rfl⟩, k⟩
  obtain ⟨ds, r1, b1⟩ := F.binds1 (ps := [p1, p2]) 1 0 (by simp) rfl fun T kV doc pm an cdv ct us its h3 h4 => match us, its, h3, h4 with | [u], [i], _, _ => h1 T kV doc pm an cdv ct u i
  obtain ⟨ds2, r2, b2⟩ := F.binds1 (ps := [p1, p2]) 2 1 (by simp) rfl fun T kV doc pm an cdv ct us its h3 h4 => match us, its, h3, h4 with | [u, v], [i], _, _ => h2 T kV doc pm an cdv ct u v i
  cases r2
  exact ⟨f, _, ds, F, b2, b1, r1, g⟩
/-! ### great numbers -/
/-- // by a divisor that is not 0, below 2 ^ 9000 -/
def CDivX (_ j : Int) : Prop := j ≠ 0 ∧ j.natAbs.log2 < 9000
theorem CDivX.of {i j : Int} {b : Nat} (h : j ≠ 0) (hb : j.natAbs < 2 ^ b) (h0 : 0 < b) (h9 : b ≤ 9000) : CDivX i j := ⟨h, Nat.lt_of_lt_of_le (PySem.Flt.log2_lt_of h0 hb) h9⟩
theorem op_fdivX {X : Cx} : OpR X (binaryOp .FloorDiv) (rI CDivX fun i j => .int (i.fdiv j)) := opI fun i j _ _ _ _ _ hc q => floordiv_int hc.1 q (.inl (PyProof.noPylong_of_log2 hc.2))
/-- a statement that is not reached -/
theorem ps_dead {X : Cx} {st : Stmt} : PS X st (fun _ _ _ => False) := ⟨fun _ _ _ _ _ _ h => h.elim⟩
section
variable {P : Program} {w : World} {K : PySem.W.Frag} {mg : Str → Option Value} {base : Heap} {H : Hp} {Q : VK} {E : XK} {σ : L2.St} {D : Ends}
theorem w_gcd {a b : Int} (q : Q (.int ((Nat.gcd a.natAbs b.natAbs : Nat) : Int)) H) : rGcd [.int a, .int b] H Q := ⟨a, b, rfl, q⟩
theorem w_bits {te : TE} (h : te σ H fun x H1 => ∃ i, x = .int i ∧ Q (.int (Builtin.Int.intBits i : Nat)) H1) : tBits te σ H Q := h
theorem w_wmul {g : Int → Int → V} {i j : Int} {a b : Nat} (ha : i.natAbs < 2 ^ a) (hb : j.natAbs < 2 ^ b) (h0 : 0 < a) (h1 : 0 < b) (h : a + b ≤ 1000000) (q : Q (g i j) H) : rI CMulW g (.int i) (.int j) H Q := w_rI (wide_mul ha hb h0 h1 h) q
theorem w_wdiv {g : Int → Int → V} {i j : Int} {b : Nat} (h : j ≠ 0) (hb : j.natAbs < 2 ^ b) (h0 : 0 < b) (h9 : b ≤ 9000) (q : Q (g i j) H) : rI CDivX g (.int i) (.int j) H Q := w_rI (CDivX.of h hb h0 h9) q
theorem w_two {x y : V} {p : V → V → Prop} (h : p x y) : ∃ u v, [x, y] = [u, v] ∧ p u v := ⟨x, y, rfl, h⟩
theorem w_par {i j : Nat} {ta : TA} (h : ta σ H fun vs H1 => ∃ x y, vs = [x, y] ∧ D.nx ((σ.set i (some x)).set j (some y)) H1) : tPar i j ta D σ H := h
theorem w_gtup {n : Nat} {t : TGs} {a : Addr} {xs : List V} {QS : L2.St → Hp → Prop} (h : SqT K H a xs) (l : xs.length = n) (q : t xs σ H QS) : gTup K n t (.ref a) σ H QS := ⟨a, xs, rfl, h, l, q⟩
theorem w_glst {n : Nat} {t : TGs} {a : Addr} {xs : List V} {QS : L2.St → Hp → Prop} (h : SqL K H a xs) (l : xs.length = n) (q : t xs σ H QS) : gLst K n t (.ref a) σ H QS := ⟨a, xs, rfl, h, l, q⟩
theorem w_rng2 {ta : TA} {R : It → Hp → Prop} (h : ta σ H fun vs H1 => ∃ i j : Int, vs = [.int i, .int j] ∧ (-(2 ^ 62) ≤ i ∧ i < 2 ^ 62 ∧ -(2 ^ 62) ≤ j ∧ j < 2 ^ 62) ∧ R (Itr i (j - i).toNat) H1) : iRng2 ta σ H R := h
theorem w_rng2x {i j : Int} {p : Int → Int → Prop} (h0 : -4611686018427387904 ≤ i) (h1 : i < 4611686018427387904) (h2 : -4611686018427387904 ≤ j) (h3 : j < 4611686018427387904) (q : p i j) : ∃ i' j' : Int, [V.int i, V.int j] = [.int i', .int j'] ∧ (-(2 ^ 62) ≤ i' ∧ i' < 2 ^ 62 ∧ -(2 ^ 62) ≤ j' ∧ j' < 2 ^ 62) ∧ p i' j' := ⟨i, j, rfl, ⟨by omega, by omega, by omega, by omega⟩, q⟩
theorem w_gcons {t : TG} {u : TGs} {v : V} {r : List V} {QS : L2.St → Hp → Prop} (h : t v σ H fun σ' H' => u r σ' H' QS) : gCons t u (v :: r) σ H QS := ⟨v, r, rfl, h⟩
theorem w_gnil {QS : L2.St → Hp → Prop} (h : QS σ H) : gNil [] σ H QS := ⟨rfl, h⟩
end
theorem pg_tupK {X : Cx} {K : PySem.W.Frag} {pos : Pos} {es : List Expr} {k : Nat} {t : TGs} {n : Nat} (e : X.K = K) (hc : X.calm = true) (h : PGs X es t)
    (hn : (assignEach es X.env).length = n := by rfl) (hst : (assignEach es X.env).findIdx? (·.1) = none := by rfl) : PG X (.Tuple es k pos) (gTup K n t) := by subst e; exact pg_tup hc h hn hst
/-- behind a locked walk of the dict at d -/
theorem Ext.unlock {H H' : Hp} {d : Addr} {od : Obj} {u : HO} (e : Ext (upd H d (.frz od u)) H') (h : H d = some u) (n : ¬ Pl u) : Ext H (upd H' d u) := fun b o q => by
  by_cases hb : b = d
  · subst hb
    rw [h] at q; cases q
    exact ⟨fun _ => upd_same, fun z => absurd z n⟩
  · rw [upd_ne hb]
    exact e b o (by rw [upd_ne hb]; exact q)
theorem w_lock {t : TS} {D : Ends} {σ : L2.St} {H : Hp} {d : Addr} {u : HO} (h : H d = some u) (m : Mut (some u)) (q : ∀ od, t ⟨fun σ' H' => H' d = some (.frz od u) ∧ D.nx σ' (upd H' d u), fun v H' => H' d = some (.frz od u) ∧ D.rt v (upd H' d u), fun σ' H' => H' d = some (.frz od u) ∧ D.bk σ' (upd H' d u), fun σ' H' => H' d = some (.frz od u) ∧ D.ct σ' (upd H' d u)⟩ σ (upd H d (.frz od u))) :
    tLock t D σ H := ⟨d, u, h, m, q⟩
/-- for k in d, d locked -/
theorem for_keysK {d : Addr} {o : Obj} {kvs : List (Key × V)} {g : TG} {tb : TS} {D : Ends} {σ : L2.St} {H : Hp} (Pv : Nat → L2.St → Hp → Prop) (h0 : Pv 0 σ H) (hl : ∀ i σ H, i ≤ kvs.length → Pv i σ H → H d = some (.frz o (.dK kvs)))
    (hs : ∀ i k v σ H, kvs[i]? = some (k, v) → Pv i σ H → g (kV k) σ H fun σ2 H2 => tb { D with nx := Pv (i + 1), ct := Pv (i + 1), bk := D.nx } σ2 H2) (hd : ∀ σ H, Pv kvs.length σ H → D.nx σ H) :
    ∃ W : Nat → Nat → L2.St → Hp → Prop, (∃ m, W 0 m σ H) ∧ ∀ i m σ H, W i m σ H →
      ((Itk d o kvs).stop i H ∧ D.nx σ H) ∨ ((Itk d o kvs).go i H ∧ ∃ N : L2.St → Hp → Prop, (∀ σ' H', N σ' H' → ∃ m', m' < m ∧ W (i + 1) m' σ' H') ∧ ∀ x H', (Itk d o kvs).yld i H x H' → g x σ H' fun σ2 H2 => tb { D with nx := N, ct := N, bk := D.nx } σ2 H2) := by
  refine ⟨fun i m σ H => m = kvs.length - i ∧ i ≤ kvs.length ∧ Pv i σ H, ⟨kvs.length, by simp, Nat.zero_le _, h0⟩, ?_⟩
  rintro i m σ H ⟨rfl, hi, p⟩
  have q := hl i σ H hi p
  by_cases hlt : i < kvs.length
  · refine .inr ⟨⟨q, hlt⟩, Pv (i + 1), fun σ' H' p' => ⟨kvs.length - (i + 1), by omega, rfl, hlt, p'⟩, fun x H' y => ?_⟩
    obtain ⟨e, k, v, y, z⟩ := y
    subst e z
    exact hs i k v σ _ y p
  · have e : i = kvs.length := by omega
    subst e
    exact .inl ⟨⟨q, Nat.le_refl _⟩, hd σ H p⟩
theorem w_ikeys {td : TE} {σ : L2.St} {H : Hp} {R : It → Hp → Prop} (h : td σ H fun x H1 => ∃ d o, x = .ref d ∧ ((∃ kvs, H1 d = some (.frz o (.dK kvs)) ∧ R (Itk d o kvs) H1) ∨ ∃ kvs, H1 d = some (.frz o (.dT kvs)) ∧ R (Itkt d o kvs) H1)) : iKeys td σ H R := h
theorem w_ikeysx {H : Hp} {d : Addr} {o : Obj} {kvs : List (Key × V)} {p : It → Prop} (h : H d = some (.frz o (.dK kvs))) (q : p (Itk d o kvs)) : ∃ d' o', V.ref d = .ref d' ∧ ((∃ kvs, H d' = some (.frz o' (.dK kvs)) ∧ p (Itk d' o' kvs)) ∨ ∃ kvs, H d' = some (.frz o' (.dT kvs)) ∧ p (Itkt d' o' kvs)) :=
  ⟨d, o, rfl, .inl ⟨kvs, h, q⟩⟩
/-! ### a range by steps -/
theorem w_rng3 {ta : TA} {R : It → Hp → Prop} {σ : L2.St} {H : Hp} (h : ta σ H fun vs H1 => ∃ (i j c : Int) (n : Nat), vs = [.int i, .int j, .int c] ∧ RgC i j c n ∧ R (Itc i c n) H1) : iRng3 ta σ H R := h
theorem rg_small : ∀ n : Fin 100, Builtin.Range.small 0 ((n.val : Nat) : Int) 2 = true ∧ Builtin.Range.rangeSize 0 ((n.val : Nat) : Int) 2 = (((n.val + 1) / 2 : Nat) : Int) := by decide +kernel
theorem rg_two {n : Nat} (h : n < 100) : RgC 0 (n : Int) 2 ((n + 1) / 2) := ⟨by decide, by decide, (rg_small ⟨n, h⟩).1, (rg_small ⟨n, h⟩).2⟩
theorem lc_rc {lo c : Int} {n : Nat} {g : TG} {tt : TT} {te : TE} {vs : List Nat} {σ : L2.St} {H : Hp} {Qd : Addr → Hp → Prop} (R : Nat → List V → Hp → Prop) (h0 : R 0 [] H) (mono : ∀ i acc H1 H2, Ext H1 H2 → R i acc H1 → R i acc H2)
    (hs : ∀ i acc D H1, i < n → H D = none → H1 D = some (.lst acc) → Ext H H1 → R i acc (del H1 D) → g (.int (lo + (i : Nat) * c)) (wipe σ vs) H1 fun σ2 H2 => wipe σ2 vs = wipe σ vs ∧ tt σ2 H2 fun b H3 =>
      if b = true then te σ2 H3 fun y H4 => ∃ acc, H4 D = some (.lst acc) ∧ acc.length < sizeLine ∧ LcP H D R (i + 1) (upd H4 D (.lst (acc ++ [y]))) else LcP H D R (i + 1) H3)
    (hd : ∀ D acc H1, H D = none → H1 D = some (.lst acc) → Ext H H1 → R n acc H1 → Qd D H1) :
    ∀ D, H D = none → ∃ W : Nat → Nat → Hp → Prop, (∃ m, W 0 m (upd H D (.lst []))) ∧ ∀ i m H, W i m H →
      ((Itc lo c n).stop i H ∧ Qd D H) ∨ ((Itc lo c n).go i H ∧ ∃ Nx : Hp → Prop, (∀ H', Nx H' → ∃ m', m' < m ∧ W (i + 1) m' H') ∧ ∀ x H', (Itc lo c n).yld i H x H' → g x (wipe σ vs) H' fun σ2 H2 => wipe σ2 vs = wipe σ vs ∧ tt σ2 H2 fun b H3 =>
        if b = true then te σ2 H3 fun y H4 => ∃ acc, H4 D = some (.lst acc) ∧ acc.length < sizeLine ∧ Nx (upd H4 D (.lst (acc ++ [y]))) else Nx H3) := fun D hD => by
  refine ⟨fun i m H' => m = n - i ∧ i ≤ n ∧ LcP H D R i H', ⟨n, by simp, Nat.zero_le _, ⟨[], upd_same, Ext.new hD, by rw [del_upd, del_new hD]; exact h0⟩⟩, ?_⟩
  rintro i m H' ⟨rfl, hi, p⟩
  by_cases hlt : i < n
  · refine .inr ⟨hlt, LcP H D R (i + 1), fun H' p' => ⟨n - (i + 1), by omega, rfl, hlt, p'⟩, fun x H' y => ?_⟩
    obtain ⟨e, y⟩ := y
    subst e y
    obtain ⟨acc, h1, e1, r1⟩ := p
    exact hs i acc D _ hlt hD h1 e1 r1
  · have e : i = n := by omega
    subst e
    obtain ⟨acc, h1, e1, r1⟩ := p
    exact .inl ⟨Nat.le_refl _, hd D acc H' hD h1 e1 (mono _ _ _ _ del_sub r1)⟩
/-! ### the last pieces of a list -/
theorem atI_mid {α : Type} {f : α → V} {pre suf : List α} {c : α} {i : Int} (h : i = (pre.length : Nat)) : atI ((pre ++ c :: suf).map f) i = some (f c) := by
  subst h
  refine atI_nat ?_
  rw [List.map_append, List.getElem?_append_right (by simp), List.length_map, Nat.sub_self]; rfl
end Kf

end
section
set_option Elab.async false
set_option linter.all false
set_option maxRecDepth 100000
set_option maxHeartbeats 4000000
namespace Kf
open PySem PySem.Spec PyProof.Rows L2
/-! ### classes: a method, its promise -/
structure DfM (K : PySem.W.Frag) (C : Addr) (m qual : Str) (st : Stmt) (ps : List Str) : Prop where
  ex : ∃ f fd, Fun K m qual st f fd ∧ Binds K fd ps [] ∧ Meth K C m f
structure PrM (P : Program) (w : World) (K : PySem.W.Frag) (mg : Str → Option Value) (base : Heap) (C : Addr) (m : Str) (k : Nat) (ps : List Str) (sp : Sp) : Prop where
  ex : ∃ f fd, FnOk P w K mg base CX0 k f fd ps sp ∧ Binds K fd ps [] ∧ Meth K C m f
structure DfI (K : PySem.W.Frag) (mg : Str → Option Value) (C : Addr) (x qual : Str) (st : Stmt) (ps : List Str) : Prop where
  ex : ∃ f fd, Fun K "__init__" qual st f fd ∧ Binds K fd ps [] ∧ Mk K C f ∧ mg x = some (.ref C)
structure PrI (P : Program) (w : World) (K : PySem.W.Frag) (mg : Str → Option Value) (base : Heap) (C : Addr) (x : Str) (k : Nat) (ps : List Str) (sp : Sp) : Prop where
  ex : ∃ f fd, FnOk P w K mg base CX0 k f fd ps sp ∧ Binds K fd ps [] ∧ Mk K C f ∧ mg x = some (.ref C)
section
variable {P : Program} {w : World} {K : PySem.W.Frag} {mg : Str → Option Value} {base : Heap} {C : Addr} {m x qual : Str} {st : Stmt} {ps N : List Str} {k j : Nat} {sp sp' : Sp}
theorem DfM.ok (D : DfM K C m qual st ps) (S : FnScope N ps (defScope st)) (len : ∀ vs H Q E, sp vs H Q E → vs.length = ps.length)
    (hbody : ∀ (f : Addr) (cdv : Value) (A : Around) (outer : List Env) (s : Shared) (H : Hp) (vs : List V) (Q : VK) (E : XK), Room k (A.deeper (envOfC qual (defScope st) s.heap.objs.size f cdv)) → sp vs H Q E →
      ∃ t, PSs (cxOf CX0 P w K mg base N qual (defScope st) f cdv A outer s H E).nox (defBody st) t ∧ t { nx := fun _ H' => Q .non H', rt := Q } (start N vs) H) : PrM P w K mg base C m (k + 1) ps sp := by
  obtain ⟨f, fd, F, b, M⟩ := D.ex
  exact ⟨f, fd, F.ok S len (hbody f), b, M⟩
theorem DfI.ok (D : DfI K mg C x qual st ps) (S : FnScope N ps (defScope st)) (len : ∀ vs H Q E, sp vs H Q E → vs.length = ps.length)
    (hbody : ∀ (f : Addr) (cdv : Value) (A : Around) (outer : List Env) (s : Shared) (H : Hp) (vs : List V) (Q : VK) (E : XK), Room k (A.deeper (envOfC qual (defScope st) s.heap.objs.size f cdv)) → sp vs H Q E →
      ∃ t, PSs (cxOf CX0 P w K mg base N qual (defScope st) f cdv A outer s H E).nox (defBody st) t ∧ t { nx := fun _ H' => Q .non H', rt := Q } (start N vs) H) : PrI P w K mg base C x (k + 1) ps sp := by
  obtain ⟨f, fd, F, b, M⟩ := D.ex
  exact ⟨f, fd, F.ok S len (hbody f), b, M⟩
theorem DfM.mk' {f : Addr} {oc : Value} {od an : Option Addr} {osl : Array (Option Value)} {kV doc pm cdv ct : Value} (l : K.lookup f = some ⟨oc, od, .func (PySem.W.fnOf m qual (defArgs st) (defBody st) (defScope st) .none kV doc pm an cdv ct), osl⟩)
    (c : PySem.W.codeIn K cdv qual = true) (kp : PySem.W.keepIn K (.ref f) = true) (b : ∀ F : Fun K m qual st f (PySem.W.fnOf m qual (defArgs st) (defBody st) (defScope st) .none kV doc pm an cdv ct), Binds K (PySem.W.fnOf m qual (defArgs st) (defBody st) (defScope st) .none kV doc pm an cdv ct) ps [])
    (a : PySem.W.findIn K (.ref C) m = some (some (.ref f))) (i : PySem.W.isFn K (.ref f) = true) : DfM K C m qual st ps := ⟨f, _, fun_mk l c kp, b (fun_mk l c kp), ⟨a, i, kp⟩⟩
theorem DfI.mk' {f : Addr} {oc : Value} {od an : Option Addr} {osl : Array (Option Value)} {kV doc pm cdv ct : Value} (l : K.lookup f = some ⟨oc, od, .func (PySem.W.fnOf "__init__" qual (defArgs st) (defBody st) (defScope st) .none kV doc pm an cdv ct), osl⟩)
    (c : PySem.W.codeIn K cdv qual = true) (kp : PySem.W.keepIn K (.ref f) = true) (b : ∀ F : Fun K "__init__" qual st f (PySem.W.fnOf "__init__" qual (defArgs st) (defBody st) (defScope st) .none kV doc pm an cdv ct), Binds K (PySem.W.fnOf "__init__" qual (defArgs st) (defBody st) (defScope st) .none kV doc pm an cdv ct) ps [])
    (a : PySem.W.findIn K (.ref C) "__init__" = some (some (.ref f))) (i : PySem.W.isFn K (.ref f) = true) (mk : PySem.W.makesIn K C = true) (kc : PySem.W.keepIn K (.ref C) = true) (g : mg x = some (.ref C)) : DfI K mg C x qual st ps := ⟨f, _, fun_mk l c kp, b (fun_mk l c kp), ⟨mk, a, i, kc⟩, g⟩
end
section
variable {X : Cx} {x m : Str} {k j : Nat} {ps : List Str} {sp : Sp} {o e : Expr} {es : List Expr} {ta : TE} {t : TA} {p pos apos : Pos} {C : Addr}
theorem pe_methP {pl : Sem Bool} (pr : PrM X.prog X.w X.K X.mg X.base C m k ps sp) (c : Cls X.K C) (hr : Room j X.A) (he : PE X o ta) (ha : PA X (e :: es) t) (hk : k ≤ j := by decide)
    (hst : starEach (e :: es) X.env = (false, eval e X.env) :: starEach es X.env := by rfl) (hpl : (backTo pos (starEach es X.env)).any (·.1) = false := by rfl)
    (ht : eval (.Call (.Attribute o m apos) (e :: es) [] pos) X.env = (do
      let ov ← eval o X.env
      standAt apos.atName
      let (f, first) ← holding [ov] (getMethod ov m pl)
      callWith pos f first (backTo pos (starEach (e :: es) X.env)) (backToKw pos (keywordEach [] X.env))) := by rfl) :
    PE X (.Call (.Attribute o m apos) (e :: es) [] pos) (tMeth C m sp [] E0 ta t) := by
  obtain ⟨f, fd, F, b, M⟩ := pr.ex
  exact pe_meth he c M F (hr.mono hk) b .nil pass0 ha hst hpl ht
theorem pe_methP0 {pl : Sem Bool} (pr : PrM X.prog X.w X.K X.mg X.base C m k ps sp) (c : Cls X.K C) (hr : Room j X.A) (he : PE X o ta) (hk : k ≤ j := by decide)
    (ht : eval (.Call (.Attribute o m apos) [] [] pos) X.env = (do
      let ov ← eval o X.env
      standAt apos.atName
      let (f, first) ← holding [ov] (getMethod ov m pl)
      callWith pos f first (backTo pos (starEach [] X.env)) (backToKw pos (keywordEach [] X.env))) := by rfl) :
    PE X (.Call (.Attribute o m apos) [] [] pos) (tMeth C m sp [] E0 ta tNil) := by
  obtain ⟨f, fd, F, b, M⟩ := pr.ex
  exact pe_meth0 he c M F (hr.mono hk) b .nil pass0 ht
theorem pe_makeP (pr : PrI X.prog X.w X.K X.mg X.base C x k ps sp) (hr : Room (j + 1) X.A) (ha : PA X (e :: es) t) (hk : k ≤ j := by decide) (hg : Gl X x := by rfl) (hdb : (x == ("__debug__" : Str)) = false := by decide)
    (he : starEach (e :: es) X.env = (false, eval e X.env) :: starEach es X.env := by rfl) (hpl : (backTo pos (starEach es X.env)).any (·.1) = false := by rfl) :
    PE X (.Call (.Name x p) (e :: es) [] pos) (tMake C sp [] E0 t) := by
  obtain ⟨f, fd, F, b, M, g⟩ := pr.ex
  exact pe_make M F (hr.mono (by omega)) hg g b .nil pass0 ha hdb he hpl
end
section
variable {X : Cx} {K : PySem.W.Frag} {o e value : Expr} {f : Str} {pos pos' tpos : Pos} {ta tv : TE}
theorem pe_fldK (ek : X.K = K) (he : PE X e ta) (hb : attributeBase e f X.env (eval e X.env) = eval e X.env) : PE X (.Attribute e f pos) (tFld K ta f) := by subst ek; exact pe_fld he hb
theorem ps_fldK (ek : X.K = K) (ha : PE X o ta) (hv : PE X value tv) (hs : swapsWith value (some (.Attribute o f pos')) pos.line X.env = pure false) : PS X (.Assign [.Attribute o f pos'] value pos) (sFld K ta tv f) := by subst ek; exact ps_fld ha hv hs
theorem ps_fldaugK {op : Operator} {rd : V → V → Hp → VK → Prop} (ek : X.K = K) (ha : PE X o ta) (hv : PE X value tv) (hop : InOp X op rd) : PS X (.AugAssign (.Attribute o f tpos) op value pos) (sFldAug K ta tv rd f) := by subst ek; exact ps_fldaug ha hv hop
end
section
variable {σ : L2.St} {H : Hp} {Q : VK} {D : Ends} {K : PySem.W.Frag}
theorem w_fld {ta : TE} {f : Str} (h : ta σ H fun x H1 => ∃ a C dx fs v, x = .ref a ∧ H1 a = some (.ins C dx fs) ∧ Cls K C ∧ NoAttr K C f ∧ fs.lookup f = some v ∧ Q v H1) : tFld K ta f σ H Q := h
theorem w_sfld {ta tv : TE} {f : Str} (h : tv σ H fun y H1 => ta σ H1 fun x H2 => ∃ a C dx fs, x = .ref a ∧ H2 a = some (.ins C dx fs) ∧ Cls K C ∧ NoAttr K C f ∧ fs.length < 1000 ∧ D.nx σ (upd H2 a (.ins C dx (putF f y fs)))) : sFld K ta tv f D σ H := h
theorem w_meth {C : Addr} {m : Str} {sp : Sp} {dvs : List V} {E : XK} {ta : TE} {t : TA} (h : ta σ H fun x H1 => ∃ a dx fs, x = .ref a ∧ H1 a = some (.ins C dx fs) ∧ fs.lookup m = none ∧ t σ H1 fun vs H2 => sp (x :: (vs ++ dvs)) H2 Q E) : tMeth C m sp dvs E ta t σ H Q := h
theorem w_ddel {td ty : TE} (h : td σ H fun x H1 => ty σ H1 fun y H2 => ∃ a kvs k, x = .ref a ∧ H2 a = some (.dK kvs) ∧ y = kV k ∧ (valV kvs k).isSome = true ∧ D.nx σ (upd H2 a (.dK (dropK kvs k)))) : sDDel td ty D σ H := h
theorem w_dget1 {td ty : TE} (h : td σ H fun x H1 => ∃ a, x = .ref a ∧ IsD H1 a ∧ ty σ H1 fun y H2 => ∃ o, DGet H2 a y o ∧ Q (o.getD .non) H2) : tDGet1 td ty σ H Q := h
theorem w_dget2 {td ty tx : TE} (h : td σ H fun x H1 => ∃ a, x = .ref a ∧ IsD H1 a ∧ ty σ H1 fun y H2 => tx σ H2 fun z H3 => ∃ o, DGet H3 a y o ∧ Q (o.getD z) H3) : tDGet2 td ty tx σ H Q := h
theorem w_dput {td ty tv : TE} (h : tv σ H fun v H1 => td σ H1 fun x H2 => ty σ H2 fun y H3 => ∃ a H4, x = .ref a ∧ DPut H3 a y v H4 ∧ D.nx σ H4) : sDPut td ty tv D σ H := h
end
section
variable {H : Hp} {K : PySem.W.Frag} {C : Addr}
theorem w_fldx {f : Str} {a dx : Addr} {fs : List (Str × V)} {v : V} {p : V → Prop} (h : H a = some (.ins C dx fs)) (c : Cls K C) (n : NoAttr K C f) (l : fs.lookup f = some v) (q : p v) :
    ∃ a' C' dx' fs' v', V.ref a = .ref a' ∧ H a' = some (.ins C' dx' fs') ∧ Cls K C' ∧ NoAttr K C' f ∧ fs'.lookup f = some v' ∧ p v' := ⟨a, C, dx, fs, v, rfl, h, c, n, l, q⟩
theorem w_sfldx {f : Str} {a dx : Addr} {fs : List (Str × V)} {y : V} {p : Hp → Prop} (h : H a = some (.ins C dx fs)) (c : Cls K C) (n : NoAttr K C f) (l : Nat.blt fs.length 1000 = true) (q : p (upd H a (.ins C dx (putF f y fs)))) :
    ∃ a' C' dx' fs', V.ref a = .ref a' ∧ H a' = some (.ins C' dx' fs') ∧ Cls K C' ∧ NoAttr K C' f ∧ fs'.length < 1000 ∧ p (upd H a' (.ins C' dx' (putF f y fs'))) := ⟨a, C, dx, fs, rfl, h, c, n, Nat.le_of_ble_eq_true l, q⟩
theorem w_methx {m : Str} {a dx : Addr} {fs : List (Str × V)} {p : Prop} (h : H a = some (.ins C dx fs)) (l : fs.lookup m = none) (q : p) : ∃ a' dx' fs', V.ref a = .ref a' ∧ H a' = some (.ins C dx' fs') ∧ fs'.lookup m = none ∧ p := ⟨a, dx, fs, rfl, h, l, q⟩
theorem w_dgetS {d : Addr} {x : Str} {v : V} {kvs : List (Key × V)} {p : V → Prop} (h : H d = some (.dK kvs)) (e : valV kvs (.inr x) = some v) (q : p v) : ∃ a v, V.ref d = .ref a ∧ DGet H a (.str x) (some v) ∧ p v := ⟨d, v, rfl, .inl ⟨kvs, .inr x, .inl h, rfl, e.symm⟩, q⟩
end
section
variable {σ : L2.St} {H : Hp} {Q : VK} {D : Ends} {K : PySem.W.Frag} {C : Addr}
theorem w_sfldaug {ta tv : TE} {rd : V → V → Hp → VK → Prop} {f : Str} (h : ta σ H fun x H1 => ∃ a C dx fs v, x = .ref a ∧ H1 a = some (.ins C dx fs) ∧ Cls K C ∧ NoAttr K C f ∧ fs.lookup f = some v ∧
  tv σ H1 fun y H2 => rd v y H2 fun z H3 => ∃ dx' fs', H3 a = some (.ins C dx' fs') ∧ fs'.length < 1000 ∧ D.nx σ (upd H3 a (.ins C dx' (putF f z fs')))) : sFldAug K ta tv rd f D σ H := h
theorem w_sfldaugx {f : Str} {a dx : Addr} {fs : List (Str × V)} {v : V} {p : Addr → Addr → V → Prop} (h : H a = some (.ins C dx fs)) (c : Cls K C) (n : NoAttr K C f) (l : fs.lookup f = some v) (q : p a C v) :
    ∃ a' C' dx' fs' v', V.ref a = .ref a' ∧ H a' = some (.ins C' dx' fs') ∧ Cls K C' ∧ NoAttr K C' f ∧ fs'.lookup f = some v' ∧ p a' C' v' := ⟨a, C, dx, fs, v, rfl, h, c, n, l, q⟩
theorem w_inadd {i j : Int} (q : Q (.int (i + j)) H) : rAdd (.int i) (.int j) H Q := ⟨i, j, rfl, rfl, q⟩
theorem w_dnotin {ty td : TE} (h : ty σ H fun y H1 => td σ H1 fun x H2 => ∃ a o, x = .ref a ∧ DGet H2 a y o ∧ Q (.bl (!o.isSome)) H2) : tDNotIn ty td σ H Q := h
end
/-! ### a dict display -/
theorem w_disp {trs : List (TE × TE)} {σ : L2.St} {H : Hp} {Q : VK} (h : ∀ p, H p = none → tPairs trs σ (upd H p (.dK [])) fun ps H2 => H2 p = some (.dK []) ∧ ∃ kvs : List (Key × V), ps = kvs.map (fun kv => (kV kv.1, kv.2)) ∧ kvs.length ≤ 15 ∧ Q (.ref p) (upd H2 p (.dK (mergeK [] kvs)))) : tDisp trs σ H Q := h
theorem w_pcons {tk tv : TE} {r : List (TE × TE)} {σ : L2.St} {H : Hp} {Q : List (V × V) → Hp → Prop} (h : tk σ H fun x H1 => tv σ H1 fun y H2 => tPairs r σ H2 fun ps H3 => Q ((x, y) :: ps) H3) : tPairs ((tk, tv) :: r) σ H Q := h
theorem w_pnil {σ : L2.St} {H : Hp} {Q : List (V × V) → Hp → Prop} (h : Q [] H) : tPairs [] σ H Q := h
theorem w_make {C : Addr} {sp : Sp} {dvs : List V} {E : XK} {t : TA} {σ : L2.St} {H : Hp} {Q : VK} (h : t σ H fun vs H1 => ∀ x dx, H1 x = none → H1 dx = none → dx ≠ x → sp (.ref x :: (vs ++ dvs)) (upd (upd H1 dx (.own x)) x (.ins C dx [])) (fun v H2 => v = .non ∧ Q (.ref x) H2) E) : tMake C sp dvs E t σ H Q := h
/-! ### a dict comprehension over a list -/
theorem w_dc {wi : TI} {g : TG} {tt : TT} {tk tv : TE} {vs : List Nat} {σ : L2.St} {H : Hp} {Q : VK} (h : wi σ H fun J H1 => ∀ D, H1 D = none → ∃ W : Nat → Nat → Hp → Prop, (∃ m, W 0 m (upd H1 D (.dK []))) ∧ ∀ i m H, W i m H →
  (J.stop i H ∧ Q (.ref D) H) ∨ (J.go i H ∧ ∃ Nx : Hp → Prop, (∀ H', Nx H' → ∃ m', m' < m ∧ W (i + 1) m' H') ∧ ∀ x H', J.yld i H x H' → g x (wipe σ vs) H' fun σ2 H2 => wipe σ2 vs = wipe σ vs ∧ tt σ2 H2 fun b H3 =>
    if b = true then tk σ2 H3 fun y H4 => tv σ2 H4 fun z H5 => ∃ kvs k, y = kV k ∧ H5 D = some (.dK kvs) ∧ kvs.length < sizeLine ∧ Nx (upd H5 D (.dK (putK kvs k z))) else Nx H3)) : tDc wi g tt tk tv vs σ H Q := h
theorem dc_list {K : PySem.W.Frag} {a : Addr} {xs : List V} {g : TG} {tt : TT} {tk tv : TE} {vs : List Nat} {σ : L2.St} {H1 : Hp} {D : Addr} {Qd : Hp → Prop} (Pv : Nat → Hp → Prop) (h0 : Pv 0 (upd H1 D (.dK []))) (hl : ∀ i H, i ≤ xs.length → Pv i H → SqL K H a xs)
    (hs : ∀ i x H, xs[i]? = some x → Pv i H → g x (wipe σ vs) H fun σ2 H2 => wipe σ2 vs = wipe σ vs ∧ tt σ2 H2 fun b H3 =>
      if b = true then tk σ2 H3 fun y H4 => tv σ2 H4 fun z H5 => ∃ kvs k, y = kV k ∧ H5 D = some (.dK kvs) ∧ kvs.length < sizeLine ∧ Pv (i + 1) (upd H5 D (.dK (putK kvs k z))) else Pv (i + 1) H3) (hd : ∀ H, Pv xs.length H → Qd H) :
    ∃ W : Nat → Nat → Hp → Prop, (∃ m, W 0 m (upd H1 D (.dK []))) ∧ ∀ i m H, W i m H →
      ((Itl K a).stop i H ∧ Qd H) ∨ ((Itl K a).go i H ∧ ∃ Nx : Hp → Prop, (∀ H', Nx H' → ∃ m', m' < m ∧ W (i + 1) m' H') ∧ ∀ x H', (Itl K a).yld i H x H' → g x (wipe σ vs) H' fun σ2 H2 => wipe σ2 vs = wipe σ vs ∧ tt σ2 H2 fun b H3 =>
        if b = true then tk σ2 H3 fun y H4 => tv σ2 H4 fun z H5 => ∃ kvs k, y = kV k ∧ H5 D = some (.dK kvs) ∧ kvs.length < sizeLine ∧ Nx (upd H5 D (.dK (putK kvs k z))) else Nx H3) := by
  refine ⟨fun i m H => m = xs.length - i ∧ i ≤ xs.length ∧ Pv i H, ⟨xs.length, by simp, Nat.zero_le _, h0⟩, ?_⟩
  rintro i m H ⟨rfl, hi, p⟩
  have q := hl i H hi p
  by_cases hlt : i < xs.length
  · refine .inr ⟨⟨xs, xs[i], q, by simp [hlt]⟩, Pv (i + 1), fun H' p' => ⟨xs.length - (i + 1), by omega, rfl, hlt, p'⟩, fun x H' y => ?_⟩
    obtain ⟨e, y⟩ := y
    subst e
    exact hs i x _ (y xs q) p
  · have e : i = xs.length := by omega
    subst e
    exact .inl ⟨⟨xs, q, Nat.le_refl _⟩, hd H p⟩
/-! ### all but some objects -/
/-- all stands as before, but at the addresses of D -/
def Exc (D : List Addr) (H H' : Hp) : Prop := ∀ b o, b ∉ D → H b = some o → (¬ Pl o → H' b = some o) ∧ (Pl o → ∃ o', Pl o' ∧ H' b = some o')
theorem Exc.of {D : List Addr} {H H' : Hp} (e : Ext H H') : Exc D H H' := fun b o _ h => e b o h
theorem Exc.refl {D : List Addr} {H : Hp} : Exc D H H := Exc.of Ext.refl
theorem Exc.trans {D : List Addr} {H H1 H2 : Hp} (a : Exc D H H1) (b : Exc D H1 H2) : Exc D H H2 := fun c o hc e => by
  by_cases h : Pl o
  · obtain ⟨o', p, e'⟩ := (a c o hc e).2 h
    obtain ⟨o'', p', e''⟩ := (b c o' hc e').2 p
    exact ⟨fun n => absurd h n, fun _ => ⟨_, p', e''⟩⟩
  · exact ⟨fun n => (b c o hc ((a c o hc e).1 n)).1 n, fun z => absurd z h⟩
theorem Exc.mono {D E : List Addr} {H H' : Hp} (h : ∀ b ∈ D, b ∈ E) (e : Exc D H H') : Exc E H H' := fun b o hb q => e b o (fun z => hb (h b z)) q
theorem Exc.get {D : List Addr} {H H' : Hp} {b : Addr} {o : HO} (e : Exc D H H') (h : H b = some o) (hb : b ∉ D) (n : ¬ Pl o) : H' b = some o := (e b o hb h).1 n
theorem Exc.upd {D : List Addr} {H H' : Hp} {a : Addr} {o : HO} (e : Exc D H H') (ha : a ∈ D) : Exc D H (upd H' a o) := fun b u hb q => by
  rw [upd_ne (fun z => hb (by rw [z]; exact ha))]
  exact e b u hb q
theorem Exc.non {D : List Addr} {H H' : Hp} (e : Exc D H H') {l : Addr} (hl : l ∉ D) (h : H' l = none) : H l = none := by
  cases q : H l with
  | none => rfl
  | some o =>
    by_cases z : Pl o
    · obtain ⟨o', _, e'⟩ := (e l o hl q).2 z
      rw [h] at e'; cases e'
    · rw [(e l o hl q).1 z] at h; cases h
/-- a new object -/
theorem Exc.new {D : List Addr} {H H' : Hp} {a : Addr} {o : HO} (e : Exc D H H') (n : H' a = none) : Exc D H (L2.upd H' a o) := fun b u hb q => by

  by_cases z : b = a
  · subst z
    rw [e.non hb n] at q; cases q
  · rw [upd_ne z]
    exact e b u hb q
theorem PoolAt.exc {D : List Addr} {H H' : Hp} {v : V} (h : PoolAt H v) (e : Exc D H H') (hD : ∀ b ∈ D, ∀ o, H b = some o → ¬ Pl o) : PoolAt H' v := by
  obtain ⟨a, c, k, b, s, rfl, h⟩ := h
  obtain ⟨o', ⟨c', k', b', s', rfl⟩, h'⟩ := (e a _ (fun z => hD a z _ h ⟨_, _, _, _, rfl⟩) h).2 ⟨_, _, _, _, rfl⟩
  exact ⟨a, c', k', b', s', rfl, h'⟩
/-- outside of a heap that has none of D -/
theorem Ext.exc {D : List Addr} {H0 H H' : Hp} (e0 : Ext H0 H) (e : Exc D H H') (hD : ∀ b ∈ D, H0 b = none) : Ext H0 H' := fun b o q => by
  have hb : b ∉ D := fun z => by rw [hD b z] at q; cases q
  by_cases h : Pl o
  · obtain ⟨o', p, e'⟩ := (e0 b o q).2 h
    obtain ⟨o'', p', e''⟩ := (e b o' hb e').2 p
    exact ⟨fun n => absurd h n, fun _ => ⟨_, p', e''⟩⟩
  · exact ⟨fun n => (e b o hb ((e0 b o q).1 n)).1 n, fun z => absurd z h⟩
end Kf

end
section
set_option Elab.async false
set_option linter.all false
set_option maxRecDepth 100000
set_option maxHeartbeats 4000000
local macro_rules | `(tactic| walk_at "npl") => `(tactic| first | exact Kf.npl rfl | exact Kf.npl_ints _ | exact Kf.npl_one _ _ | exact Kf.npl_refs _ | assumption)
local macro_rules | `(tactic| walk_at "nn") => `(tactic| first
  | assumption
  | (refine' Kf.Ext.non ?nne ?nnh; (case nne => assumption); (case nnh => walk_at "nn")))
local macro_rules | `(tactic| walk_at "ext") => `(tactic| first
  | assumption
  | exact Kf.Ext.refl
  | (refine' Kf.Ext.newer ?exa ?exn; (case exn => assumption); (case exa => walk_at "ext"))
  | (refine' Kf.Ext.own ?exa ?exn; (case exn => walk_at "nn"); (case exa => walk_at "ext"))
  | (refine' Kf.Ext.trans ?exa ?exb; (case exb => assumption); (case exa => walk_at "ext")))
local macro_rules | `(tactic| walk_at "pool") => `(tactic| first
  | assumption
  | (refine' Kf.PoolAt.ext ?plh ?ple; (case plh => assumption); (case ple => walk_at "ext"))
  | (refine' Kf.PoolAt.upd ?plh ?plo ?pln; (case plo => assumption); (case pln => walk_at "npl"); (case plh => walk_at "pool")))
local macro_rules | `(tactic| walk_at "lk") => `(tactic| first
  | assumption
  | exact L2.upd_same
  | (refine' Kf.upd_old ?lkn ?lkh; (case lkn => assumption); (case lkh => walk_at "lk"))
  | (refine' Kf.upd_oth ?lkn ?lkh; (case lkn => (first | assumption | (apply Ne.symm; assumption))); (case lkh => walk_at "lk"))
  | (refine' Kf.Ext.get ?lke ?lkh ?lkn; (case lke => assumption); (case lkh => walk_at "lk"); (case lkn => walk_at "npl"))
  | (refine' L2.Same.at ?lke ?lkh; (case lke => assumption); (case lkh => walk_at "lk")))
local macro_rules | `(tactic| walk_at "sq") => `(tactic| first
  | assumption
  | (refine' L2.SqL.of ?sqh; (case sqh => walk_at "lk"))
  | (refine' L2.SqT.of ?sqh; (case sqh => walk_at "lk"))
  | (refine' Kf.Ext.seqL ?sqe ?sqh ?sqn; (case sqh => assumption); (case sqe => walk_at "ext"); (case sqn => walk_at "npl"))
  | (refine' Kf.Ext.seqT ?sqe ?sqh; (case sqh => assumption); (case sqe => walk_at "ext")))
local macro_rules | `(tactic| walk_at "at") => `(tactic| first | exact L2.atI_nat (j := 0) rfl | exact L2.atI_nat (j := 1) rfl | exact L2.atI_nat (j := 2) rfl | exact L2.atI_nat (j := 3) rfl | exact L2.atI_nat (j := 4) rfl | assumption)
local macro_rules | `(tactic| walk_at "ixn") => `(tactic| first | exact Kf.ixN_nat (j := 0) rfl | exact Kf.ixN_nat (j := 1) rfl | exact Kf.ixN_nat (j := 2) rfl | exact Kf.ixN_nat (j := 3) rfl | assumption)
local macro_rules | `(tactic| walk_at "set") => `(tactic| (first | (simp only [List.set_cons_succ, List.set_cons_zero]; rfl) | rfl))
local macro_rules | `(tactic| walk_at "om") => `(tactic| first | decide | omega | (simp only [List.length_map, List.length_cons, List.length_nil] at *; omega))
local macro_rules | `(tactic| walk_at "calls") => `(tactic| first
  | (with_reducible refine' Kf.call_take ?clp ?cla ?clb ?clq; (case clp => walk_at "pool"); (case cla => walk_at "om"); (case clb => walk_at "om"); intro r H' hE h0 h1)
  | (with_reducible refine' Kf.call_pool ?cls ?cla ?clq; (case cls => walk_at "sq"); (case cla => walk_at "om"); intro p H' hE hN hP)
  | (with_reducible refine' Kf.call_turn ?cls ?clp ?cla ?clq; (case cls => walk_at "sq"); (case clp => walk_at "pool"); (case cla => walk_at "om"); intro u H' hE hP))
local macro_rules | `(tactic| walk_at "side") => `(tactic| first
  | exact Kf.cmul_fmod (by decide) (by decide)
  | exact rfl
  | decide
  | omega
  | assumption
  | (refine ⟨?_, ?_⟩ <;> decide)
  | (refine ⟨?_, ?_, ?_⟩ <;> decide)
  | (refine ⟨?_, ?_⟩ <;> omega)
  | (refine Or.inl ⟨?_, ?_⟩ <;> decide)
  | (refine Or.inr ⟨?_, ?_⟩ <;> decide)
  | (refine Or.inl ⟨?_, ?_⟩ <;> omega)
  | (refine Or.inr ⟨?_, ?_⟩ <;> omega))
local macro_rules | `(tactic| walk_at "kit") => `(tactic| first | exact Kf.isi_int_int | exact Kf.isi_int_bool | exact Kf.isi_int_str | exact Kf.isi_int_list | exact Kf.isi_int_tuple | exact Kf.isi_bool_int | exact Kf.isi_bool_bool | exact Kf.isi_bool_str | exact Kf.isi_bool_list | exact Kf.isi_bool_tuple | exact Kf.isi_str_int | exact Kf.isi_str_bool | exact Kf.isi_str_str | exact Kf.isi_str_list | exact Kf.isi_str_tuple | exact Kf.isi_non_list | exact Kf.isi_non_tuple | exact Kf.isi_list_list | exact Kf.isi_list_tuple | exact Kf.isi_tuple_list | exact Kf.isi_tuple_tuple | exact Kf.isi_dict_dict)
local macro_rules | `(tactic| walk_at "ty") => `(tactic| first
  | exact L2.TyX.base (L2.TyOf.int _)
  | exact L2.TyX.base (L2.TyOf.bl _)
  | exact L2.TyX.base (L2.TyOf.str _)
  | exact L2.TyX.base L2.TyOf.non
  | (refine' L2.TyX.base (L2.TyOf.lst ?tyh); (case tyh => walk_at "lk"))
  | (refine' L2.TyX.base (L2.TyOf.tup ?tyh); (case tyh => walk_at "lk"))
  | (refine' L2.TyX.base (L2.TyOf.dK ?tyh); (case tyh => walk_at "lk")))
local macro_rules | `(tactic| walk_at "om2") => `(tactic| first | assumption | decide | omega)
local macro_rules | `(tactic| walk_at "st") => `(tactic| with_reducible first
  | (refine Kf.w_var rfl ?_)
  | (refine Kf.w_c ?_)
  | (refine Kf.w_seq ?_)
  | (refine Kf.w_asg ?_)
  | (refine' Kf.w_gname ?sth ?_; (case sth => with_unfolding_all walk_at "set"))
  | (refine Kf.w_op ?_)
  | (refine Kf.w_un ?_)
  | (refine Kf.w_rU ?_)
  | (refine Kf.w_rI0 ?_)
  | (refine' Kf.w_rI ?sth ?_; (case sth => with_unfolding_all walk_at "side"))
  | (refine' Kf.w_rEq ?sth ?_; (case sth => with_unfolding_all rfl))
  | (refine' Kf.w_rNe ?sth ?_; (case sth => with_unfolding_all rfl))
  | (refine Kf.w_tTest ?_)
  | (refine Kf.w_tB ?_)
  | (refine Kf.w_exbl ?_)
  | (refine Kf.w_exint ?_)
  | (refine Kf.w_ifS ?_)
  | (refine Kf.w_ret ?_)
  | (refine Kf.w_retN ?_)
  | (refine Kf.w_drop ?_)
  | (refine Kf.w_and ?_)
  | (refine Kf.w_or ?_)
  | (refine Kf.w_not ?_)
  | (refine Kf.w_andV ?_)
  | (refine Kf.w_orV ?_)
  | (refine Kf.w_notV ?_)
  | (refine Kf.w_if ?_)
  | (refine Kf.w_lc ?_)
  | (refine Kf.w_for ?_)
  | (refine Kf.w_rng1 ?_)
  | (refine' Kf.w_rng1x ?sth ?stg ?_; (case sth => with_unfolding_all walk_at "om"); (case stg => with_unfolding_all walk_at "om"))
  | (refine Kf.w_ilist ?_)
  | (refine Kf.w_iseq ?_)
  | (refine Kf.w_itup ?_)
  | (refine' Kf.w_ilistx ?sth ?_; (case sth => with_unfolding_all walk_at "sq"))
  | (refine' Kf.w_itupx ?sth ?_; (case sth => with_unfolding_all walk_at "sq"))
  | (refine' Kf.w_wipe ?sth ?_; (case sth => with_unfolding_all rfl))
  | (refine Kf.w_yes ?_)
  | (refine' Kf.w_isi ?sth ?stg ?_; (case sth => with_unfolding_all walk_at "ty"); (case stg => walk_at "kit"))
  | (refine Kf.w_isN ?_)
  | (refine Kf.w_notN ?_)
  | (refine Kf.w_cb ?_)
  | (refine Kf.w_nil ?_)
  | (refine Kf.w_cons ?_)
  | (refine Kf.w_tup ?_)
  | (refine Kf.w_lst ?_)
  | (refine' Kf.w_lines ?sth ?_; (case sth => with_unfolding_all rfl))
  | (refine Kf.w_call ?_)
  | (refine Kf.w_next ?_)
  | (refine Kf.w_break ?_)
  | (refine Kf.w_cont ?_)
  | (refine Kf.w_dnewK ?_)
  | (refine Kf.w_fld ?_)
  | (refine' Kf.w_fldx ?sth ?stg ?stf ?ste ?_; (case sth => with_unfolding_all walk_at "lk"); (case stg => assumption); (case stf => assumption); (case ste => with_unfolding_all exact rfl))
  | (refine Kf.w_sfld ?_)
  | (refine' Kf.w_sfldx ?sth ?stg ?stf ?ste ?_; (case sth => with_unfolding_all walk_at "lk"); (case stg => assumption); (case stf => assumption); (case ste => with_unfolding_all exact rfl))
  | (refine Kf.w_meth ?_)
  | (refine' Kf.w_methx ?sth ?stg ?_; (case sth => with_unfolding_all walk_at "lk"); (case stg => with_unfolding_all exact rfl))
  | (refine Kf.w_ddel ?_)
  | (refine Kf.w_disp ?_)
  | (refine Kf.w_pcons ?_)
  | (refine Kf.w_pnil ?_)
  | (refine Kf.w_make ?_)
  | (refine Kf.w_sfldaug ?_)
  | (refine' Kf.w_sfldaugx ?sth ?stg ?stf ?ste ?_; (case sth => with_unfolding_all walk_at "lk"); (case stg => assumption); (case stf => assumption); (case ste => with_unfolding_all exact rfl))
  | (refine Kf.w_inadd ?_)
  | (refine Kf.w_dnotin ?_)
  | (refine Kf.w_dget1 ?_)
  | (refine' Kf.w_dgetS ?sth ?stg ?_; (case sth => with_unfolding_all walk_at "lk"); (case stg => with_unfolding_all exact rfl))
  | (refine Kf.w_ikeys ?_)
  | (refine Kf.w_dput ?_)
  | (refine Kf.w_dget2 ?_)
  | (refine Kf.w_dget ?_)
  | (refine Kf.w_sl ?_)
  | (refine Kf.w_nopart ?_)
  | (refine Kf.w_part ?_)
  | (refine Kf.w_bm ?_)
  | (refine Kf.w_bm0 ?_)
  | (refine' Kf.w_bmL ?sth ?_; (case sth => with_unfolding_all walk_at "lk"))
  | (refine' Kf.w_cat ?sth ?stg ?stf ?_; (case sth => with_unfolding_all walk_at "lk"); (case stg => with_unfolding_all walk_at "lk"); (case stf => with_unfolding_all walk_at "om"))
  | (refine' Kf.w_slL ?sth ?_; (case sth => with_unfolding_all walk_at "sq"))
  | (refine' Kf.w_inL ?sth ?_; (case sth => with_unfolding_all walk_at "sq"))
  | (refine' Kf.w_inT ?sth ?_; (case sth => with_unfolding_all walk_at "sq"))
  | (refine' Kf.w_ninL ?sth ?_; (case sth => with_unfolding_all walk_at "sq"))
  | (refine' Kf.w_ninT ?sth ?_; (case sth => with_unfolding_all walk_at "sq"))
  | (refine' Kf.w_listof ?sth ?_; (case sth => with_unfolding_all walk_at "sq"))
  | (refine' Kf.w_tupof ?sth ?_; (case sth => with_unfolding_all walk_at "sq"))
  | (refine Kf.w_listRev ?_)
  | (refine Kf.w_gsub ?_)
  | (refine' Kf.w_ixL ?sth ?stg ?_; (case sth => with_unfolding_all walk_at "sq"); (case stg => with_unfolding_all walk_at "at"))
  | (refine' Kf.w_ixT ?sth ?stg ?_; (case sth => with_unfolding_all walk_at "sq"); (case stg => with_unfolding_all walk_at "at"))
  | (refine' Kf.w_setL ?sth ?stg ?_; (case sth => with_unfolding_all walk_at "lk"); (case stg => with_unfolding_all walk_at "ixn"))
  | (refine' Kf.w_len ?sth ?_; (case sth => with_unfolding_all walk_at "sq"))
  | (refine' Kf.w_lenT ?sth ?_; (case sth => with_unfolding_all walk_at "sq"))
  | (refine Kf.w_int1 ?_)
  | (refine Kf.w_intb ?_)
  | (refine Kf.w_abs ?_)
  | (refine Kf.w_aug rfl ?_)
  | (refine Kf.w_par ?_)
  | (refine' Kf.w_gtup ?sth ?stg ?_; (case sth => with_unfolding_all walk_at "sq"); (case stg => with_unfolding_all exact rfl))
  | (refine' Kf.w_glst ?sth ?stg ?_; (case sth => with_unfolding_all walk_at "sq"); (case stg => with_unfolding_all exact rfl))
  | (refine Kf.w_rng2 ?_)
  | (refine Kf.w_rng3 ?_)
  | (refine' Kf.w_rng2x ?sth ?stg ?stf ?ste ?_; (case sth => with_unfolding_all walk_at "om"); (case stg => with_unfolding_all walk_at "om"); (case stf => with_unfolding_all walk_at "om"); (case ste => with_unfolding_all walk_at "om"))
  | (refine Kf.w_gcons ?_)
  | (refine Kf.w_gnil ?_)
  | (refine Kf.w_gcd ?_)
  | (refine Kf.w_bits ?_)
  | (refine Kf.w_two ?_)
  | (refine Kf.w_ipI ?_)
  | (refine L2.iteT ?_)
  | (refine L2.iteF ?_)
  | (refine Kf.iteNT ?_)
  | (refine Kf.iteNF ?_)
  | (refine' Kf.ite_decT ?sth ?_; (case sth => exact rfl))
  | (refine' Kf.ite_decF ?sth ?_; (case sth => with_unfolding_all (intro e; cases e; done)))
  | (refine' Kf.ite_ndecF ?sth ?_; (case sth => exact rfl))
  | (refine' Kf.ite_ndecT ?sth ?_; (case sth => with_unfolding_all (intro e; cases e; done)))
  | (refine' Kf.ite_viT ?sth ?_; (case sth => (with_unfolding_all walk_at "om2")))
  | (refine' Kf.ite_viF ?sth ?_; (case sth => (with_unfolding_all walk_at "om2")))
  | (refine' Kf.ite_nviT ?sth ?_; (case sth => (with_unfolding_all walk_at "om2")))
  | (refine' Kf.ite_nviF ?sth ?_; (case sth => (with_unfolding_all walk_at "om2")))
  | (refine' Kf.ite_decT ?sth ?_; (case sth => (with_unfolding_all walk_at "om2")))
  | (refine' Kf.ite_decF ?sth ?_; (case sth => (with_unfolding_all walk_at "om2")))
  | with_unfolding_all walk_at "calls")
local macro_rules | `(tactic| walk_at "go") => `(tactic| repeat walk_at "st")

namespace Kf
open PySem PySem.Spec PyProof.Rows L2
def topS (i : Nat) : Stmt := PySem.Challenge.pw_solvedpapers_k08_number_of_the_trail.main.body.getD i (.Pass ⟨0, 0, 0, 0⟩)
abbrev s__law_pool : Stmt := topS 7
abbrev N__law_pool : List Str := ["script", "k", "cell", "spare"]
abbrev P__law_pool : List Str := ["script", "k"]
theorem sc__law_pool : FnScope N__law_pool P__law_pool (defScope s__law_pool) := ⟨rfl, rfl, rfl, by decide +kernel, rfl, by decide +kernel, by decide +kernel⟩
section
variable {P : Program} {w : World} {K : PySem.W.Frag} {mg : Str → Option Value} {base : Heap}
/-- a pool is made -/
def spPool (K : PySem.W.Frag) : Sp := fun vs H Q _ => ∃ (a : Addr) (ns : List Int) (k : Int), vs = [.ref a, .int k] ∧ SqL K H a (ns.map V.int) ∧ 0 ≤ k ∧ ∀ p H', Ext H H' → H p = none → PoolAt H' (.ref p) → Q (.ref p) H'
theorem atI_ints {ns : List Int} {k : Int} (h0 : 0 ≤ k) (h1 : k < ((ns.map V.int).length : Nat)) : atI (ns.map V.int) k = some (.int (ns.getD k.toNat 0)) := by
  rw [List.length_map] at h1
  have hk : k.toNat < ns.length := by omega
  have e : k = ((k.toNat : Nat) : Int) := by omega
  rw [e]
  refine atI_nat (j := k.toNat) ?_
  rw [List.getElem?_map, List.getElem?_eq_getElem hk, Int.toNat_natCast]
  simp [hk]
theorem ok_pool (D : Df K mg "_law_pool" s__law_pool P__law_pool) (b_len : mg "len" = none) : Pr P w K mg base "_law_pool" 1 P__law_pool (spPool K) := by
  refine D.ok sc__law_pool (fun vs H Q E h => ?_) (fun f cdv A outer s H vs Q E hr h => ?_)
  · obtain ⟨a, ns, k, rfl, _⟩ := h; rfl
  obtain ⟨a, ns, k, rfl, hS, h0, q⟩ := h
  have nd := sc__law_pool.nd
  have fin : ∀ (c s : Int) (b : Bool) (p : Addr), H p = none → Q (.ref p) (upd H p (.lst [.int c, .int 0, .bl b, .int s])) := fun c s b p hp => q p _ (Ext.new hp) hp ⟨p, _, _, _, _, rfl, L2.upd_same⟩
  refine ⟨_, (pss_cons (ps_set (i := 2) nd rfl (Or.inl rfl) (pe_op op_add (pe_op op_mul pe_int (pv 1)) pe_int))
      (pss_cons (ps_set (i := 3) nd rfl (Or.inl rfl) (pe_op op_add (pe_op op_mul pe_int (pv 1)) pe_int))
      (pss_cons (ps_if (pt_cmpR op_lt (pv 1) (pe_callB (call_lenK (K := K) rfl) (by rfl) b_len PySem.boot_len (pa_cons (pv 0) pa_nil)) (nomark _)) (pss_one (ps_set (i := 2) nd rfl (Or.inl rfl) (pe_ix (ix_listK (K := K) rfl) (pv 0) (pv 1) (fun _ _ => rfl)))) pss_nil)
      (pss_cons (ps_if (pt_cmpR op_lt (pe_op op_add (pv 1) pe_int) (pe_callB (call_lenK (K := K) rfl) (by rfl) b_len PySem.boot_len (pa_cons (pv 0) pa_nil)) (nomark _)) (pss_one (ps_set (i := 3) nd rfl (Or.inl rfl) (pe_ix (ix_listK (K := K) rfl) (pv 0) (pe_op op_add (pv 1) pe_int) (fun _ _ => rfl)))) pss_nil)
      (pss_one (ps_ret (pe_lst (pa_cons (pv 2) (pa_cons pe_int (pa_cons (pe_cmpR op_ge (pv 2) (pe_op op_pow pe_int pe_int) (nomark _)) (pa_cons (pv 3) pa_nil))))))))))), ?_⟩
  refine w_start (σ := [some _, some _, none, none]) rfl ?_
  walk_at "go"
  refine ite_d (fun c1 => ?_) (fun c1 => ?_)
  · walk_at "go"
    refine w_ixL hS (atI_ints h0 c1) ?_
    walk_at "go"
    refine ite_d (fun c2 => ?_) (fun c2 => ?_)
    · walk_at "go"
      refine w_ixL hS (atI_ints (by omega) c2) ?_
      walk_at "go"
      exact fun p hp => fin _ _ _ _ hp
    · walk_at "go"
      exact fun p hp => fin _ _ _ _ hp
  · walk_at "go"
    exact fun p hp => fin _ _ _ _ hp
end
end Kf

end
section
set_option Elab.async false
set_option linter.all false
set_option maxRecDepth 100000
set_option maxHeartbeats 4000000
namespace Kf
open PySem PySem.Spec PyProof.Rows L2
abbrev s__law_take : Stmt := topS 8
abbrev N__law_take : List Str := ["pool", "size", "k", "cell", "mixed"]
abbrev P__law_take : List Str := ["pool", "size"]
theorem sc__law_take : FnScope N__law_take P__law_take (defScope s__law_take) := ⟨rfl, rfl, rfl, by decide +kernel, rfl, by decide +kernel, by decide +kernel⟩
end Kf
local macro_rules | `(tactic| walk_at "npl") => `(tactic| first | exact Kf.npl rfl | exact Kf.npl_ints _ | exact Kf.npl_one _ _ | exact Kf.npl_refs _ | assumption)
local macro_rules | `(tactic| walk_at "nn") => `(tactic| first
  | assumption
  | (refine' Kf.Ext.non ?nne ?nnh; (case nne => assumption); (case nnh => walk_at "nn")))
local macro_rules | `(tactic| walk_at "ext") => `(tactic| first
  | assumption
  | exact Kf.Ext.refl
  | (refine' Kf.Ext.newer ?exa ?exn; (case exn => assumption); (case exa => walk_at "ext"))
  | (refine' Kf.Ext.own ?exa ?exn; (case exn => walk_at "nn"); (case exa => walk_at "ext"))
  | (refine' Kf.Ext.trans ?exa ?exb; (case exb => assumption); (case exa => walk_at "ext")))
local macro_rules | `(tactic| walk_at "pool") => `(tactic| first
  | assumption
  | (refine' Kf.PoolAt.ext ?plh ?ple; (case plh => assumption); (case ple => walk_at "ext"))
  | (refine' Kf.PoolAt.upd ?plh ?plo ?pln; (case plo => assumption); (case pln => walk_at "npl"); (case plh => walk_at "pool")))
local macro_rules | `(tactic| walk_at "lk") => `(tactic| first
  | assumption
  | exact L2.upd_same
  | (refine' Kf.upd_old ?lkn ?lkh; (case lkn => assumption); (case lkh => walk_at "lk"))
  | (refine' Kf.upd_oth ?lkn ?lkh; (case lkn => (first | assumption | (apply Ne.symm; assumption))); (case lkh => walk_at "lk"))
  | (refine' Kf.Ext.get ?lke ?lkh ?lkn; (case lke => assumption); (case lkh => walk_at "lk"); (case lkn => walk_at "npl"))
  | (refine' L2.Same.at ?lke ?lkh; (case lke => assumption); (case lkh => walk_at "lk")))
local macro_rules | `(tactic| walk_at "sq") => `(tactic| first
  | assumption
  | (refine' L2.SqL.of ?sqh; (case sqh => walk_at "lk"))
  | (refine' L2.SqT.of ?sqh; (case sqh => walk_at "lk"))
  | (refine' Kf.Ext.seqL ?sqe ?sqh ?sqn; (case sqh => assumption); (case sqe => walk_at "ext"); (case sqn => walk_at "npl"))
  | (refine' Kf.Ext.seqT ?sqe ?sqh; (case sqh => assumption); (case sqe => walk_at "ext")))
local macro_rules | `(tactic| walk_at "at") => `(tactic| first | exact L2.atI_nat (j := 0) rfl | exact L2.atI_nat (j := 1) rfl | exact L2.atI_nat (j := 2) rfl | exact L2.atI_nat (j := 3) rfl | exact L2.atI_nat (j := 4) rfl | assumption)
local macro_rules | `(tactic| walk_at "ixn") => `(tactic| first | exact Kf.ixN_nat (j := 0) rfl | exact Kf.ixN_nat (j := 1) rfl | exact Kf.ixN_nat (j := 2) rfl | exact Kf.ixN_nat (j := 3) rfl | assumption)
local macro_rules | `(tactic| walk_at "set") => `(tactic| (first | (simp only [List.set_cons_succ, List.set_cons_zero]; rfl) | rfl))
local macro_rules | `(tactic| walk_at "om") => `(tactic| first | decide | omega | (simp only [List.length_map, List.length_cons, List.length_nil] at *; omega))
local macro_rules | `(tactic| walk_at "calls") => `(tactic| first
  | (with_reducible refine' Kf.call_take ?clp ?cla ?clb ?clq; (case clp => walk_at "pool"); (case cla => walk_at "om"); (case clb => walk_at "om"); intro r H' hE h0 h1)
  | (with_reducible refine' Kf.call_pool ?cls ?cla ?clq; (case cls => walk_at "sq"); (case cla => walk_at "om"); intro p H' hE hN hP)
  | (with_reducible refine' Kf.call_turn ?cls ?clp ?cla ?clq; (case cls => walk_at "sq"); (case clp => walk_at "pool"); (case cla => walk_at "om"); intro u H' hE hP))
local macro_rules | `(tactic| walk_at "side") => `(tactic| first
  | exact Kf.cmul_fmod (by decide) (by decide)
  | exact rfl
  | decide
  | omega
  | assumption
  | (refine ⟨?_, ?_⟩ <;> decide)
  | (refine ⟨?_, ?_, ?_⟩ <;> decide)
  | (refine ⟨?_, ?_⟩ <;> omega)
  | (refine Or.inl ⟨?_, ?_⟩ <;> decide)
  | (refine Or.inr ⟨?_, ?_⟩ <;> decide)
  | (refine Or.inl ⟨?_, ?_⟩ <;> omega)
  | (refine Or.inr ⟨?_, ?_⟩ <;> omega))
local macro_rules | `(tactic| walk_at "kit") => `(tactic| first | exact Kf.isi_int_int | exact Kf.isi_int_bool | exact Kf.isi_int_str | exact Kf.isi_int_list | exact Kf.isi_int_tuple | exact Kf.isi_bool_int | exact Kf.isi_bool_bool | exact Kf.isi_bool_str | exact Kf.isi_bool_list | exact Kf.isi_bool_tuple | exact Kf.isi_str_int | exact Kf.isi_str_bool | exact Kf.isi_str_str | exact Kf.isi_str_list | exact Kf.isi_str_tuple | exact Kf.isi_non_list | exact Kf.isi_non_tuple | exact Kf.isi_list_list | exact Kf.isi_list_tuple | exact Kf.isi_tuple_list | exact Kf.isi_tuple_tuple | exact Kf.isi_dict_dict)
local macro_rules | `(tactic| walk_at "ty") => `(tactic| first
  | exact L2.TyX.base (L2.TyOf.int _)
  | exact L2.TyX.base (L2.TyOf.bl _)
  | exact L2.TyX.base (L2.TyOf.str _)
  | exact L2.TyX.base L2.TyOf.non
  | (refine' L2.TyX.base (L2.TyOf.lst ?tyh); (case tyh => walk_at "lk"))
  | (refine' L2.TyX.base (L2.TyOf.tup ?tyh); (case tyh => walk_at "lk"))
  | (refine' L2.TyX.base (L2.TyOf.dK ?tyh); (case tyh => walk_at "lk")))
local macro_rules | `(tactic| walk_at "om2") => `(tactic| first | assumption | decide | omega)
local macro_rules | `(tactic| walk_at "st") => `(tactic| with_reducible first
  | (refine Kf.w_var rfl ?_)
  | (refine Kf.w_c ?_)
  | (refine Kf.w_seq ?_)
  | (refine Kf.w_asg ?_)
  | (refine' Kf.w_gname ?sth ?_; (case sth => with_unfolding_all walk_at "set"))
  | (refine Kf.w_op ?_)
  | (refine Kf.w_un ?_)
  | (refine Kf.w_rU ?_)
  | (refine Kf.w_rI0 ?_)
  | (refine' Kf.w_rI ?sth ?_; (case sth => with_unfolding_all walk_at "side"))
  | (refine' Kf.w_rEq ?sth ?_; (case sth => with_unfolding_all rfl))
  | (refine' Kf.w_rNe ?sth ?_; (case sth => with_unfolding_all rfl))
  | (refine Kf.w_tTest ?_)
  | (refine Kf.w_tB ?_)
  | (refine Kf.w_exbl ?_)
  | (refine Kf.w_exint ?_)
  | (refine Kf.w_ifS ?_)
  | (refine Kf.w_ret ?_)
  | (refine Kf.w_retN ?_)
  | (refine Kf.w_drop ?_)
  | (refine Kf.w_and ?_)
  | (refine Kf.w_or ?_)
  | (refine Kf.w_not ?_)
  | (refine Kf.w_andV ?_)
  | (refine Kf.w_orV ?_)
  | (refine Kf.w_notV ?_)
  | (refine Kf.w_if ?_)
  | (refine Kf.w_lc ?_)
  | (refine Kf.w_for ?_)
  | (refine Kf.w_rng1 ?_)
  | (refine' Kf.w_rng1x ?sth ?stg ?_; (case sth => with_unfolding_all walk_at "om"); (case stg => with_unfolding_all walk_at "om"))
  | (refine Kf.w_ilist ?_)
  | (refine Kf.w_iseq ?_)
  | (refine Kf.w_itup ?_)
  | (refine' Kf.w_ilistx ?sth ?_; (case sth => with_unfolding_all walk_at "sq"))
  | (refine' Kf.w_itupx ?sth ?_; (case sth => with_unfolding_all walk_at "sq"))
  | (refine' Kf.w_wipe ?sth ?_; (case sth => with_unfolding_all rfl))
  | (refine Kf.w_yes ?_)
  | (refine' Kf.w_isi ?sth ?stg ?_; (case sth => with_unfolding_all walk_at "ty"); (case stg => walk_at "kit"))
  | (refine Kf.w_isN ?_)
  | (refine Kf.w_notN ?_)
  | (refine Kf.w_cb ?_)
  | (refine Kf.w_nil ?_)
  | (refine Kf.w_cons ?_)
  | (refine Kf.w_tup ?_)
  | (refine Kf.w_lst ?_)
  | (refine' Kf.w_lines ?sth ?_; (case sth => with_unfolding_all rfl))
  | (refine Kf.w_call ?_)
  | (refine Kf.w_next ?_)
  | (refine Kf.w_break ?_)
  | (refine Kf.w_cont ?_)
  | (refine Kf.w_dnewK ?_)
  | (refine Kf.w_fld ?_)
  | (refine' Kf.w_fldx ?sth ?stg ?stf ?ste ?_; (case sth => with_unfolding_all walk_at "lk"); (case stg => assumption); (case stf => assumption); (case ste => with_unfolding_all exact rfl))
  | (refine Kf.w_sfld ?_)
  | (refine' Kf.w_sfldx ?sth ?stg ?stf ?ste ?_; (case sth => with_unfolding_all walk_at "lk"); (case stg => assumption); (case stf => assumption); (case ste => with_unfolding_all exact rfl))
  | (refine Kf.w_meth ?_)
  | (refine' Kf.w_methx ?sth ?stg ?_; (case sth => with_unfolding_all walk_at "lk"); (case stg => with_unfolding_all exact rfl))
  | (refine Kf.w_ddel ?_)
  | (refine Kf.w_disp ?_)
  | (refine Kf.w_pcons ?_)
  | (refine Kf.w_pnil ?_)
  | (refine Kf.w_make ?_)
  | (refine Kf.w_sfldaug ?_)
  | (refine' Kf.w_sfldaugx ?sth ?stg ?stf ?ste ?_; (case sth => with_unfolding_all walk_at "lk"); (case stg => assumption); (case stf => assumption); (case ste => with_unfolding_all exact rfl))
  | (refine Kf.w_inadd ?_)
  | (refine Kf.w_dnotin ?_)
  | (refine Kf.w_dget1 ?_)
  | (refine' Kf.w_dgetS ?sth ?stg ?_; (case sth => with_unfolding_all walk_at "lk"); (case stg => with_unfolding_all exact rfl))
  | (refine Kf.w_ikeys ?_)
  | (refine Kf.w_dput ?_)
  | (refine Kf.w_dget2 ?_)
  | (refine Kf.w_dget ?_)
  | (refine Kf.w_sl ?_)
  | (refine Kf.w_nopart ?_)
  | (refine Kf.w_part ?_)
  | (refine Kf.w_bm ?_)
  | (refine Kf.w_bm0 ?_)
  | (refine' Kf.w_bmL ?sth ?_; (case sth => with_unfolding_all walk_at "lk"))
  | (refine' Kf.w_cat ?sth ?stg ?stf ?_; (case sth => with_unfolding_all walk_at "lk"); (case stg => with_unfolding_all walk_at "lk"); (case stf => with_unfolding_all walk_at "om"))
  | (refine' Kf.w_slL ?sth ?_; (case sth => with_unfolding_all walk_at "sq"))
  | (refine' Kf.w_inL ?sth ?_; (case sth => with_unfolding_all walk_at "sq"))
  | (refine' Kf.w_inT ?sth ?_; (case sth => with_unfolding_all walk_at "sq"))
  | (refine' Kf.w_ninL ?sth ?_; (case sth => with_unfolding_all walk_at "sq"))
  | (refine' Kf.w_ninT ?sth ?_; (case sth => with_unfolding_all walk_at "sq"))
  | (refine' Kf.w_listof ?sth ?_; (case sth => with_unfolding_all walk_at "sq"))
  | (refine' Kf.w_tupof ?sth ?_; (case sth => with_unfolding_all walk_at "sq"))
  | (refine Kf.w_listRev ?_)
  | (refine Kf.w_gsub ?_)
  | (refine' Kf.w_ixL ?sth ?stg ?_; (case sth => with_unfolding_all walk_at "sq"); (case stg => with_unfolding_all walk_at "at"))
  | (refine' Kf.w_ixT ?sth ?stg ?_; (case sth => with_unfolding_all walk_at "sq"); (case stg => with_unfolding_all walk_at "at"))
  | (refine' Kf.w_setL ?sth ?stg ?_; (case sth => with_unfolding_all walk_at "lk"); (case stg => with_unfolding_all walk_at "ixn"))
  | (refine' Kf.w_len ?sth ?_; (case sth => with_unfolding_all walk_at "sq"))
  | (refine' Kf.w_lenT ?sth ?_; (case sth => with_unfolding_all walk_at "sq"))
  | (refine Kf.w_int1 ?_)
  | (refine Kf.w_intb ?_)
  | (refine Kf.w_abs ?_)
  | (refine Kf.w_aug rfl ?_)
  | (refine Kf.w_par ?_)
  | (refine' Kf.w_gtup ?sth ?stg ?_; (case sth => with_unfolding_all walk_at "sq"); (case stg => with_unfolding_all exact rfl))
  | (refine' Kf.w_glst ?sth ?stg ?_; (case sth => with_unfolding_all walk_at "sq"); (case stg => with_unfolding_all exact rfl))
  | (refine Kf.w_rng2 ?_)
  | (refine Kf.w_rng3 ?_)
  | (refine' Kf.w_rng2x ?sth ?stg ?stf ?ste ?_; (case sth => with_unfolding_all walk_at "om"); (case stg => with_unfolding_all walk_at "om"); (case stf => with_unfolding_all walk_at "om"); (case ste => with_unfolding_all walk_at "om"))
  | (refine Kf.w_gcons ?_)
  | (refine Kf.w_gnil ?_)
  | (refine Kf.w_gcd ?_)
  | (refine Kf.w_bits ?_)
  | (refine Kf.w_two ?_)
  | (refine Kf.w_ipI ?_)
  | (refine L2.iteT ?_)
  | (refine L2.iteF ?_)
  | (refine Kf.iteNT ?_)
  | (refine Kf.iteNF ?_)
  | (refine' Kf.ite_decT ?sth ?_; (case sth => exact rfl))
  | (refine' Kf.ite_decF ?sth ?_; (case sth => with_unfolding_all (intro e; cases e; done)))
  | (refine' Kf.ite_ndecF ?sth ?_; (case sth => exact rfl))
  | (refine' Kf.ite_ndecT ?sth ?_; (case sth => with_unfolding_all (intro e; cases e; done)))
  | (refine' Kf.ite_viT ?sth ?_; (case sth => (with_unfolding_all walk_at "om2")))
  | (refine' Kf.ite_viF ?sth ?_; (case sth => (with_unfolding_all walk_at "om2")))
  | (refine' Kf.ite_nviT ?sth ?_; (case sth => (with_unfolding_all walk_at "om2")))
  | (refine' Kf.ite_nviF ?sth ?_; (case sth => (with_unfolding_all walk_at "om2")))
  | (refine' Kf.ite_decT ?sth ?_; (case sth => (with_unfolding_all walk_at "om2")))
  | (refine' Kf.ite_decF ?sth ?_; (case sth => (with_unfolding_all walk_at "om2")))
  | with_unfolding_all walk_at "calls")
local macro_rules | `(tactic| walk_at "go") => `(tactic| repeat walk_at "st")

namespace Kf
open PySem PySem.Spec PyProof.Rows L2
section
variable {P : Program} {w : World} {K : PySem.W.Frag} {mg : Str → Option Value} {base : Heap}
/-- a number below n is drawn -/
def spTake (K : PySem.W.Frag) : Sp := fun vs H Q _ => ∃ (v : V) (n : Int), vs = [v, .int n] ∧ PoolAt H v ∧ 0 < n ∧ n < 1073741824 ∧ ∀ r H', Ext H H' → 0 ≤ r → r < n → Q (.int r) H'
theorem ok_take (D : Df K mg "_law_take" s__law_take P__law_take) (b_int : mg "int" = none) : Pr P w K mg base "_law_take" 1 P__law_take (spTake K) := by
  refine D.ok sc__law_take (fun vs H Q E h => ?_) (fun f cdv A outer s H vs Q E hr h => ?_)
  · obtain ⟨v, n, rfl, _⟩ := h; rfl
  obtain ⟨v, n, rfl, ⟨a, c, k, b, sp, rfl, hH⟩, n0, n1, q⟩ := h
  have nd := sc__law_take.nd
  have fin : ∀ (x c' k' : Int) (b' : Bool) (s' : Int) (H' : Hp), H' = upd H a (.lst [.int c', .int k', .bl b', .int s']) → Q (.int (x.fmod n)) H' := fun x c' k' b' s' H' e => by
    subst e
    exact q _ _ (Ext.pool hH ⟨_, _, _, _, rfl⟩ ⟨_, _, _, _, rfl⟩) (fmod_pos n0).1 (fmod_pos n0).2
  refine ⟨_, (pss_cons (ps_set (i := 2) nd rfl (Or.inl rfl) (pe_ix (ix_listK (K := K) rfl) (pv 0) pe_int (fun _ _ => rfl)))
      (pss_cons (ps_asg (pe_op op_add (pv 2) pe_int) (pg_sub (pv 0) pe_int set_list))
      (pss_cons (ps_set (i := 3) nd rfl (Or.inl rfl) (pe_ix (ix_listK (K := K) rfl) (pv 0) pe_int (fun _ _ => rfl)))
      (pss_cons (ps_if (PW.pt (pw_and (pt_val (pe_ix (ix_listK (K := K) rfl) (pv 0) pe_int (fun _ _ => rfl))) (pw_and1 (pt_cmpR op_gt (pv 3) pe_int (nomark _))))) (pss_cons (ps_asg (pe_op op_fdivN (pv 3) (pv 1)) (pg_sub (pv 0) pe_int set_list))
      (pss_one (ps_ret (pe_op op_modN (pe_callTy call_int1 (by rfl) b_int (by decide +kernel) (pa_cons (pv 3) pa_nil)) (pv 1))))) pss_nil)
      (pss_cons (ps_if (pt_val (pe_ix (ix_listK (K := K) rfl) (pv 0) pe_int (fun _ _ => rfl))) (pss_one (ps_set (i := 3) nd rfl (Or.inl rfl) (pe_ix (ix_listK (K := K) rfl) (pv 0) pe_int (fun _ _ => rfl)))) pss_nil)
      (pss_cons (ps_set (i := 4) nd rfl (Or.inl rfl) (pe_op op_modN (pe_callTy call_int1 (by rfl) b_int (by decide +kernel) (pa_cons (pe_op op_add (pe_op op_add (pv 3) (pe_op op_mul pe_int (pv 2))) pe_int) pa_nil)) pe_int))
      (pss_cons (ps_set (i := 4) nd rfl (Or.inl rfl) (pe_op op_modN (pe_callTy call_int1 (by rfl) b_int (by decide +kernel) (pa_cons (pe_op op_mul (pv 4) (pe_op op_add (pv 4) pe_int)) pa_nil)) pe_int))
      (pss_cons (ps_set (i := 4) nd rfl (Or.inl rfl) (pe_op op_modN (pe_callTy call_int1 (by rfl) b_int (by decide +kernel) (pa_cons (pe_op op_add (pe_op op_mul (pv 4) (pe_op op_add (pv 4) pe_int)) (pe_op op_mul pe_int (pv 2))) pa_nil)) pe_int))
      (pss_one (ps_ret (pe_op op_modN (pe_callTy call_int1 (by rfl) b_int (by decide +kernel) (pa_cons (pe_op op_fdivN (pv 4) pe_int) pa_nil)) (pv 1)))))))))))), ?_⟩
  refine w_start (σ := [some _, some _, none, none, none]) rfl ?_
  walk_at "go"
  refine ite_b (fun c1 => ?_) (fun c1 => ?_)
  · walk_at "go"
    refine ite_d (fun c2 => ?_) (fun c2 => ?_)
    · walk_at "go"
      rw [upd_upd]
      exact fin _ _ _ _ _ _ rfl
    · subst c1
      walk_at "go"
      exact fin _ _ _ _ _ _ rfl
  · subst c1
    walk_at "go"
    exact fin _ _ _ _ _ _ rfl
end
section
variable {P : Program} {w : World} {K : PySem.W.Frag} {mg : Str → Option Value} {base : Heap} {H : Hp} {Q : VK} {E : XK}
theorem call_take {v : V} {n : Int} (hp : PoolAt H v) (n0 : 0 < n) (n1 : n < 1073741824) (q : ∀ r H', Ext H H' → 0 ≤ r → r < n → Q (.int r) H') : spTake K ([v, .int n] ++ []) H Q E := ⟨v, n, rfl, hp, n0, n1, q⟩
theorem call_pool {a : Addr} {ns : List Int} {k : Int} (hs : SqL K H a (ns.map V.int)) (h0 : 0 ≤ k) (q : ∀ p H', Ext H H' → H p = none → PoolAt H' (.ref p) → Q (.ref p) H') : spPool K ([.ref a, .int k] ++ []) H Q E := ⟨a, ns, k, rfl, hs, h0, q⟩
/-- a pool of its own, or the given one -/
def spTurn (K : PySem.W.Frag) : Sp := fun vs H Q _ => ∃ (a : Addr) (ns : List Int) (v : V) (k : Int), vs = [.ref a, v, .int k] ∧ SqL K H a (ns.map V.int) ∧ PoolAt H v ∧ 0 ≤ k ∧ ∀ u H', Ext H H' → PoolAt H' u → Q u H'
theorem call_turn {a : Addr} {ns : List Int} {v : V} {k : Int} (hs : SqL K H a (ns.map V.int)) (hp : PoolAt H v) (h0 : 0 ≤ k) (q : ∀ u H', Ext H H' → PoolAt H' u → Q u H') : spTurn K ([.ref a, v, .int k] ++ []) H Q E := ⟨a, ns, v, k, rfl, hs, hp, h0, q⟩
end
end Kf

end
section
set_option Elab.async false
set_option linter.all false
set_option maxRecDepth 100000
set_option maxHeartbeats 4000000
local macro_rules | `(tactic| walk_at "npl") => `(tactic| first | exact Kf.npl rfl | exact Kf.npl_ints _ | exact Kf.npl_one _ _ | exact Kf.npl_refs _ | assumption)
local macro_rules | `(tactic| walk_at "nn") => `(tactic| first
  | assumption
  | (refine' Kf.Ext.non ?nne ?nnh; (case nne => assumption); (case nnh => walk_at "nn")))
local macro_rules | `(tactic| walk_at "ext") => `(tactic| first
  | assumption
  | exact Kf.Ext.refl
  | (refine' Kf.Ext.newer ?exa ?exn; (case exn => assumption); (case exa => walk_at "ext"))
  | (refine' Kf.Ext.own ?exa ?exn; (case exn => walk_at "nn"); (case exa => walk_at "ext"))
  | (refine' Kf.Ext.trans ?exa ?exb; (case exb => assumption); (case exa => walk_at "ext")))
local macro_rules | `(tactic| walk_at "pool") => `(tactic| first
  | assumption
  | (refine' Kf.PoolAt.ext ?plh ?ple; (case plh => assumption); (case ple => walk_at "ext"))
  | (refine' Kf.PoolAt.upd ?plh ?plo ?pln; (case plo => assumption); (case pln => walk_at "npl"); (case plh => walk_at "pool")))
local macro_rules | `(tactic| walk_at "lk") => `(tactic| first
  | assumption
  | exact L2.upd_same
  | (refine' Kf.upd_old ?lkn ?lkh; (case lkn => assumption); (case lkh => walk_at "lk"))
  | (refine' Kf.upd_oth ?lkn ?lkh; (case lkn => (first | assumption | (apply Ne.symm; assumption))); (case lkh => walk_at "lk"))
  | (refine' Kf.Ext.get ?lke ?lkh ?lkn; (case lke => assumption); (case lkh => walk_at "lk"); (case lkn => walk_at "npl"))
  | (refine' L2.Same.at ?lke ?lkh; (case lke => assumption); (case lkh => walk_at "lk")))
local macro_rules | `(tactic| walk_at "sq") => `(tactic| first
  | assumption
  | (refine' L2.SqL.of ?sqh; (case sqh => walk_at "lk"))
  | (refine' L2.SqT.of ?sqh; (case sqh => walk_at "lk"))
  | (refine' Kf.Ext.seqL ?sqe ?sqh ?sqn; (case sqh => assumption); (case sqe => walk_at "ext"); (case sqn => walk_at "npl"))
  | (refine' Kf.Ext.seqT ?sqe ?sqh; (case sqh => assumption); (case sqe => walk_at "ext")))
local macro_rules | `(tactic| walk_at "at") => `(tactic| first | exact L2.atI_nat (j := 0) rfl | exact L2.atI_nat (j := 1) rfl | exact L2.atI_nat (j := 2) rfl | exact L2.atI_nat (j := 3) rfl | exact L2.atI_nat (j := 4) rfl | assumption)
local macro_rules | `(tactic| walk_at "ixn") => `(tactic| first | exact Kf.ixN_nat (j := 0) rfl | exact Kf.ixN_nat (j := 1) rfl | exact Kf.ixN_nat (j := 2) rfl | exact Kf.ixN_nat (j := 3) rfl | assumption)
local macro_rules | `(tactic| walk_at "set") => `(tactic| (first | (simp only [List.set_cons_succ, List.set_cons_zero]; rfl) | rfl))
local macro_rules | `(tactic| walk_at "om") => `(tactic| first | decide | omega | (simp only [List.length_map, List.length_cons, List.length_nil] at *; omega))
local macro_rules | `(tactic| walk_at "calls") => `(tactic| first
  | (with_reducible refine' Kf.call_take ?clp ?cla ?clb ?clq; (case clp => walk_at "pool"); (case cla => walk_at "om"); (case clb => walk_at "om"); intro r H' hE h0 h1)
  | (with_reducible refine' Kf.call_pool ?cls ?cla ?clq; (case cls => walk_at "sq"); (case cla => walk_at "om"); intro p H' hE hN hP)
  | (with_reducible refine' Kf.call_turn ?cls ?clp ?cla ?clq; (case cls => walk_at "sq"); (case clp => walk_at "pool"); (case cla => walk_at "om"); intro u H' hE hP))
local macro_rules | `(tactic| walk_at "side") => `(tactic| first
  | exact Kf.cmul_fmod (by decide) (by decide)
  | exact rfl
  | decide
  | omega
  | assumption
  | (refine ⟨?_, ?_⟩ <;> decide)
  | (refine ⟨?_, ?_, ?_⟩ <;> decide)
  | (refine ⟨?_, ?_⟩ <;> omega)
  | (refine Or.inl ⟨?_, ?_⟩ <;> decide)
  | (refine Or.inr ⟨?_, ?_⟩ <;> decide)
  | (refine Or.inl ⟨?_, ?_⟩ <;> omega)
  | (refine Or.inr ⟨?_, ?_⟩ <;> omega))
local macro_rules | `(tactic| walk_at "kit") => `(tactic| first | exact Kf.isi_int_int | exact Kf.isi_int_bool | exact Kf.isi_int_str | exact Kf.isi_int_list | exact Kf.isi_int_tuple | exact Kf.isi_bool_int | exact Kf.isi_bool_bool | exact Kf.isi_bool_str | exact Kf.isi_bool_list | exact Kf.isi_bool_tuple | exact Kf.isi_str_int | exact Kf.isi_str_bool | exact Kf.isi_str_str | exact Kf.isi_str_list | exact Kf.isi_str_tuple | exact Kf.isi_non_list | exact Kf.isi_non_tuple | exact Kf.isi_list_list | exact Kf.isi_list_tuple | exact Kf.isi_tuple_list | exact Kf.isi_tuple_tuple | exact Kf.isi_dict_dict)
local macro_rules | `(tactic| walk_at "ty") => `(tactic| first
  | exact L2.TyX.base (L2.TyOf.int _)
  | exact L2.TyX.base (L2.TyOf.bl _)
  | exact L2.TyX.base (L2.TyOf.str _)
  | exact L2.TyX.base L2.TyOf.non
  | (refine' L2.TyX.base (L2.TyOf.lst ?tyh); (case tyh => walk_at "lk"))
  | (refine' L2.TyX.base (L2.TyOf.tup ?tyh); (case tyh => walk_at "lk"))
  | (refine' L2.TyX.base (L2.TyOf.dK ?tyh); (case tyh => walk_at "lk")))
local macro_rules | `(tactic| walk_at "om2") => `(tactic| first | assumption | decide | omega)
local macro_rules | `(tactic| walk_at "st") => `(tactic| with_reducible first
  | (refine Kf.w_var rfl ?_)
  | (refine Kf.w_c ?_)
  | (refine Kf.w_seq ?_)
  | (refine Kf.w_asg ?_)
  | (refine' Kf.w_gname ?sth ?_; (case sth => with_unfolding_all walk_at "set"))
  | (refine Kf.w_op ?_)
  | (refine Kf.w_un ?_)
  | (refine Kf.w_rU ?_)
  | (refine Kf.w_rI0 ?_)
  | (refine' Kf.w_rI ?sth ?_; (case sth => with_unfolding_all walk_at "side"))
  | (refine' Kf.w_rEq ?sth ?_; (case sth => with_unfolding_all rfl))
  | (refine' Kf.w_rNe ?sth ?_; (case sth => with_unfolding_all rfl))
  | (refine Kf.w_tTest ?_)
  | (refine Kf.w_tB ?_)
  | (refine Kf.w_exbl ?_)
  | (refine Kf.w_exint ?_)
  | (refine Kf.w_ifS ?_)
  | (refine Kf.w_ret ?_)
  | (refine Kf.w_retN ?_)
  | (refine Kf.w_drop ?_)
  | (refine Kf.w_and ?_)
  | (refine Kf.w_or ?_)
  | (refine Kf.w_not ?_)
  | (refine Kf.w_andV ?_)
  | (refine Kf.w_orV ?_)
  | (refine Kf.w_notV ?_)
  | (refine Kf.w_if ?_)
  | (refine Kf.w_lc ?_)
  | (refine Kf.w_for ?_)
  | (refine Kf.w_rng1 ?_)
  | (refine' Kf.w_rng1x ?sth ?stg ?_; (case sth => with_unfolding_all walk_at "om"); (case stg => with_unfolding_all walk_at "om"))
  | (refine Kf.w_ilist ?_)
  | (refine Kf.w_iseq ?_)
  | (refine Kf.w_itup ?_)
  | (refine' Kf.w_ilistx ?sth ?_; (case sth => with_unfolding_all walk_at "sq"))
  | (refine' Kf.w_itupx ?sth ?_; (case sth => with_unfolding_all walk_at "sq"))
  | (refine' Kf.w_wipe ?sth ?_; (case sth => with_unfolding_all rfl))
  | (refine Kf.w_yes ?_)
  | (refine' Kf.w_isi ?sth ?stg ?_; (case sth => with_unfolding_all walk_at "ty"); (case stg => walk_at "kit"))
  | (refine Kf.w_isN ?_)
  | (refine Kf.w_notN ?_)
  | (refine Kf.w_cb ?_)
  | (refine Kf.w_nil ?_)
  | (refine Kf.w_cons ?_)
  | (refine Kf.w_tup ?_)
  | (refine Kf.w_lst ?_)
  | (refine' Kf.w_lines ?sth ?_; (case sth => with_unfolding_all rfl))
  | (refine Kf.w_call ?_)
  | (refine Kf.w_next ?_)
  | (refine Kf.w_break ?_)
  | (refine Kf.w_cont ?_)
  | (refine Kf.w_dnewK ?_)
  | (refine Kf.w_fld ?_)
  | (refine' Kf.w_fldx ?sth ?stg ?stf ?ste ?_; (case sth => with_unfolding_all walk_at "lk"); (case stg => assumption); (case stf => assumption); (case ste => with_unfolding_all exact rfl))
  | (refine Kf.w_sfld ?_)
  | (refine' Kf.w_sfldx ?sth ?stg ?stf ?ste ?_; (case sth => with_unfolding_all walk_at "lk"); (case stg => assumption); (case stf => assumption); (case ste => with_unfolding_all exact rfl))
  | (refine Kf.w_meth ?_)
  | (refine' Kf.w_methx ?sth ?stg ?_; (case sth => with_unfolding_all walk_at "lk"); (case stg => with_unfolding_all exact rfl))
  | (refine Kf.w_ddel ?_)
  | (refine Kf.w_disp ?_)
  | (refine Kf.w_pcons ?_)
  | (refine Kf.w_pnil ?_)
  | (refine Kf.w_make ?_)
  | (refine Kf.w_sfldaug ?_)
  | (refine' Kf.w_sfldaugx ?sth ?stg ?stf ?ste ?_; (case sth => with_unfolding_all walk_at "lk"); (case stg => assumption); (case stf => assumption); (case ste => with_unfolding_all exact rfl))
  | (refine Kf.w_inadd ?_)
  | (refine Kf.w_dnotin ?_)
  | (refine Kf.w_dget1 ?_)
  | (refine' Kf.w_dgetS ?sth ?stg ?_; (case sth => with_unfolding_all walk_at "lk"); (case stg => with_unfolding_all exact rfl))
  | (refine Kf.w_ikeys ?_)
  | (refine Kf.w_dput ?_)
  | (refine Kf.w_dget2 ?_)
  | (refine Kf.w_dget ?_)
  | (refine Kf.w_sl ?_)
  | (refine Kf.w_nopart ?_)
  | (refine Kf.w_part ?_)
  | (refine Kf.w_bm ?_)
  | (refine Kf.w_bm0 ?_)
  | (refine' Kf.w_bmL ?sth ?_; (case sth => with_unfolding_all walk_at "lk"))
  | (refine' Kf.w_cat ?sth ?stg ?stf ?_; (case sth => with_unfolding_all walk_at "lk"); (case stg => with_unfolding_all walk_at "lk"); (case stf => with_unfolding_all walk_at "om"))
  | (refine' Kf.w_slL ?sth ?_; (case sth => with_unfolding_all walk_at "sq"))
  | (refine' Kf.w_inL ?sth ?_; (case sth => with_unfolding_all walk_at "sq"))
  | (refine' Kf.w_inT ?sth ?_; (case sth => with_unfolding_all walk_at "sq"))
  | (refine' Kf.w_ninL ?sth ?_; (case sth => with_unfolding_all walk_at "sq"))
  | (refine' Kf.w_ninT ?sth ?_; (case sth => with_unfolding_all walk_at "sq"))
  | (refine' Kf.w_listof ?sth ?_; (case sth => with_unfolding_all walk_at "sq"))
  | (refine' Kf.w_tupof ?sth ?_; (case sth => with_unfolding_all walk_at "sq"))
  | (refine Kf.w_listRev ?_)
  | (refine Kf.w_gsub ?_)
  | (refine' Kf.w_ixL ?sth ?stg ?_; (case sth => with_unfolding_all walk_at "sq"); (case stg => with_unfolding_all walk_at "at"))
  | (refine' Kf.w_ixT ?sth ?stg ?_; (case sth => with_unfolding_all walk_at "sq"); (case stg => with_unfolding_all walk_at "at"))
  | (refine' Kf.w_setL ?sth ?stg ?_; (case sth => with_unfolding_all walk_at "lk"); (case stg => with_unfolding_all walk_at "ixn"))
  | (refine' Kf.w_len ?sth ?_; (case sth => with_unfolding_all walk_at "sq"))
  | (refine' Kf.w_lenT ?sth ?_; (case sth => with_unfolding_all walk_at "sq"))
  | (refine Kf.w_int1 ?_)
  | (refine Kf.w_intb ?_)
  | (refine Kf.w_abs ?_)
  | (refine Kf.w_aug rfl ?_)
  | (refine Kf.w_par ?_)
  | (refine' Kf.w_gtup ?sth ?stg ?_; (case sth => with_unfolding_all walk_at "sq"); (case stg => with_unfolding_all exact rfl))
  | (refine' Kf.w_glst ?sth ?stg ?_; (case sth => with_unfolding_all walk_at "sq"); (case stg => with_unfolding_all exact rfl))
  | (refine Kf.w_rng2 ?_)
  | (refine Kf.w_rng3 ?_)
  | (refine' Kf.w_rng2x ?sth ?stg ?stf ?ste ?_; (case sth => with_unfolding_all walk_at "om"); (case stg => with_unfolding_all walk_at "om"); (case stf => with_unfolding_all walk_at "om"); (case ste => with_unfolding_all walk_at "om"))
  | (refine Kf.w_gcons ?_)
  | (refine Kf.w_gnil ?_)
  | (refine Kf.w_gcd ?_)
  | (refine Kf.w_bits ?_)
  | (refine Kf.w_two ?_)
  | (refine Kf.w_ipI ?_)
  | (refine L2.iteT ?_)
  | (refine L2.iteF ?_)
  | (refine Kf.iteNT ?_)
  | (refine Kf.iteNF ?_)
  | (refine' Kf.ite_decT ?sth ?_; (case sth => exact rfl))
  | (refine' Kf.ite_decF ?sth ?_; (case sth => with_unfolding_all (intro e; cases e; done)))
  | (refine' Kf.ite_ndecF ?sth ?_; (case sth => exact rfl))
  | (refine' Kf.ite_ndecT ?sth ?_; (case sth => with_unfolding_all (intro e; cases e; done)))
  | (refine' Kf.ite_viT ?sth ?_; (case sth => (with_unfolding_all walk_at "om2")))
  | (refine' Kf.ite_viF ?sth ?_; (case sth => (with_unfolding_all walk_at "om2")))
  | (refine' Kf.ite_nviT ?sth ?_; (case sth => (with_unfolding_all walk_at "om2")))
  | (refine' Kf.ite_nviF ?sth ?_; (case sth => (with_unfolding_all walk_at "om2")))
  | (refine' Kf.ite_decT ?sth ?_; (case sth => (with_unfolding_all walk_at "om2")))
  | (refine' Kf.ite_decF ?sth ?_; (case sth => (with_unfolding_all walk_at "om2")))
  | with_unfolding_all walk_at "calls")
local macro_rules | `(tactic| walk_at "go") => `(tactic| repeat walk_at "st")

namespace Kf
open PySem PySem.Spec PyProof.Rows L2
abbrev s__law_turn : Stmt := topS 9
abbrev N__law_turn : List Str := ["script", "pool", "k"]
abbrev P__law_turn : List Str := ["script", "pool", "k"]
theorem sc__law_turn : FnScope N__law_turn P__law_turn (defScope s__law_turn) := ⟨rfl, rfl, rfl, by decide +kernel, rfl, by decide +kernel, by decide +kernel⟩
section
variable {P : Program} {w : World} {K : PySem.W.Frag} {mg : Str → Option Value} {base : Heap} {H : Hp} {Q : VK} {E : XK}
theorem ok_turn (D : Df K mg "_law_turn" s__law_turn P__law_turn) (b_len : mg "len" = none) (p__law_pool : Pr P w K mg base "_law_pool" 1 P__law_pool (spPool K)) : Pr P w K mg base "_law_turn" 2 P__law_turn (spTurn K) := by
  refine D.ok sc__law_turn (fun vs H Q E h => ?_) (fun f cdv A outer s H vs Q E hr h => ?_)
  · obtain ⟨a, ns, v, k, rfl, _⟩ := h; rfl
  obtain ⟨a, ns, v, k, rfl, hS, hP, h0, q⟩ := h
  have nd := sc__law_turn.nd
  refine ⟨_, (pss_cons (ps_if (pt_cmpR op_lt (pv 2) (pe_callB (call_lenK (K := K) rfl) (by rfl) b_len PySem.boot_len (pa_cons (pv 0) pa_nil)) (nomark _)) (pss_one (ps_ret (pe_callP p__law_pool hr (pa_cons (pv 0) (pa_cons (pv 2) pa_nil))))) pss_nil)
      (pss_one (ps_ret (pv 1)))), ?_⟩
  refine w_start (σ := [some _, some _, some _]) rfl ?_
  walk_at "go"
  refine ite_d (fun c1 => ?_) (fun c1 => ?_)
  · walk_at "go"
    exact q _ _ (by assumption) (by assumption)
  · walk_at "go"
    exact q _ _ Ext.refl hP
end
end Kf

end
section
set_option Elab.async false
set_option linter.all false
set_option maxRecDepth 100000
set_option maxHeartbeats 4000000
local macro_rules | `(tactic| walk_at "npl") => `(tactic| first | exact Kf.npl rfl | exact Kf.npl_ints _ | exact Kf.npl_one _ _ | exact Kf.npl_refs _ | assumption)
local macro_rules | `(tactic| walk_at "nn") => `(tactic| first
  | assumption
  | (refine' Kf.Ext.non ?nne ?nnh; (case nne => assumption); (case nnh => walk_at "nn")))
local macro_rules | `(tactic| walk_at "ext") => `(tactic| first
  | assumption
  | exact Kf.Ext.refl
  | (refine' Kf.Ext.newer ?exa ?exn; (case exn => assumption); (case exa => walk_at "ext"))
  | (refine' Kf.Ext.own ?exa ?exn; (case exn => walk_at "nn"); (case exa => walk_at "ext"))
  | (refine' Kf.Ext.trans ?exa ?exb; (case exb => assumption); (case exa => walk_at "ext")))
local macro_rules | `(tactic| walk_at "pool") => `(tactic| first
  | assumption
  | (refine' Kf.PoolAt.ext ?plh ?ple; (case plh => assumption); (case ple => walk_at "ext"))
  | (refine' Kf.PoolAt.upd ?plh ?plo ?pln; (case plo => assumption); (case pln => walk_at "npl"); (case plh => walk_at "pool")))
local macro_rules | `(tactic| walk_at "lk") => `(tactic| first
  | assumption
  | exact L2.upd_same
  | (refine' Kf.upd_old ?lkn ?lkh; (case lkn => assumption); (case lkh => walk_at "lk"))
  | (refine' Kf.upd_oth ?lkn ?lkh; (case lkn => (first | assumption | (apply Ne.symm; assumption))); (case lkh => walk_at "lk"))
  | (refine' Kf.Ext.get ?lke ?lkh ?lkn; (case lke => assumption); (case lkh => walk_at "lk"); (case lkn => walk_at "npl"))
  | (refine' L2.Same.at ?lke ?lkh; (case lke => assumption); (case lkh => walk_at "lk")))
local macro_rules | `(tactic| walk_at "sq") => `(tactic| first
  | assumption
  | (refine' L2.SqL.of ?sqh; (case sqh => walk_at "lk"))
  | (refine' L2.SqT.of ?sqh; (case sqh => walk_at "lk"))
  | (refine' Kf.Ext.seqL ?sqe ?sqh ?sqn; (case sqh => assumption); (case sqe => walk_at "ext"); (case sqn => walk_at "npl"))
  | (refine' Kf.Ext.seqT ?sqe ?sqh; (case sqh => assumption); (case sqe => walk_at "ext")))
local macro_rules | `(tactic| walk_at "at") => `(tactic| first | exact L2.atI_nat (j := 0) rfl | exact L2.atI_nat (j := 1) rfl | exact L2.atI_nat (j := 2) rfl | exact L2.atI_nat (j := 3) rfl | exact L2.atI_nat (j := 4) rfl | assumption)
local macro_rules | `(tactic| walk_at "ixn") => `(tactic| first | exact Kf.ixN_nat (j := 0) rfl | exact Kf.ixN_nat (j := 1) rfl | exact Kf.ixN_nat (j := 2) rfl | exact Kf.ixN_nat (j := 3) rfl | assumption)
local macro_rules | `(tactic| walk_at "set") => `(tactic| (first | (simp only [List.set_cons_succ, List.set_cons_zero]; rfl) | rfl))
local macro_rules | `(tactic| walk_at "om") => `(tactic| first | decide | omega | (simp only [List.length_map, List.length_cons, List.length_nil] at *; omega))
local macro_rules | `(tactic| walk_at "calls") => `(tactic| first
  | (with_reducible refine' Kf.call_take ?clp ?cla ?clb ?clq; (case clp => walk_at "pool"); (case cla => walk_at "om"); (case clb => walk_at "om"); intro r H' hE h0 h1)
  | (with_reducible refine' Kf.call_pool ?cls ?cla ?clq; (case cls => walk_at "sq"); (case cla => walk_at "om"); intro p H' hE hN hP)
  | (with_reducible refine' Kf.call_turn ?cls ?clp ?cla ?clq; (case cls => walk_at "sq"); (case clp => walk_at "pool"); (case cla => walk_at "om"); intro u H' hE hP))
local macro_rules | `(tactic| walk_at "side") => `(tactic| first
  | exact Kf.cmul_fmod (by decide) (by decide)
  | exact rfl
  | decide
  | omega
  | assumption
  | (refine ⟨?_, ?_⟩ <;> decide)
  | (refine ⟨?_, ?_, ?_⟩ <;> decide)
  | (refine ⟨?_, ?_⟩ <;> omega)
  | (refine Or.inl ⟨?_, ?_⟩ <;> decide)
  | (refine Or.inr ⟨?_, ?_⟩ <;> decide)
  | (refine Or.inl ⟨?_, ?_⟩ <;> omega)
  | (refine Or.inr ⟨?_, ?_⟩ <;> omega))
local macro_rules | `(tactic| walk_at "kit") => `(tactic| first | exact Kf.isi_int_int | exact Kf.isi_int_bool | exact Kf.isi_int_str | exact Kf.isi_int_list | exact Kf.isi_int_tuple | exact Kf.isi_bool_int | exact Kf.isi_bool_bool | exact Kf.isi_bool_str | exact Kf.isi_bool_list | exact Kf.isi_bool_tuple | exact Kf.isi_str_int | exact Kf.isi_str_bool | exact Kf.isi_str_str | exact Kf.isi_str_list | exact Kf.isi_str_tuple | exact Kf.isi_non_list | exact Kf.isi_non_tuple | exact Kf.isi_list_list | exact Kf.isi_list_tuple | exact Kf.isi_tuple_list | exact Kf.isi_tuple_tuple | exact Kf.isi_dict_dict)
local macro_rules | `(tactic| walk_at "ty") => `(tactic| first
  | exact L2.TyX.base (L2.TyOf.int _)
  | exact L2.TyX.base (L2.TyOf.bl _)
  | exact L2.TyX.base (L2.TyOf.str _)
  | exact L2.TyX.base L2.TyOf.non
  | (refine' L2.TyX.base (L2.TyOf.lst ?tyh); (case tyh => walk_at "lk"))
  | (refine' L2.TyX.base (L2.TyOf.tup ?tyh); (case tyh => walk_at "lk"))
  | (refine' L2.TyX.base (L2.TyOf.dK ?tyh); (case tyh => walk_at "lk")))
local macro_rules | `(tactic| walk_at "om2") => `(tactic| first | assumption | decide | omega)
local macro_rules | `(tactic| walk_at "st") => `(tactic| with_reducible first
  | (refine Kf.w_var rfl ?_)
  | (refine Kf.w_c ?_)
  | (refine Kf.w_seq ?_)
  | (refine Kf.w_asg ?_)
  | (refine' Kf.w_gname ?sth ?_; (case sth => with_unfolding_all walk_at "set"))
  | (refine Kf.w_op ?_)
  | (refine Kf.w_un ?_)
  | (refine Kf.w_rU ?_)
  | (refine Kf.w_rI0 ?_)
  | (refine' Kf.w_rI ?sth ?_; (case sth => with_unfolding_all walk_at "side"))
  | (refine' Kf.w_rEq ?sth ?_; (case sth => with_unfolding_all rfl))
  | (refine' Kf.w_rNe ?sth ?_; (case sth => with_unfolding_all rfl))
  | (refine Kf.w_tTest ?_)
  | (refine Kf.w_tB ?_)
  | (refine Kf.w_exbl ?_)
  | (refine Kf.w_exint ?_)
  | (refine Kf.w_ifS ?_)
  | (refine Kf.w_ret ?_)
  | (refine Kf.w_retN ?_)
  | (refine Kf.w_drop ?_)
  | (refine Kf.w_and ?_)
  | (refine Kf.w_or ?_)
  | (refine Kf.w_not ?_)
  | (refine Kf.w_andV ?_)
  | (refine Kf.w_orV ?_)
  | (refine Kf.w_notV ?_)
  | (refine Kf.w_if ?_)
  | (refine Kf.w_lc ?_)
  | (refine Kf.w_for ?_)
  | (refine Kf.w_rng1 ?_)
  | (refine' Kf.w_rng1x ?sth ?stg ?_; (case sth => with_unfolding_all walk_at "om"); (case stg => with_unfolding_all walk_at "om"))
  | (refine Kf.w_ilist ?_)
  | (refine Kf.w_iseq ?_)
  | (refine Kf.w_itup ?_)
  | (refine' Kf.w_ilistx ?sth ?_; (case sth => with_unfolding_all walk_at "sq"))
  | (refine' Kf.w_itupx ?sth ?_; (case sth => with_unfolding_all walk_at "sq"))
  | (refine' Kf.w_wipe ?sth ?_; (case sth => with_unfolding_all rfl))
  | (refine Kf.w_yes ?_)
  | (refine' Kf.w_isi ?sth ?stg ?_; (case sth => with_unfolding_all walk_at "ty"); (case stg => walk_at "kit"))
  | (refine Kf.w_isN ?_)
  | (refine Kf.w_notN ?_)
  | (refine Kf.w_cb ?_)
  | (refine Kf.w_nil ?_)
  | (refine Kf.w_cons ?_)
  | (refine Kf.w_tup ?_)
  | (refine Kf.w_lst ?_)
  | (refine' Kf.w_lines ?sth ?_; (case sth => with_unfolding_all rfl))
  | (refine Kf.w_call ?_)
  | (refine Kf.w_next ?_)
  | (refine Kf.w_break ?_)
  | (refine Kf.w_cont ?_)
  | (refine Kf.w_dnewK ?_)
  | (refine Kf.w_fld ?_)
  | (refine' Kf.w_fldx ?sth ?stg ?stf ?ste ?_; (case sth => with_unfolding_all walk_at "lk"); (case stg => assumption); (case stf => assumption); (case ste => with_unfolding_all exact rfl))
  | (refine Kf.w_sfld ?_)
  | (refine' Kf.w_sfldx ?sth ?stg ?stf ?ste ?_; (case sth => with_unfolding_all walk_at "lk"); (case stg => assumption); (case stf => assumption); (case ste => with_unfolding_all exact rfl))
  | (refine Kf.w_meth ?_)
  | (refine' Kf.w_methx ?sth ?stg ?_; (case sth => with_unfolding_all walk_at "lk"); (case stg => with_unfolding_all exact rfl))
  | (refine Kf.w_ddel ?_)
  | (refine Kf.w_disp ?_)
  | (refine Kf.w_pcons ?_)
  | (refine Kf.w_pnil ?_)
  | (refine Kf.w_make ?_)
  | (refine Kf.w_sfldaug ?_)
  | (refine' Kf.w_sfldaugx ?sth ?stg ?stf ?ste ?_; (case sth => with_unfolding_all walk_at "lk"); (case stg => assumption); (case stf => assumption); (case ste => with_unfolding_all exact rfl))
  | (refine Kf.w_inadd ?_)
  | (refine Kf.w_dnotin ?_)
  | (refine Kf.w_dget1 ?_)
  | (refine' Kf.w_dgetS ?sth ?stg ?_; (case sth => with_unfolding_all walk_at "lk"); (case stg => with_unfolding_all exact rfl))
  | (refine Kf.w_ikeys ?_)
  | (refine Kf.w_dput ?_)
  | (refine Kf.w_dget2 ?_)
  | (refine Kf.w_dget ?_)
  | (refine Kf.w_sl ?_)
  | (refine Kf.w_nopart ?_)
  | (refine Kf.w_part ?_)
  | (refine Kf.w_bm ?_)
  | (refine Kf.w_bm0 ?_)
  | (refine' Kf.w_bmL ?sth ?_; (case sth => with_unfolding_all walk_at "lk"))
  | (refine' Kf.w_cat ?sth ?stg ?stf ?_; (case sth => with_unfolding_all walk_at "lk"); (case stg => with_unfolding_all walk_at "lk"); (case stf => with_unfolding_all walk_at "om"))
  | (refine' Kf.w_slL ?sth ?_; (case sth => with_unfolding_all walk_at "sq"))
  | (refine' Kf.w_inL ?sth ?_; (case sth => with_unfolding_all walk_at "sq"))
  | (refine' Kf.w_inT ?sth ?_; (case sth => with_unfolding_all walk_at "sq"))
  | (refine' Kf.w_ninL ?sth ?_; (case sth => with_unfolding_all walk_at "sq"))
  | (refine' Kf.w_ninT ?sth ?_; (case sth => with_unfolding_all walk_at "sq"))
  | (refine' Kf.w_listof ?sth ?_; (case sth => with_unfolding_all walk_at "sq"))
  | (refine' Kf.w_tupof ?sth ?_; (case sth => with_unfolding_all walk_at "sq"))
  | (refine Kf.w_listRev ?_)
  | (refine Kf.w_gsub ?_)
  | (refine' Kf.w_ixL ?sth ?stg ?_; (case sth => with_unfolding_all walk_at "sq"); (case stg => with_unfolding_all walk_at "at"))
  | (refine' Kf.w_ixT ?sth ?stg ?_; (case sth => with_unfolding_all walk_at "sq"); (case stg => with_unfolding_all walk_at "at"))
  | (refine' Kf.w_setL ?sth ?stg ?_; (case sth => with_unfolding_all walk_at "lk"); (case stg => with_unfolding_all walk_at "ixn"))
  | (refine' Kf.w_len ?sth ?_; (case sth => with_unfolding_all walk_at "sq"))
  | (refine' Kf.w_lenT ?sth ?_; (case sth => with_unfolding_all walk_at "sq"))
  | (refine Kf.w_int1 ?_)
  | (refine Kf.w_intb ?_)
  | (refine Kf.w_abs ?_)
  | (refine Kf.w_aug rfl ?_)
  | (refine Kf.w_par ?_)
  | (refine' Kf.w_gtup ?sth ?stg ?_; (case sth => with_unfolding_all walk_at "sq"); (case stg => with_unfolding_all exact rfl))
  | (refine' Kf.w_glst ?sth ?stg ?_; (case sth => with_unfolding_all walk_at "sq"); (case stg => with_unfolding_all exact rfl))
  | (refine Kf.w_rng2 ?_)
  | (refine Kf.w_rng3 ?_)
  | (refine' Kf.w_rng2x ?sth ?stg ?stf ?ste ?_; (case sth => with_unfolding_all walk_at "om"); (case stg => with_unfolding_all walk_at "om"); (case stf => with_unfolding_all walk_at "om"); (case ste => with_unfolding_all walk_at "om"))
  | (refine Kf.w_gcons ?_)
  | (refine Kf.w_gnil ?_)
  | (refine Kf.w_gcd ?_)
  | (refine Kf.w_bits ?_)
  | (refine Kf.w_two ?_)
  | (refine Kf.w_ipI ?_)
  | (refine L2.iteT ?_)
  | (refine L2.iteF ?_)
  | (refine Kf.iteNT ?_)
  | (refine Kf.iteNF ?_)
  | (refine' Kf.ite_decT ?sth ?_; (case sth => exact rfl))
  | (refine' Kf.ite_decF ?sth ?_; (case sth => with_unfolding_all (intro e; cases e; done)))
  | (refine' Kf.ite_ndecF ?sth ?_; (case sth => exact rfl))
  | (refine' Kf.ite_ndecT ?sth ?_; (case sth => with_unfolding_all (intro e; cases e; done)))
  | (refine' Kf.ite_viT ?sth ?_; (case sth => (with_unfolding_all walk_at "om2")))
  | (refine' Kf.ite_viF ?sth ?_; (case sth => (with_unfolding_all walk_at "om2")))
  | (refine' Kf.ite_nviT ?sth ?_; (case sth => (with_unfolding_all walk_at "om2")))
  | (refine' Kf.ite_nviF ?sth ?_; (case sth => (with_unfolding_all walk_at "om2")))
  | (refine' Kf.ite_decT ?sth ?_; (case sth => (with_unfolding_all walk_at "om2")))
  | (refine' Kf.ite_decF ?sth ?_; (case sth => (with_unfolding_all walk_at "om2")))
  | with_unfolding_all walk_at "calls")
local macro_rules | `(tactic| walk_at "go") => `(tactic| repeat walk_at "st")

namespace Kf
open PySem PySem.Spec PyProof.Rows L2
abbrev s__law_pick : Stmt := topS 10
abbrev N__law_pick : List Str := ["pool", "row"]
abbrev P__law_pick : List Str := ["pool", "row"]
theorem sc__law_pick : FnScope N__law_pick P__law_pick (defScope s__law_pick) := ⟨rfl, rfl, rfl, by decide +kernel, rfl, by decide +kernel, by decide +kernel⟩
section
variable {P : Program} {w : World} {K : PySem.W.Frag} {mg : Str → Option Value} {base : Heap} {H : Hp} {Q : VK} {E : XK}
/-- one of the row's items -/
def spPick (K : PySem.W.Frag) : Sp := fun vs H Q _ => ∃ (v : V) (a : Addr) (xs : List V), vs = [v, .ref a] ∧ PoolAt H v ∧ SqL K H a xs ∧ ¬ Pl (.lst xs) ∧ xs ≠ [] ∧ xs.length < 1000000 ∧ ∀ x H', x ∈ xs → Ext H H' → Q x H'
theorem call_pick {v : V} {a : Addr} {xs : List V} (hp : PoolAt H v) (hs : SqL K H a xs) (np : ¬ Pl (.lst xs)) (n0 : xs ≠ []) (n1 : xs.length < 1000000) (q : ∀ x H', x ∈ xs → Ext H H' → Q x H') : spPick K ([v, .ref a] ++ []) H Q E := ⟨v, a, xs, rfl, hp, hs, np, n0, n1, q⟩
theorem atI_in {xs : List V} {k : Int} (h0 : 0 ≤ k) (h1 : k < (xs.length : Nat)) : ∃ x, x ∈ xs ∧ xs[k.toNat]? = some x ∧ atI xs k = some x := by
  have hk : k.toNat < xs.length := by omega
  have e : k = ((k.toNat : Nat) : Int) := by omega
  have q := atI_nat (j := k.toNat) (List.getElem?_eq_getElem hk)
  rw [← e] at q
  exact ⟨xs[k.toNat], List.getElem_mem hk, List.getElem?_eq_getElem hk, q⟩
theorem ok_pick (D : Df K mg "_law_pick" s__law_pick P__law_pick) (b_len : mg "len" = none) (p__law_take : Pr P w K mg base "_law_take" 1 P__law_take (spTake K)) : Pr P w K mg base "_law_pick" 2 P__law_pick (spPick K) := by
  refine D.ok sc__law_pick (fun vs H Q E h => ?_) (fun f cdv A outer s H vs Q E hr h => ?_)
  · obtain ⟨v, a, xs, rfl, _⟩ := h; rfl
  obtain ⟨v, a, xs, rfl, hP, hS, np, n0, n1, q⟩ := h
  have nd := sc__law_pick.nd
  have hl : 0 < xs.length := List.length_pos_iff.mpr n0
  refine ⟨_, (pss_one (ps_ret (pe_ix (ix_listK (K := K) rfl) (pv 1) (pe_callP p__law_take hr (pa_cons (pv 0) (pa_cons (pe_callB (call_lenK (K := K) rfl) (by rfl) b_len PySem.boot_len (pa_cons (pv 1) pa_nil)) pa_nil))) (fun _ _ => rfl)))), ?_⟩
  refine w_start (σ := [some _, some _]) rfl ?_
  walk_at "go"
  rename_i r H' hE h0 h1
  obtain ⟨x, hx, _, e⟩ := atI_in h0 h1
  exact w_ixL (hE.seqL hS np) e (q x H' hx hE)
end
end Kf

end
section
set_option Elab.async false
set_option linter.all false
set_option maxRecDepth 100000
set_option maxHeartbeats 4000000
local macro_rules | `(tactic| walk_at "npl") => `(tactic| first | exact Kf.npl rfl | exact Kf.npl_ints _ | exact Kf.npl_one _ _ | exact Kf.npl_refs _ | assumption)
local macro_rules | `(tactic| walk_at "nn") => `(tactic| first
  | assumption
  | (refine' Kf.Ext.non ?nne ?nnh; (case nne => assumption); (case nnh => walk_at "nn")))
local macro_rules | `(tactic| walk_at "ext") => `(tactic| first
  | assumption
  | exact Kf.Ext.refl
  | (refine' Kf.Ext.newer ?exa ?exn; (case exn => assumption); (case exa => walk_at "ext"))
  | (refine' Kf.Ext.own ?exa ?exn; (case exn => walk_at "nn"); (case exa => walk_at "ext"))
  | (refine' Kf.Ext.trans ?exa ?exb; (case exb => assumption); (case exa => walk_at "ext")))
local macro_rules | `(tactic| walk_at "pool") => `(tactic| first
  | assumption
  | (refine' Kf.PoolAt.ext ?plh ?ple; (case plh => assumption); (case ple => walk_at "ext"))
  | (refine' Kf.PoolAt.upd ?plh ?plo ?pln; (case plo => assumption); (case pln => walk_at "npl"); (case plh => walk_at "pool")))
local macro_rules | `(tactic| walk_at "lk") => `(tactic| first
  | assumption
  | exact L2.upd_same
  | (refine' Kf.upd_old ?lkn ?lkh; (case lkn => assumption); (case lkh => walk_at "lk"))
  | (refine' Kf.upd_oth ?lkn ?lkh; (case lkn => (first | assumption | (apply Ne.symm; assumption))); (case lkh => walk_at "lk"))
  | (refine' Kf.Ext.get ?lke ?lkh ?lkn; (case lke => assumption); (case lkh => walk_at "lk"); (case lkn => walk_at "npl"))
  | (refine' L2.Same.at ?lke ?lkh; (case lke => assumption); (case lkh => walk_at "lk")))
local macro_rules | `(tactic| walk_at "sq") => `(tactic| first
  | assumption
  | (refine' L2.SqL.of ?sqh; (case sqh => walk_at "lk"))
  | (refine' L2.SqT.of ?sqh; (case sqh => walk_at "lk"))
  | (refine' Kf.Ext.seqL ?sqe ?sqh ?sqn; (case sqh => assumption); (case sqe => walk_at "ext"); (case sqn => walk_at "npl"))
  | (refine' Kf.Ext.seqT ?sqe ?sqh; (case sqh => assumption); (case sqe => walk_at "ext")))
local macro_rules | `(tactic| walk_at "at") => `(tactic| first | exact L2.atI_nat (j := 0) rfl | exact L2.atI_nat (j := 1) rfl | exact L2.atI_nat (j := 2) rfl | exact L2.atI_nat (j := 3) rfl | exact L2.atI_nat (j := 4) rfl | assumption)
local macro_rules | `(tactic| walk_at "ixn") => `(tactic| first | exact Kf.ixN_nat (j := 0) rfl | exact Kf.ixN_nat (j := 1) rfl | exact Kf.ixN_nat (j := 2) rfl | exact Kf.ixN_nat (j := 3) rfl | assumption)
local macro_rules | `(tactic| walk_at "set") => `(tactic| (first | (simp only [List.set_cons_succ, List.set_cons_zero]; rfl) | rfl))
local macro_rules | `(tactic| walk_at "om") => `(tactic| first | decide | omega | (simp only [List.length_map, List.length_cons, List.length_nil] at *; omega))
local macro_rules | `(tactic| walk_at "calls") => `(tactic| first
  | (with_reducible refine' Kf.call_take ?clp ?cla ?clb ?clq; (case clp => walk_at "pool"); (case cla => walk_at "om"); (case clb => walk_at "om"); intro r H' hE h0 h1)
  | (with_reducible refine' Kf.call_pool ?cls ?cla ?clq; (case cls => walk_at "sq"); (case cla => walk_at "om"); intro p H' hE hN hP)
  | (with_reducible refine' Kf.call_turn ?cls ?clp ?cla ?clq; (case cls => walk_at "sq"); (case clp => walk_at "pool"); (case cla => walk_at "om"); intro u H' hE hP))
local macro_rules | `(tactic| walk_at "side") => `(tactic| first
  | exact Kf.cmul_fmod (by decide) (by decide)
  | exact rfl
  | decide
  | omega
  | assumption
  | (refine ⟨?_, ?_⟩ <;> decide)
  | (refine ⟨?_, ?_, ?_⟩ <;> decide)
  | (refine ⟨?_, ?_⟩ <;> omega)
  | (refine Or.inl ⟨?_, ?_⟩ <;> decide)
  | (refine Or.inr ⟨?_, ?_⟩ <;> decide)
  | (refine Or.inl ⟨?_, ?_⟩ <;> omega)
  | (refine Or.inr ⟨?_, ?_⟩ <;> omega))
local macro_rules | `(tactic| walk_at "kit") => `(tactic| first | exact Kf.isi_int_int | exact Kf.isi_int_bool | exact Kf.isi_int_str | exact Kf.isi_int_list | exact Kf.isi_int_tuple | exact Kf.isi_bool_int | exact Kf.isi_bool_bool | exact Kf.isi_bool_str | exact Kf.isi_bool_list | exact Kf.isi_bool_tuple | exact Kf.isi_str_int | exact Kf.isi_str_bool | exact Kf.isi_str_str | exact Kf.isi_str_list | exact Kf.isi_str_tuple | exact Kf.isi_non_list | exact Kf.isi_non_tuple | exact Kf.isi_list_list | exact Kf.isi_list_tuple | exact Kf.isi_tuple_list | exact Kf.isi_tuple_tuple | exact Kf.isi_dict_dict)
local macro_rules | `(tactic| walk_at "ty") => `(tactic| first
  | exact L2.TyX.base (L2.TyOf.int _)
  | exact L2.TyX.base (L2.TyOf.bl _)
  | exact L2.TyX.base (L2.TyOf.str _)
  | exact L2.TyX.base L2.TyOf.non
  | (refine' L2.TyX.base (L2.TyOf.lst ?tyh); (case tyh => walk_at "lk"))
  | (refine' L2.TyX.base (L2.TyOf.tup ?tyh); (case tyh => walk_at "lk"))
  | (refine' L2.TyX.base (L2.TyOf.dK ?tyh); (case tyh => walk_at "lk")))
local macro_rules | `(tactic| walk_at "om2") => `(tactic| first | assumption | decide | omega)
local macro_rules | `(tactic| walk_at "st") => `(tactic| with_reducible first
  | (refine Kf.w_var rfl ?_)
  | (refine Kf.w_c ?_)
  | (refine Kf.w_seq ?_)
  | (refine Kf.w_asg ?_)
  | (refine' Kf.w_gname ?sth ?_; (case sth => with_unfolding_all walk_at "set"))
  | (refine Kf.w_op ?_)
  | (refine Kf.w_un ?_)
  | (refine Kf.w_rU ?_)
  | (refine Kf.w_rI0 ?_)
  | (refine' Kf.w_rI ?sth ?_; (case sth => with_unfolding_all walk_at "side"))
  | (refine' Kf.w_rEq ?sth ?_; (case sth => with_unfolding_all rfl))
  | (refine' Kf.w_rNe ?sth ?_; (case sth => with_unfolding_all rfl))
  | (refine Kf.w_tTest ?_)
  | (refine Kf.w_tB ?_)
  | (refine Kf.w_exbl ?_)
  | (refine Kf.w_exint ?_)
  | (refine Kf.w_ifS ?_)
  | (refine Kf.w_ret ?_)
  | (refine Kf.w_retN ?_)
  | (refine Kf.w_drop ?_)
  | (refine Kf.w_and ?_)
  | (refine Kf.w_or ?_)
  | (refine Kf.w_not ?_)
  | (refine Kf.w_andV ?_)
  | (refine Kf.w_orV ?_)
  | (refine Kf.w_notV ?_)
  | (refine Kf.w_if ?_)
  | (refine Kf.w_lc ?_)
  | (refine Kf.w_for ?_)
  | (refine Kf.w_rng1 ?_)
  | (refine' Kf.w_rng1x ?sth ?stg ?_; (case sth => with_unfolding_all walk_at "om"); (case stg => with_unfolding_all walk_at "om"))
  | (refine Kf.w_ilist ?_)
  | (refine Kf.w_iseq ?_)
  | (refine Kf.w_itup ?_)
  | (refine' Kf.w_ilistx ?sth ?_; (case sth => with_unfolding_all walk_at "sq"))
  | (refine' Kf.w_itupx ?sth ?_; (case sth => with_unfolding_all walk_at "sq"))
  | (refine' Kf.w_wipe ?sth ?_; (case sth => with_unfolding_all rfl))
  | (refine Kf.w_yes ?_)
  | (refine' Kf.w_isi ?sth ?stg ?_; (case sth => with_unfolding_all walk_at "ty"); (case stg => walk_at "kit"))
  | (refine Kf.w_isN ?_)
  | (refine Kf.w_notN ?_)
  | (refine Kf.w_cb ?_)
  | (refine Kf.w_nil ?_)
  | (refine Kf.w_cons ?_)
  | (refine Kf.w_tup ?_)
  | (refine Kf.w_lst ?_)
  | (refine' Kf.w_lines ?sth ?_; (case sth => with_unfolding_all rfl))
  | (refine Kf.w_call ?_)
  | (refine Kf.w_next ?_)
  | (refine Kf.w_break ?_)
  | (refine Kf.w_cont ?_)
  | (refine Kf.w_dnewK ?_)
  | (refine Kf.w_fld ?_)
  | (refine' Kf.w_fldx ?sth ?stg ?stf ?ste ?_; (case sth => with_unfolding_all walk_at "lk"); (case stg => assumption); (case stf => assumption); (case ste => with_unfolding_all exact rfl))
  | (refine Kf.w_sfld ?_)
  | (refine' Kf.w_sfldx ?sth ?stg ?stf ?ste ?_; (case sth => with_unfolding_all walk_at "lk"); (case stg => assumption); (case stf => assumption); (case ste => with_unfolding_all exact rfl))
  | (refine Kf.w_meth ?_)
  | (refine' Kf.w_methx ?sth ?stg ?_; (case sth => with_unfolding_all walk_at "lk"); (case stg => with_unfolding_all exact rfl))
  | (refine Kf.w_ddel ?_)
  | (refine Kf.w_disp ?_)
  | (refine Kf.w_pcons ?_)
  | (refine Kf.w_pnil ?_)
  | (refine Kf.w_make ?_)
  | (refine Kf.w_sfldaug ?_)
  | (refine' Kf.w_sfldaugx ?sth ?stg ?stf ?ste ?_; (case sth => with_unfolding_all walk_at "lk"); (case stg => assumption); (case stf => assumption); (case ste => with_unfolding_all exact rfl))
  | (refine Kf.w_inadd ?_)
  | (refine Kf.w_dnotin ?_)
  | (refine Kf.w_dget1 ?_)
  | (refine' Kf.w_dgetS ?sth ?stg ?_; (case sth => with_unfolding_all walk_at "lk"); (case stg => with_unfolding_all exact rfl))
  | (refine Kf.w_ikeys ?_)
  | (refine Kf.w_dput ?_)
  | (refine Kf.w_dget2 ?_)
  | (refine Kf.w_dget ?_)
  | (refine Kf.w_sl ?_)
  | (refine Kf.w_nopart ?_)
  | (refine Kf.w_part ?_)
  | (refine Kf.w_bm ?_)
  | (refine Kf.w_bm0 ?_)
  | (refine' Kf.w_bmL ?sth ?_; (case sth => with_unfolding_all walk_at "lk"))
  | (refine' Kf.w_cat ?sth ?stg ?stf ?_; (case sth => with_unfolding_all walk_at "lk"); (case stg => with_unfolding_all walk_at "lk"); (case stf => with_unfolding_all walk_at "om"))
  | (refine' Kf.w_slL ?sth ?_; (case sth => with_unfolding_all walk_at "sq"))
  | (refine' Kf.w_inL ?sth ?_; (case sth => with_unfolding_all walk_at "sq"))
  | (refine' Kf.w_inT ?sth ?_; (case sth => with_unfolding_all walk_at "sq"))
  | (refine' Kf.w_ninL ?sth ?_; (case sth => with_unfolding_all walk_at "sq"))
  | (refine' Kf.w_ninT ?sth ?_; (case sth => with_unfolding_all walk_at "sq"))
  | (refine' Kf.w_listof ?sth ?_; (case sth => with_unfolding_all walk_at "sq"))
  | (refine' Kf.w_tupof ?sth ?_; (case sth => with_unfolding_all walk_at "sq"))
  | (refine Kf.w_listRev ?_)
  | (refine Kf.w_gsub ?_)
  | (refine' Kf.w_ixL ?sth ?stg ?_; (case sth => with_unfolding_all walk_at "sq"); (case stg => with_unfolding_all walk_at "at"))
  | (refine' Kf.w_ixT ?sth ?stg ?_; (case sth => with_unfolding_all walk_at "sq"); (case stg => with_unfolding_all walk_at "at"))
  | (refine' Kf.w_setL ?sth ?stg ?_; (case sth => with_unfolding_all walk_at "lk"); (case stg => with_unfolding_all walk_at "ixn"))
  | (refine' Kf.w_len ?sth ?_; (case sth => with_unfolding_all walk_at "sq"))
  | (refine' Kf.w_lenT ?sth ?_; (case sth => with_unfolding_all walk_at "sq"))
  | (refine Kf.w_int1 ?_)
  | (refine Kf.w_intb ?_)
  | (refine Kf.w_abs ?_)
  | (refine Kf.w_aug rfl ?_)
  | (refine Kf.w_par ?_)
  | (refine' Kf.w_gtup ?sth ?stg ?_; (case sth => with_unfolding_all walk_at "sq"); (case stg => with_unfolding_all exact rfl))
  | (refine' Kf.w_glst ?sth ?stg ?_; (case sth => with_unfolding_all walk_at "sq"); (case stg => with_unfolding_all exact rfl))
  | (refine Kf.w_rng2 ?_)
  | (refine Kf.w_rng3 ?_)
  | (refine' Kf.w_rng2x ?sth ?stg ?stf ?ste ?_; (case sth => with_unfolding_all walk_at "om"); (case stg => with_unfolding_all walk_at "om"); (case stf => with_unfolding_all walk_at "om"); (case ste => with_unfolding_all walk_at "om"))
  | (refine Kf.w_gcons ?_)
  | (refine Kf.w_gnil ?_)
  | (refine Kf.w_gcd ?_)
  | (refine Kf.w_bits ?_)
  | (refine Kf.w_two ?_)
  | (refine Kf.w_ipI ?_)
  | (refine L2.iteT ?_)
  | (refine L2.iteF ?_)
  | (refine Kf.iteNT ?_)
  | (refine Kf.iteNF ?_)
  | (refine' Kf.ite_decT ?sth ?_; (case sth => exact rfl))
  | (refine' Kf.ite_decF ?sth ?_; (case sth => with_unfolding_all (intro e; cases e; done)))
  | (refine' Kf.ite_ndecF ?sth ?_; (case sth => exact rfl))
  | (refine' Kf.ite_ndecT ?sth ?_; (case sth => with_unfolding_all (intro e; cases e; done)))
  | (refine' Kf.ite_viT ?sth ?_; (case sth => (with_unfolding_all walk_at "om2")))
  | (refine' Kf.ite_viF ?sth ?_; (case sth => (with_unfolding_all walk_at "om2")))
  | (refine' Kf.ite_nviT ?sth ?_; (case sth => (with_unfolding_all walk_at "om2")))
  | (refine' Kf.ite_nviF ?sth ?_; (case sth => (with_unfolding_all walk_at "om2")))
  | (refine' Kf.ite_decT ?sth ?_; (case sth => (with_unfolding_all walk_at "om2")))
  | (refine' Kf.ite_decF ?sth ?_; (case sth => (with_unfolding_all walk_at "om2")))
  | with_unfolding_all walk_at "calls")
local macro_rules | `(tactic| walk_at "go") => `(tactic| repeat walk_at "st")

namespace Kf
open PySem PySem.Spec PyProof.Rows L2
abbrev s__law_whole : Stmt := topS 12
abbrev N__law_whole : List Str := ["value"]
abbrev P__law_whole : List Str := ["value"]
theorem sc__law_whole : FnScope N__law_whole P__law_whole (defScope s__law_whole) := ⟨rfl, rfl, rfl, by decide +kernel, rfl, by decide +kernel, by decide +kernel⟩
/-! ### data: numbers, texts, truths, None, lists, tuples -/
mutual
inductive Dq (H : Hp) : V → PyData → Prop
  | non : Dq H .non .none
  | bl (b : Bool) : Dq H (.bl b) (.bool b)
  | int (i : Int) : Dq H (.int i) (.int i)
  | str (x : Str) : Dq H (.str x) (.str x)
  | lst {a : Addr} {xs : List V} {ds : List PyData} : H a = some (.lst xs) → ¬ Pl (.lst xs) → DqAll H xs ds → Dq H (.ref a) (.list ds)
  | tup {a : Addr} {xs : List V} {ds : List PyData} : H a = some (.tup xs) → DqAll H xs ds → Dq H (.ref a) (.tuple ds)
inductive DqAll (H : Hp) : List V → List PyData → Prop
  | nil : DqAll H [] []
  | cons {v : V} {vs : List V} {d : PyData} {ds : List PyData} : Dq H v d → DqAll H vs ds → DqAll H (v :: vs) (d :: ds)
end
mutual
theorem Dq.ext {H H' : Hp} (e : Ext H H') : ∀ {v : V} {d : PyData}, Dq H v d → Dq H' v d
  | _, _, .non => .non
  | _, _, .bl b => .bl b
  | _, _, .int i => .int i
  | _, _, .str x => .str x
  | _, _, .lst h n r => .lst (e.get h n) n (DqAll.ext e r)
  | _, _, .tup h r => .tup (e.get h (npl rfl)) (DqAll.ext e r)
theorem DqAll.ext {H H' : Hp} (e : Ext H H') : ∀ {vs : List V} {ds : List PyData}, DqAll H vs ds → DqAll H' vs ds
  | _, _, .nil => .nil
  | _, _, .cons h r => .cons (Dq.ext e h) (DqAll.ext e r)
end
mutual
theorem Dq.dp {H : Hp} {K : PySem.W.Frag} : ∀ {v : V} {d : PyData}, Dq H v d → Dp K H v d
  | _, _, .non => .non
  | _, _, .bl b => .bl b
  | _, _, .int i => .int i
  | _, _, .str x => .str x
  | _, _, .lst h _ r => .lst (SqL.of h) (DqAll.dp r)
  | _, _, .tup h r => .tup (SqT.of h) (DqAll.dp r)
theorem DqAll.dp {H : Hp} {K : PySem.W.Frag} : ∀ {vs : List V} {ds : List PyData}, DqAll H vs ds → DpAll K H vs ds
  | _, _, .nil => .nil
  | _, _, .cons h r => .cons (Dq.dp h) (DqAll.dp r)
end
theorem DqAll.len {H : Hp} : ∀ {vs : List V} {ds : List PyData}, DqAll H vs ds → vs.length = ds.length
  | _, _, .nil => rfl
  | _, _, .cons _ r => by simp [DqAll.len r]
theorem DqAll.get {H : Hp} : ∀ {vs : List V} {ds : List PyData} {i : Nat} {v : V}, DqAll H vs ds → vs[i]? = some v → ∃ d, ds[i]? = some d ∧ Dq H v d
  | _, _, _, _, .nil, h => by simp at h
  | _, _, 0, _, .cons q r, h => by
    simp at h
    subst h
    exact ⟨_, rfl, q⟩
  | _, _, i + 1, _, .cons q r, h => by
    obtain ⟨d, e, q'⟩ := DqAll.get (i := i) r (by simpa using h)
    exact ⟨d, by simpa using e, q'⟩
theorem DqAll.ints {H : Hp} : ∀ ns : List Int, DqAll H (ns.map V.int) (ns.map PyData.int)
  | [] => .nil
  | n :: r => .cons (.int n) (DqAll.ints r)
/-- few levels, no list of more than a thousand -/
def Sm : Nat → PyData → Prop
  | 0, .list _ => False
  | 0, .tuple _ => False
  | n + 1, .list ds => ds.length ≤ 1000 ∧ ∀ d ∈ ds, Sm n d
  | n + 1, .tuple ds => ds.length ≤ 1000 ∧ ∀ d ∈ ds, Sm n d
  | _, .dict _ => False
  | _, _ => True
def spWhole (K : PySem.W.Frag) : Sp := fun vs H Q _ => ∃ i : Int, vs = [.int i] ∧ Q (.bl true) H
def spAlike (n : Nat) : Sp := fun vs H Q _ => ∃ (t u : V) (d : PyData), vs = [t, u] ∧ Dq H t d ∧ Dq H u d ∧ Sm n d ∧ ∀ H', Ext H H' → Q (.bl true) H'
section
variable {P : Program} {w : World} {K : PySem.W.Frag} {mg : Str → Option Value} {base : Heap} {H : Hp} {Q : VK} {E : XK}
theorem call_whole {i : Int} (q : Q (.bl true) H) : spWhole K ([.int i] ++ []) H Q E := ⟨i, rfl, q⟩
theorem call_alike {n : Nat} {t u : V} {d : PyData} (h1 : Dq H t d) (h2 : Dq H u d) (hs : Sm n d) (q : ∀ H', Ext H H' → Q (.bl true) H') : spAlike n ([t, u] ++ []) H Q E := ⟨t, u, d, rfl, h1, h2, hs, q⟩
theorem ok_whole (D : Df K mg "_law_whole" s__law_whole P__law_whole) (b_isinstance : mg "isinstance" = none) (b_int : mg "int" = none) (b_bool : mg "bool" = none) : Pr P w K mg base "_law_whole" 1 P__law_whole (spWhole K) := by
  refine D.ok sc__law_whole (fun vs H Q E h => ?_) (fun f cdv A outer s H vs Q E hr h => ?_)
  · obtain ⟨i, rfl, _⟩ := h; rfl
  obtain ⟨i, rfl, q⟩ := h
  have nd := sc__law_whole.nd
  refine ⟨_, (pss_one (ps_ret (pe_and (pe_callB (call_isiK1 (K := K) rfl) (by rfl) b_isinstance (by decide +kernel) (pa_cons (pv 0) (pa_cons (pe_bltn (v := .ty "int") (by rfl) b_int (by decide +kernel) rfl) pa_nil))) (pe_one (pe_not (pe_callB (call_isiK1 (K := K) rfl) (by rfl) b_isinstance (by decide +kernel) (pa_cons (pv 0) (pa_cons (pe_bltn (v := .ty "bool") (by rfl) b_bool (by decide +kernel) rfl) pa_nil)))))))), ?_⟩
  refine w_start (σ := [some _]) rfl ?_
  walk_at "go"
  exact q
theorem Df.never {x : Str} {st : Stmt} {ps : List Str} (D : Df K mg x st ps) (sp : Sp) (h : ∀ vs H Q E, ¬ sp vs H Q E) : Pr P w K mg base x 0 ps sp := by
  obtain ⟨f, fd, F, b, g⟩ := D.ex
  obtain ⟨oc, od, kV, doc, pm, an, cdv, ct, osl, e, lk, hcd⟩ := F.ex
  exact ⟨f, fd, ⟨fun vs H Q E q => absurd q (h _ _ _ _), fun A outer s H args us vs Q E _ _ _ _ q => absurd q (h _ _ _ _)⟩, b, F.kp, g, oc, od, osl, lk⟩
end
abbrev s__law_alike : Stmt := topS 13
abbrev N__law_alike : List Str := ["told", "due", "k"]
abbrev P__law_alike : List Str := ["told", "due"]
theorem sc__law_alike : FnScope N__law_alike P__law_alike (defScope s__law_alike) := ⟨rfl, rfl, rfl, by decide +kernel, rfl, by decide +kernel, by decide +kernel⟩
theorem neB {a : Bool} : (!decide (V.bl a = V.bl a)) = false := by simp
section
variable {P : Program} {w : World} {K : PySem.W.Frag} {mg : Str → Option Value} {base : Heap} {H : Hp} {Q : VK} {E : XK}
theorem ok_alike_step {n m : Nat} (D : Df K mg "_law_alike" s__law_alike P__law_alike) (b_isinstance : mg "isinstance" = none) (b_int : mg "int" = none) (b_bool : mg "bool" = none) (b_list : mg "list" = none) (b_tuple : mg "tuple" = none) (b_str : mg "str" = none) (b_len : mg "len" = none) (b_range : mg "range" = none)
    (p__law_whole : Pr P w K mg base "_law_whole" 1 P__law_whole (spWhole K)) (sp : Sp) (p__law_alike : Pr P w K mg base "_law_alike" m P__law_alike sp) (hm : m ≤ n + 1) (hsp : ∀ k vs H Q E, n = k + 1 → spAlike k vs H Q E → sp vs H Q E) : Pr P w K mg base "_law_alike" (n + 2) P__law_alike (spAlike n) := by
  refine D.ok sc__law_alike (fun vs H Q E h => ?_) (fun f cdv A outer s H vs Q E hr h => ?_)
  · obtain ⟨t, u, d, rfl, _⟩ := h; rfl
  obtain ⟨t, u, d, rfl, h1, h2, hs, q⟩ := h
  have nd := sc__law_alike.nd
  have hr1 : Room 1 _ := hr.mono (j := 1) (by omega)
  have hrm := hr.mono hm
  refine ⟨_, (pss_cons (ps_if (PW.pt (pw_or (pt_val (pe_callB (call_isiK1 (K := K) rfl) (by rfl) b_isinstance (by decide +kernel) (pa_cons (pv 1) (pa_cons (pe_bltn (v := .ty "list") (by rfl) b_list (by decide +kernel) rfl) pa_nil)))) (pw_or1 (pt_val (pe_callB (call_isiK1 (K := K) rfl) (by rfl) b_isinstance (by decide +kernel) (pa_cons (pv 1) (pa_cons (pe_bltn (v := .ty "tuple") (by rfl) b_tuple (by decide +kernel) rfl) pa_nil))))))) (pss_cons (ps_if (PW.pt (pw_or (pt_cmpR op_ne (pe_callB (call_isiK1 (K := K) rfl) (by rfl) b_isinstance (by decide +kernel) (pa_cons (pv 0) (pa_cons (pe_bltn (v := .ty "list") (by rfl) b_list (by decide +kernel) rfl) pa_nil))) (pe_callB (call_isiK1 (K := K) rfl) (by rfl) b_isinstance (by decide +kernel) (pa_cons (pv 1) (pa_cons (pe_bltn (v := .ty "list") (by rfl) b_list (by decide +kernel) rfl) pa_nil))) (nomark _)) (pw_or1 (pt_cmpR op_ne (pe_callB (call_isiK1 (K := K) rfl) (by rfl) b_isinstance (by decide +kernel) (pa_cons (pv 0) (pa_cons (pe_bltn (v := .ty "tuple") (by rfl) b_tuple (by decide +kernel) rfl) pa_nil))) (pe_callB (call_isiK1 (K := K) rfl) (by rfl) b_isinstance (by decide +kernel) (pa_cons (pv 1) (pa_cons (pe_bltn (v := .ty "tuple") (by rfl) b_tuple (by decide +kernel) rfl) pa_nil))) (nomark _))))) (pss_one (ps_ret pe_bl)) pss_nil)
      (pss_cons (ps_if (pt_cmpR op_ne (pe_callB (call_lenK (K := K) rfl) (by rfl) b_len PySem.boot_len (pa_cons (pv 0) pa_nil)) (pe_callB (call_lenK (K := K) rfl) (by rfl) b_len PySem.boot_len (pa_cons (pv 1) pa_nil)) (nomark _)) (pss_one (ps_ret pe_bl)) pss_nil)
      (pss_one (ps_ret (pe_cmpR op_eq (pe_callB (call_lenK (K := K) rfl) (by rfl) b_len PySem.boot_len (pa_cons (pe_lc (own := [("k", 2)]) rfl nd (pi_range1 (by rfl) b_range (pa_cons (pe_callB (call_lenK (K := K) rfl) (by rfl) b_len PySem.boot_len (pa_cons (pv 1) pa_nil)) pa_nil)) (blkOk_by (N := N__law_alike) (sc := defScope s__law_alike) (by decide +kernel)) (fun _ _ _ _ _ => pg_name (i := 2) nd rfl (Or.inl rfl)) (fun _ _ _ _ _ => pts_one (pt_not (pt_val (pe_callP p__law_alike hrm (pa_cons (pe_ix (ix_seqK (K := K) rfl) (pv 0) (pv 2) (fun _ _ => rfl)) (pa_cons (pe_ix (ix_seqK (K := K) rfl) (pv 1) (pv 2) (fun _ _ => rfl)) pa_nil)) (Nat.le_refl _))))) (fun _ _ _ _ _ => (pv 2))) pa_nil)) pe_int (nomark _)))))) pss_nil)
      (pss_cons (ps_if (pt_cmp (pc_isN (pv 1))) (pss_one (ps_ret (pe_cmp (pc_isN (pv 0))))) pss_nil)
      (pss_cons (ps_if (pt_val (pe_callB (call_isiK1 (K := K) rfl) (by rfl) b_isinstance (by decide +kernel) (pa_cons (pv 1) (pa_cons (pe_bltn (v := .ty "bool") (by rfl) b_bool (by decide +kernel) rfl) pa_nil)))) (pss_one (ps_ret (pe_and (pe_callB (call_isiK1 (K := K) rfl) (by rfl) b_isinstance (by decide +kernel) (pa_cons (pv 0) (pa_cons (pe_bltn (v := .ty "bool") (by rfl) b_bool (by decide +kernel) rfl) pa_nil))) (pe_one (pe_cmpR op_eq (pv 0) (pv 1) (nomark _)))))) pss_nil)
      (pss_cons (ps_if (pt_val (pe_callB (call_isiK1 (K := K) rfl) (by rfl) b_isinstance (by decide +kernel) (pa_cons (pv 1) (pa_cons (pe_bltn (v := .ty "str") (by rfl) b_str (by decide +kernel) rfl) pa_nil)))) (pss_one (ps_ret (pe_and (pe_callB (call_isiK1 (K := K) rfl) (by rfl) b_isinstance (by decide +kernel) (pa_cons (pv 0) (pa_cons (pe_bltn (v := .ty "str") (by rfl) b_str (by decide +kernel) rfl) pa_nil))) (pe_one (pe_cmpR op_eq (pv 0) (pv 1) (nomark _)))))) pss_nil)
      (pss_one (ps_ret (pe_and (pe_callP p__law_whole hr1 (pa_cons (pv 0) pa_nil) (Nat.le_refl _)) (pe_one (pe_cmpR op_eq (pv 0) (pv 1) (nomark _)))))))))), ?_⟩
  cases h2 with
  | non =>
    cases h1
    refine w_start (σ := [some _, some _, none]) rfl ?_
    walk_at "go"
    exact q _ Ext.refl
  | bl b =>
    cases h1
    refine w_start (σ := [some _, some _, none]) rfl ?_
    walk_at "go"
    rw [decide_eq_true rfl]
    exact q _ Ext.refl
  | int i =>
    cases h1
    refine w_start (σ := [some _, some _, none]) rfl ?_
    walk_at "go"
    refine call_whole ?_
    walk_at "go"
    rw [decide_eq_true rfl]
    exact q _ Ext.refl
  | str x =>
    cases h1
    refine w_start (σ := [some _, some _, none]) rfl ?_
    walk_at "go"
    rw [decide_eq_true rfl]
    exact q _ Ext.refl
  | @lst b ys ds hb nb rb =>
    cases h1 with
    | @lst a xs _ ha na ra =>
      cases n with
      | zero => exact hs.elim
      | succ n =>
        obtain ⟨hl, hs⟩ := hs
        have e1 := ra.len
        have e2 := rb.len
        refine w_start (σ := [some _, some _, none]) rfl ?_
        walk_at "go"
        refine lc_r (R := fun _ acc _ => acc = []) rfl (fun _ _ _ _ _ h => h) ?_ ?_
        · rintro i acc D' H1 hi hD hacc hE rfl
          have hia : i < xs.length := by omega
          have hib : i < ys.length := by omega
          obtain ⟨d, hd, q1⟩ := ra.get (List.getElem?_eq_getElem hia)
          obtain ⟨d', hd', q2⟩ := rb.get (List.getElem?_eq_getElem hib)
          rw [hd] at hd'
          cases hd'
          walk_at "go"
          simp only [Int.zero_add]
          refine .inl ⟨_, _, _, _, rfl, rfl, SqL.of (hE.get ha na), atI_nat (j := i) (List.getElem?_eq_getElem hia), ?_⟩
          walk_at "go"
          refine .inl ⟨_, _, _, _, rfl, rfl, SqL.of (hE.get hb nb), atI_nat (j := i) (List.getElem?_eq_getElem hib), ?_⟩
          walk_at "go"
          refine hsp n _ _ _ _ rfl (call_alike (q1.ext hE) (q2.ext hE) (hs d (List.mem_of_getElem? hd)) fun H' hE' => ?_)
          walk_at "go"
          exact LcP.skip hacc npl_nil hE hE' rfl
        · rintro D' acc H1 hD hacc hE rfl
          walk_at "go"
          exact q _ hE
  | @tup b ys ds hb rb =>
    cases h1 with
    | @tup a xs _ ha ra =>
      cases n with
      | zero => exact hs.elim
      | succ n =>
        obtain ⟨hl, hs⟩ := hs
        have e1 := ra.len
        have e2 := rb.len
        refine w_start (σ := [some _, some _, none]) rfl ?_
        walk_at "go"
        refine lc_r (R := fun _ acc _ => acc = []) rfl (fun _ _ _ _ _ h => h) ?_ ?_
        · rintro i acc D' H1 hi hD hacc hE rfl
          have hia : i < xs.length := by omega
          have hib : i < ys.length := by omega
          obtain ⟨d, hd, q1⟩ := ra.get (List.getElem?_eq_getElem hia)
          obtain ⟨d', hd', q2⟩ := rb.get (List.getElem?_eq_getElem hib)
          rw [hd] at hd'
          cases hd'
          walk_at "go"
          simp only [Int.zero_add]
          refine .inr (.inl ⟨_, _, _, _, rfl, rfl, SqT.of (hE.get ha (npl rfl)), atI_nat (j := i) (List.getElem?_eq_getElem hia), ?_⟩)
          walk_at "go"
          refine .inr (.inl ⟨_, _, _, _, rfl, rfl, SqT.of (hE.get hb (npl rfl)), atI_nat (j := i) (List.getElem?_eq_getElem hib), ?_⟩)
          walk_at "go"
          refine hsp n _ _ _ _ rfl (call_alike (q1.ext hE) (q2.ext hE) (hs d (List.mem_of_getElem? hd)) fun H' hE' => ?_)
          walk_at "go"
          exact LcP.skip hacc npl_nil hE hE' rfl
        · rintro D' acc H1 hD hacc hE rfl
          walk_at "go"
          exact q _ hE
theorem ok_alike (D : Df K mg "_law_alike" s__law_alike P__law_alike) (b_isinstance : mg "isinstance" = none) (b_int : mg "int" = none) (b_bool : mg "bool" = none) (b_list : mg "list" = none) (b_tuple : mg "tuple" = none) (b_str : mg "str" = none) (b_len : mg "len" = none) (b_range : mg "range" = none)
    (p__law_whole : Pr P w K mg base "_law_whole" 1 P__law_whole (spWhole K)) : ∀ n : Nat, Pr P w K mg base "_law_alike" (n + 2) P__law_alike (spAlike n)
  | 0 => ok_alike_step D b_isinstance b_int b_bool b_list b_tuple b_str b_len b_range p__law_whole (fun _ _ _ _ => False) (D.never _ fun _ _ _ _ h => h) (by omega) (fun k vs H Q E e _ => by omega)
  | n + 1 => ok_alike_step D b_isinstance b_int b_bool b_list b_tuple b_str b_len b_range p__law_whole _ (ok_alike D b_isinstance b_int b_bool b_list b_tuple b_str b_len b_range p__law_whole n) (by omega) (fun k vs H Q E e h => by
    have e' : n = k := by omega
    subst e'
    exact h)
end
end Kf

end
section
set_option Elab.async false
set_option linter.all false
set_option maxRecDepth 100000
set_option maxHeartbeats 4000000
namespace Kf
open PySem PySem.Spec PyProof.Rows L2
theorem npl_nobl {xs : List V} (h : ∀ x ∈ xs, ∀ b, x ≠ .bl b) : ¬ Pl (.lst xs) := by
  rintro ⟨c, k, b, s, e⟩
  have e := HO.lst.inj e
  subst e
  exact h (.bl b) (by simp) b rfl
/-! ### lists of data -/
def isSq : PyData → Prop
  | .list _ => True
  | .tuple _ => True
  | _ => False
theorem DqAll.nobl {H : Hp} : ∀ {vs : List V} {ds : List PyData}, DqAll H vs ds → (∀ d ∈ ds, isSq d) → ∀ x ∈ vs, ∀ b, x ≠ .bl b
  | _, _, .nil, _, x, hx, b, e => by cases hx
  | _, _, .cons h t, hd, x, hx, b, e => by
    rcases List.mem_cons.mp hx with z | z
    · subst z e
      cases h
      exact hd _ List.mem_cons_self
    · exact DqAll.nobl t (fun d hd' => hd d (List.mem_cons_of_mem _ hd')) x z b e
theorem DqAll.npl {H : Hp} {vs : List V} {ds : List PyData} (h : DqAll H vs ds) (hd : ∀ d ∈ ds, isSq d) : ¬ Pl (.lst vs) := npl_nobl (h.nobl hd)
theorem DqAll.snoc {H : Hp} {v : V} {d : PyData} (q : Dq H v d) : ∀ {vs : List V} {ds : List PyData}, DqAll H vs ds → DqAll H (vs ++ [v]) (ds ++ [d])
  | _, _, .nil => .cons q .nil
  | _, _, .cons h t => .cons h (DqAll.snoc q t)
theorem DqAll.append {H : Hp} {ws : List V} {es : List PyData} (q : DqAll H ws es) : ∀ {vs : List V} {ds : List PyData}, DqAll H vs ds → DqAll H (vs ++ ws) (ds ++ es)
  | _, _, .nil => q
  | _, _, .cons h t => .cons h (DqAll.append q t)
theorem DqAll.drop {H : Hp} : ∀ {vs : List V} {ds : List PyData} (n : Nat), DqAll H vs ds → DqAll H (vs.drop n) (ds.drop n)
  | _, _, 0, h => h
  | _, _, _ + 1, .nil => .nil
  | _, _, n + 1, .cons _ t => DqAll.drop n t
theorem DqAll.take {H : Hp} : ∀ {vs : List V} {ds : List PyData} (n : Nat), DqAll H vs ds → DqAll H (vs.take n) (ds.take n)
  | _, _, 0, _ => .nil
  | _, _, _ + 1, .nil => .nil
  | _, _, n + 1, .cons h t => .cons h (DqAll.take n t)
theorem Dq.ls {H : Hp} {v : V} {ds : List PyData} (h : Dq H v (.list ds)) : ∃ a vs, v = .ref a ∧ H a = some (.lst vs) ∧ ¬ Pl (.lst vs) ∧ DqAll H vs ds := by
  cases h with
  | lst h n r => exact ⟨_, _, rfl, h, n, r⟩
abbrev lsD (r : List Int) : PyData := .list (r.map .int)
abbrev tpD (c : List Int) : PyData := .tuple (c.map .int)
theorem sq_ls (rs : List (List Int)) : ∀ d ∈ rs.map lsD, isSq d := fun d hd => by
  obtain ⟨r, _, e⟩ := List.mem_map.mp hd
  subst e; trivial
theorem sq_tp (rs : List (List Int)) : ∀ d ∈ rs.map tpD, isSq d := fun d hd => by
  obtain ⟨r, _, e⟩ := List.mem_map.mp hd
  subst e; trivial
theorem map_at {α : Type} {f : α → PyData} {l : List α} {i : Nat} {d : PyData} (h : (l.map f)[i]? = some d) : ∃ a, l[i]? = some a ∧ d = f a := by
  rw [List.getElem?_map] at h
  cases e : l[i]? with
  | none => rw [e] at h; cases h
  | some a => rw [e] at h; exact ⟨a, rfl, (Option.some.inj h).symm⟩
theorem DqAll.rev {H : Hp} : ∀ {vs : List V} {ds : List PyData}, DqAll H vs ds → DqAll H vs.reverse ds.reverse
  | _, _, .nil => .nil
  | _, _, .cons h t => by rw [List.reverse_cons, List.reverse_cons]; exact DqAll.append (.cons h .nil) (DqAll.rev t)
theorem DqAll.el {H : Hp} {vs : List V} {ds : List PyData} {i : Nat} {d : PyData} (h : DqAll H vs ds) (e : ds[i]? = some d) : ∃ v, vs[i]? = some v ∧ Dq H v d := by
  have hi : i < vs.length := by rw [h.len]; exact (List.getElem?_eq_some_iff.mp e).1
  obtain ⟨d', e', q⟩ := h.get (List.getElem?_eq_getElem hi)
  rw [e] at e'
  cases e'
  exact ⟨_, List.getElem?_eq_getElem hi, q⟩
/-- a list of its own at a, all under it beside it -/
def Own (H : Hp) (a : Addr) (ds : List PyData) : Prop := ∃ vs, H a = some (.lst vs) ∧ DqAll (del H a) vs ds
theorem Own.ext {H H' : Hp} {a : Addr} {ds : List PyData} (o : Own H a ds) (hd : ∀ d ∈ ds, isSq d) (e : Ext H H') : Own H' a ds := by
  obtain ⟨vs, h, r⟩ := o
  exact ⟨vs, e.get h (r.npl hd), r.ext (Ext.del e)⟩
theorem Own.nil {H : Hp} {p : Addr} : Own (upd H p (.lst [])) p [] := ⟨[], upd_same, .nil⟩
theorem Own.push {H : Hp} {a : Addr} {vs : List V} {ds : List PyData} {v : V} {d : PyData} (r : DqAll (del H a) vs ds) (q : Dq (del H a) v d) : Own (upd H a (.lst (vs ++ [v]))) a (ds ++ [d]) := ⟨_, upd_same, by rw [del_upd]; exact r.snoc q⟩
theorem Own.dq {H : Hp} {a : Addr} {ds : List PyData} (o : Own H a ds) (hd : ∀ d ∈ ds, isSq d) : Dq H (.ref a) (.list ds) := by
  obtain ⟨vs, h, r⟩ := o
  exact .lst h (r.npl hd) (r.ext del_sub)
theorem small_len {vs : List V} {n : Nat} (h : vs.length = n) (l : n ≤ 1000) : vs.length < sizeLine := small1000 (by omega)
end Kf

end
section
set_option Elab.async false
set_option linter.all false
set_option maxRecDepth 100000
set_option maxHeartbeats 4000000
local macro_rules | `(tactic| walk_at "npl") => `(tactic| first | exact Kf.npl rfl | exact Kf.npl_ints _ | exact Kf.npl_one _ _ | exact Kf.npl_refs _ | assumption)
local macro_rules | `(tactic| walk_at "nn") => `(tactic| first
  | assumption
  | (refine' Kf.Ext.non ?nne ?nnh; (case nne => assumption); (case nnh => walk_at "nn")))
local macro_rules | `(tactic| walk_at "ext") => `(tactic| first
  | assumption
  | exact Kf.Ext.refl
  | (refine' Kf.Ext.newer ?exa ?exn; (case exn => assumption); (case exa => walk_at "ext"))
  | (refine' Kf.Ext.own ?exa ?exn; (case exn => walk_at "nn"); (case exa => walk_at "ext"))
  | (refine' Kf.Ext.trans ?exa ?exb; (case exb => assumption); (case exa => walk_at "ext")))
local macro_rules | `(tactic| walk_at "pool") => `(tactic| first
  | assumption
  | (refine' Kf.PoolAt.ext ?plh ?ple; (case plh => assumption); (case ple => walk_at "ext"))
  | (refine' Kf.PoolAt.upd ?plh ?plo ?pln; (case plo => assumption); (case pln => walk_at "npl"); (case plh => walk_at "pool")))
local macro_rules | `(tactic| walk_at "lk") => `(tactic| first
  | assumption
  | exact L2.upd_same
  | (refine' Kf.upd_old ?lkn ?lkh; (case lkn => assumption); (case lkh => walk_at "lk"))
  | (refine' Kf.upd_oth ?lkn ?lkh; (case lkn => (first | assumption | (apply Ne.symm; assumption))); (case lkh => walk_at "lk"))
  | (refine' Kf.Ext.get ?lke ?lkh ?lkn; (case lke => assumption); (case lkh => walk_at "lk"); (case lkn => walk_at "npl"))
  | (refine' L2.Same.at ?lke ?lkh; (case lke => assumption); (case lkh => walk_at "lk")))
local macro_rules | `(tactic| walk_at "sq") => `(tactic| first
  | assumption
  | (refine' L2.SqL.of ?sqh; (case sqh => walk_at "lk"))
  | (refine' L2.SqT.of ?sqh; (case sqh => walk_at "lk"))
  | (refine' Kf.Ext.seqL ?sqe ?sqh ?sqn; (case sqh => assumption); (case sqe => walk_at "ext"); (case sqn => walk_at "npl"))
  | (refine' Kf.Ext.seqT ?sqe ?sqh; (case sqh => assumption); (case sqe => walk_at "ext")))
local macro_rules | `(tactic| walk_at "at") => `(tactic| first | exact L2.atI_nat (j := 0) rfl | exact L2.atI_nat (j := 1) rfl | exact L2.atI_nat (j := 2) rfl | exact L2.atI_nat (j := 3) rfl | exact L2.atI_nat (j := 4) rfl | assumption)
local macro_rules | `(tactic| walk_at "ixn") => `(tactic| first | exact Kf.ixN_nat (j := 0) rfl | exact Kf.ixN_nat (j := 1) rfl | exact Kf.ixN_nat (j := 2) rfl | exact Kf.ixN_nat (j := 3) rfl | assumption)
local macro_rules | `(tactic| walk_at "set") => `(tactic| (first | (simp only [List.set_cons_succ, List.set_cons_zero]; rfl) | rfl))
local macro_rules | `(tactic| walk_at "om") => `(tactic| first | decide | omega | (simp only [List.length_map, List.length_cons, List.length_nil] at *; omega))
local macro_rules | `(tactic| walk_at "calls") => `(tactic| first
  | (with_reducible refine' Kf.call_take ?clp ?cla ?clb ?clq; (case clp => walk_at "pool"); (case cla => walk_at "om"); (case clb => walk_at "om"); intro r H' hE h0 h1)
  | (with_reducible refine' Kf.call_pool ?cls ?cla ?clq; (case cls => walk_at "sq"); (case cla => walk_at "om"); intro p H' hE hN hP)
  | (with_reducible refine' Kf.call_turn ?cls ?clp ?cla ?clq; (case cls => walk_at "sq"); (case clp => walk_at "pool"); (case cla => walk_at "om"); intro u H' hE hP))
local macro_rules | `(tactic| walk_at "side") => `(tactic| first
  | exact Kf.cmul_fmod (by decide) (by decide)
  | exact rfl
  | decide
  | omega
  | assumption
  | (refine ⟨?_, ?_⟩ <;> decide)
  | (refine ⟨?_, ?_, ?_⟩ <;> decide)
  | (refine ⟨?_, ?_⟩ <;> omega)
  | (refine Or.inl ⟨?_, ?_⟩ <;> decide)
  | (refine Or.inr ⟨?_, ?_⟩ <;> decide)
  | (refine Or.inl ⟨?_, ?_⟩ <;> omega)
  | (refine Or.inr ⟨?_, ?_⟩ <;> omega))
local macro_rules | `(tactic| walk_at "kit") => `(tactic| first | exact Kf.isi_int_int | exact Kf.isi_int_bool | exact Kf.isi_int_str | exact Kf.isi_int_list | exact Kf.isi_int_tuple | exact Kf.isi_bool_int | exact Kf.isi_bool_bool | exact Kf.isi_bool_str | exact Kf.isi_bool_list | exact Kf.isi_bool_tuple | exact Kf.isi_str_int | exact Kf.isi_str_bool | exact Kf.isi_str_str | exact Kf.isi_str_list | exact Kf.isi_str_tuple | exact Kf.isi_non_list | exact Kf.isi_non_tuple | exact Kf.isi_list_list | exact Kf.isi_list_tuple | exact Kf.isi_tuple_list | exact Kf.isi_tuple_tuple | exact Kf.isi_dict_dict)
local macro_rules | `(tactic| walk_at "ty") => `(tactic| first
  | exact L2.TyX.base (L2.TyOf.int _)
  | exact L2.TyX.base (L2.TyOf.bl _)
  | exact L2.TyX.base (L2.TyOf.str _)
  | exact L2.TyX.base L2.TyOf.non
  | (refine' L2.TyX.base (L2.TyOf.lst ?tyh); (case tyh => walk_at "lk"))
  | (refine' L2.TyX.base (L2.TyOf.tup ?tyh); (case tyh => walk_at "lk"))
  | (refine' L2.TyX.base (L2.TyOf.dK ?tyh); (case tyh => walk_at "lk")))
local macro_rules | `(tactic| walk_at "om2") => `(tactic| first | assumption | decide | omega)
local macro_rules | `(tactic| walk_at "st") => `(tactic| with_reducible first
  | (refine Kf.w_var rfl ?_)
  | (refine Kf.w_c ?_)
  | (refine Kf.w_seq ?_)
  | (refine Kf.w_asg ?_)
  | (refine' Kf.w_gname ?sth ?_; (case sth => with_unfolding_all walk_at "set"))
  | (refine Kf.w_op ?_)
  | (refine Kf.w_un ?_)
  | (refine Kf.w_rU ?_)
  | (refine Kf.w_rI0 ?_)
  | (refine' Kf.w_rI ?sth ?_; (case sth => with_unfolding_all walk_at "side"))
  | (refine' Kf.w_rEq ?sth ?_; (case sth => with_unfolding_all rfl))
  | (refine' Kf.w_rNe ?sth ?_; (case sth => with_unfolding_all rfl))
  | (refine Kf.w_tTest ?_)
  | (refine Kf.w_tB ?_)
  | (refine Kf.w_exbl ?_)
  | (refine Kf.w_exint ?_)
  | (refine Kf.w_ifS ?_)
  | (refine Kf.w_ret ?_)
  | (refine Kf.w_retN ?_)
  | (refine Kf.w_drop ?_)
  | (refine Kf.w_and ?_)
  | (refine Kf.w_or ?_)
  | (refine Kf.w_not ?_)
  | (refine Kf.w_andV ?_)
  | (refine Kf.w_orV ?_)
  | (refine Kf.w_notV ?_)
  | (refine Kf.w_if ?_)
  | (refine Kf.w_lc ?_)
  | (refine Kf.w_for ?_)
  | (refine Kf.w_rng1 ?_)
  | (refine' Kf.w_rng1x ?sth ?stg ?_; (case sth => with_unfolding_all walk_at "om"); (case stg => with_unfolding_all walk_at "om"))
  | (refine Kf.w_ilist ?_)
  | (refine Kf.w_iseq ?_)
  | (refine Kf.w_itup ?_)
  | (refine' Kf.w_ilistx ?sth ?_; (case sth => with_unfolding_all walk_at "sq"))
  | (refine' Kf.w_itupx ?sth ?_; (case sth => with_unfolding_all walk_at "sq"))
  | (refine' Kf.w_wipe ?sth ?_; (case sth => with_unfolding_all rfl))
  | (refine Kf.w_yes ?_)
  | (refine' Kf.w_isi ?sth ?stg ?_; (case sth => with_unfolding_all walk_at "ty"); (case stg => walk_at "kit"))
  | (refine Kf.w_isN ?_)
  | (refine Kf.w_notN ?_)
  | (refine Kf.w_cb ?_)
  | (refine Kf.w_nil ?_)
  | (refine Kf.w_cons ?_)
  | (refine Kf.w_tup ?_)
  | (refine Kf.w_lst ?_)
  | (refine' Kf.w_lines ?sth ?_; (case sth => with_unfolding_all rfl))
  | (refine Kf.w_call ?_)
  | (refine Kf.w_next ?_)
  | (refine Kf.w_break ?_)
  | (refine Kf.w_cont ?_)
  | (refine Kf.w_dnewK ?_)
  | (refine Kf.w_fld ?_)
  | (refine' Kf.w_fldx ?sth ?stg ?stf ?ste ?_; (case sth => with_unfolding_all walk_at "lk"); (case stg => assumption); (case stf => assumption); (case ste => with_unfolding_all exact rfl))
  | (refine Kf.w_sfld ?_)
  | (refine' Kf.w_sfldx ?sth ?stg ?stf ?ste ?_; (case sth => with_unfolding_all walk_at "lk"); (case stg => assumption); (case stf => assumption); (case ste => with_unfolding_all exact rfl))
  | (refine Kf.w_meth ?_)
  | (refine' Kf.w_methx ?sth ?stg ?_; (case sth => with_unfolding_all walk_at "lk"); (case stg => with_unfolding_all exact rfl))
  | (refine Kf.w_ddel ?_)
  | (refine Kf.w_disp ?_)
  | (refine Kf.w_pcons ?_)
  | (refine Kf.w_pnil ?_)
  | (refine Kf.w_make ?_)
  | (refine Kf.w_sfldaug ?_)
  | (refine' Kf.w_sfldaugx ?sth ?stg ?stf ?ste ?_; (case sth => with_unfolding_all walk_at "lk"); (case stg => assumption); (case stf => assumption); (case ste => with_unfolding_all exact rfl))
  | (refine Kf.w_inadd ?_)
  | (refine Kf.w_dnotin ?_)
  | (refine Kf.w_dget1 ?_)
  | (refine' Kf.w_dgetS ?sth ?stg ?_; (case sth => with_unfolding_all walk_at "lk"); (case stg => with_unfolding_all exact rfl))
  | (refine Kf.w_ikeys ?_)
  | (refine Kf.w_dput ?_)
  | (refine Kf.w_dget2 ?_)
  | (refine Kf.w_dget ?_)
  | (refine Kf.w_sl ?_)
  | (refine Kf.w_nopart ?_)
  | (refine Kf.w_part ?_)
  | (refine Kf.w_bm ?_)
  | (refine Kf.w_bm0 ?_)
  | (refine' Kf.w_bmL ?sth ?_; (case sth => with_unfolding_all walk_at "lk"))
  | (refine' Kf.w_cat ?sth ?stg ?stf ?_; (case sth => with_unfolding_all walk_at "lk"); (case stg => with_unfolding_all walk_at "lk"); (case stf => with_unfolding_all walk_at "om"))
  | (refine' Kf.w_slL ?sth ?_; (case sth => with_unfolding_all walk_at "sq"))
  | (refine' Kf.w_inL ?sth ?_; (case sth => with_unfolding_all walk_at "sq"))
  | (refine' Kf.w_inT ?sth ?_; (case sth => with_unfolding_all walk_at "sq"))
  | (refine' Kf.w_ninL ?sth ?_; (case sth => with_unfolding_all walk_at "sq"))
  | (refine' Kf.w_ninT ?sth ?_; (case sth => with_unfolding_all walk_at "sq"))
  | (refine' Kf.w_listof ?sth ?_; (case sth => with_unfolding_all walk_at "sq"))
  | (refine' Kf.w_tupof ?sth ?_; (case sth => with_unfolding_all walk_at "sq"))
  | (refine Kf.w_listRev ?_)
  | (refine Kf.w_gsub ?_)
  | (refine' Kf.w_ixL ?sth ?stg ?_; (case sth => with_unfolding_all walk_at "sq"); (case stg => with_unfolding_all walk_at "at"))
  | (refine' Kf.w_ixT ?sth ?stg ?_; (case sth => with_unfolding_all walk_at "sq"); (case stg => with_unfolding_all walk_at "at"))
  | (refine' Kf.w_setL ?sth ?stg ?_; (case sth => with_unfolding_all walk_at "lk"); (case stg => with_unfolding_all walk_at "ixn"))
  | (refine' Kf.w_len ?sth ?_; (case sth => with_unfolding_all walk_at "sq"))
  | (refine' Kf.w_lenT ?sth ?_; (case sth => with_unfolding_all walk_at "sq"))
  | (refine Kf.w_int1 ?_)
  | (refine Kf.w_intb ?_)
  | (refine Kf.w_abs ?_)
  | (refine Kf.w_aug rfl ?_)
  | (refine Kf.w_par ?_)
  | (refine' Kf.w_gtup ?sth ?stg ?_; (case sth => with_unfolding_all walk_at "sq"); (case stg => with_unfolding_all exact rfl))
  | (refine' Kf.w_glst ?sth ?stg ?_; (case sth => with_unfolding_all walk_at "sq"); (case stg => with_unfolding_all exact rfl))
  | (refine Kf.w_rng2 ?_)
  | (refine Kf.w_rng3 ?_)
  | (refine' Kf.w_rng2x ?sth ?stg ?stf ?ste ?_; (case sth => with_unfolding_all walk_at "om"); (case stg => with_unfolding_all walk_at "om"); (case stf => with_unfolding_all walk_at "om"); (case ste => with_unfolding_all walk_at "om"))
  | (refine Kf.w_gcons ?_)
  | (refine Kf.w_gnil ?_)
  | (refine Kf.w_gcd ?_)
  | (refine Kf.w_bits ?_)
  | (refine Kf.w_two ?_)
  | (refine Kf.w_ipI ?_)
  | (refine L2.iteT ?_)
  | (refine L2.iteF ?_)
  | (refine Kf.iteNT ?_)
  | (refine Kf.iteNF ?_)
  | (refine' Kf.ite_decT ?sth ?_; (case sth => exact rfl))
  | (refine' Kf.ite_decF ?sth ?_; (case sth => with_unfolding_all (intro e; cases e; done)))
  | (refine' Kf.ite_ndecF ?sth ?_; (case sth => exact rfl))
  | (refine' Kf.ite_ndecT ?sth ?_; (case sth => with_unfolding_all (intro e; cases e; done)))
  | (refine' Kf.ite_viT ?sth ?_; (case sth => (with_unfolding_all walk_at "om2")))
  | (refine' Kf.ite_viF ?sth ?_; (case sth => (with_unfolding_all walk_at "om2")))
  | (refine' Kf.ite_nviT ?sth ?_; (case sth => (with_unfolding_all walk_at "om2")))
  | (refine' Kf.ite_nviF ?sth ?_; (case sth => (with_unfolding_all walk_at "om2")))
  | (refine' Kf.ite_decT ?sth ?_; (case sth => (with_unfolding_all walk_at "om2")))
  | (refine' Kf.ite_decF ?sth ?_; (case sth => (with_unfolding_all walk_at "om2")))
  | with_unfolding_all walk_at "calls")
local macro_rules | `(tactic| walk_at "go") => `(tactic| repeat walk_at "st")

namespace Kf
open PySem PySem.Spec PyProof.Rows L2
abbrev s__law_mixed : Stmt := topS 11
abbrev N__law_mixed : List Str := ["pool", "row", "turn", "pairs", "k", "pair"]
abbrev P__law_mixed : List Str := ["pool", "row"]
theorem sc__law_mixed : FnScope N__law_mixed P__law_mixed (defScope s__law_mixed) := ⟨rfl, rfl, rfl, by decide +kernel, rfl, by decide +kernel, by decide +kernel⟩
section
variable {P : Program} {w : World} {K : PySem.W.Frag} {mg : Str → Option Value} {base : Heap} {H : Hp} {Q : VK} {E : XK}
/-! ### mixed -/
def PairsAt (H : Hp) (acc : List V) (i : Nat) : Prop := acc.length = i ∧ ∀ m, m < i → ∃ t j, acc[m]? = some (.ref t) ∧ H t = some (.tup [.int j, .int (m : Nat)])
theorem PairsAt.ext {H H' : Hp} {acc : List V} {i : Nat} (h : PairsAt H acc i) (e : Ext H H') : PairsAt H' acc i := ⟨h.1, fun m hm => by
  obtain ⟨t, j, h1, h2⟩ := h.2 m hm
  exact ⟨t, j, h1, e.get h2 (npl rfl)⟩⟩
theorem PairsAt.push {H : Hp} {acc : List V} {i : Nat} {t : Addr} {j : Int} (h : PairsAt H acc i) (ht : H t = some (.tup [.int j, .int (i : Nat)])) : PairsAt H (acc ++ [.ref t]) (i + 1) := ⟨by simp [h.1], fun m hm => by
  by_cases e : m < i
  · obtain ⟨t', j', h1, h2⟩ := h.2 m e
    exact ⟨t', j', by rw [List.getElem?_append_left (by rw [h.1]; exact e)]; exact h1, h2⟩
  · have e' : m = i := by omega
    subst e'
    exact ⟨t, j, by rw [List.getElem?_append_right (by rw [h.1]; exact Nat.le_refl _), h.1]; simp, ht⟩⟩
theorem PairsAt.nobl {H : Hp} {acc : List V} {i : Nat} (h : PairsAt H acc i) : ∀ x ∈ acc, ∀ b, x ≠ .bl b := fun x hx b e => by
  obtain ⟨m, hm⟩ := List.mem_iff_getElem?.mp hx
  have hl : m < i := by rw [← h.1]; exact (List.getElem?_eq_some_iff.mp hm).1
  obtain ⟨t, j, h1, _⟩ := h.2 m hl
  rw [h1] at hm
  cases hm
  cases e
theorem PairsAt.all {H : Hp} {acc : List V} {i : Nat} (h : PairsAt H acc i) : ∀ x ∈ acc, ∃ t j, ∃ m : Nat, m < i ∧ x = V.ref t ∧ H t = some (.tup [.int j, .int (m : Nat)]) := fun x hx => by
  obtain ⟨m, hm⟩ := List.mem_iff_getElem?.mp hx
  have hl : m < i := by rw [← h.1]; exact (List.getElem?_eq_some_iff.mp hm).1
  obtain ⟨t, j, h1, h2⟩ := h.2 m hl
  rw [h1] at hm
  cases hm
  exact ⟨t, j, m, hl, rfl, h2⟩
/-- the item that a pair names -/
def itemOf (H : Hp) (xs : List V) : V → V
  | .ref t => match H t with
    | some (.tup [_, .int m]) => xs.getD m.toNat .non
    | _ => .non
  | _ => .non
theorem itemOf_at {H : Hp} {xs : List V} {t : Addr} {j : V} {m : Nat} {x : V} (h : H t = some (.tup [j, .int (m : Nat)])) (hx : xs[m]? = some x) : itemOf H xs (.ref t) = x := by
  show (match H t with
    | some (.tup [_, .int m]) => xs.getD m.toNat .non
    | _ => .non) = x
  rw [h]
  show xs.getD ((m : Int)).toNat .non = x
  rw [Int.toNat_natCast, List.getD_eq_getElem?_getD, hx]
  rfl
theorem PairsAt.items {H : Hp} {acc xs : List V} (h : PairsAt H acc xs.length) : acc.map (itemOf H xs) = xs := by
  apply List.ext_getElem?
  intro m
  rw [List.getElem?_map]
  by_cases hm : m < xs.length
  · obtain ⟨t, j, h1, h2⟩ := h.2 m hm
    rw [h1, List.getElem?_eq_getElem hm]
    show some (itemOf H xs (.ref t)) = _
    rw [itemOf_at h2 (List.getElem?_eq_getElem hm)]
  · rw [List.getElem?_eq_none (by rw [h.1]; omega), List.getElem?_eq_none (by omega)]
    rfl
def spMixed (K : PySem.W.Frag) : Sp := fun vs H Q _ => ∃ (v : V) (a : Addr) (xs : List V), vs = [v, .ref a] ∧ PoolAt H v ∧ SqL K H a xs ∧ (∀ x ∈ xs, ∀ b, x ≠ .bl b) ∧ xs.length ≤ 500 ∧ ∀ ys p H', ys.Perm xs → Ext H H' → H p = none → H' p = some (.lst ys) → Q (.ref p) H'
theorem call_mixed {v : V} {a : Addr} {xs : List V} (hp : PoolAt H v) (hs : SqL K H a xs) (np : ∀ x ∈ xs, ∀ b, x ≠ .bl b) (n1 : xs.length ≤ 500) (q : ∀ ys p H', ys.Perm xs → Ext H H' → H p = none → H' p = some (.lst ys) → Q (.ref p) H') : spMixed K ([v, .ref a] ++ []) H Q E := ⟨v, a, xs, rfl, hp, hs, np, n1, q⟩
theorem ok_mixed (D : Df K mg "_law_mixed" s__law_mixed P__law_mixed) (b_len : mg "len" = none) (b_int : mg "int" = none) (b_range : mg "range" = none) (b_sorted : mg "sorted" = none) (p__law_take : Pr P w K mg base "_law_take" 1 P__law_take (spTake K)) :
    Pr P w K mg base "_law_mixed" 2 P__law_mixed (spMixed K) := by
  refine D.ok sc__law_mixed (fun vs H Q E h => ?_) (fun f cdv A outer s H vs Q E hr h => ?_)
  · obtain ⟨v, a, xs, rfl, _⟩ := h; rfl
  obtain ⟨v, a, xs, rfl, hP, hS, np, n1, q⟩ := h
  have nd := sc__law_mixed.nd
  have npx := npl_nobl np
  refine ⟨_, (pss_cons (ps_set (i := 2) nd rfl (Or.inr rfl) (pe_op op_add pe_int (pe_callP p__law_take hr (pa_cons (pv 0) (pa_cons pe_int pa_nil)))))
      (pss_cons (ps_set (i := 3) nd rfl (Or.inl rfl) (pe_callB (cr_sortedPK (K := K) rfl) (by rfl) b_sorted (by decide +kernel) (pa_cons (pe_lc (own := [("k", 4)]) rfl nd (pi_range1 (by rfl) b_range (pa_cons (pe_callB (call_lenK (K := K) rfl) (by rfl) b_len PySem.boot_len (pa_cons (pv 1) pa_nil)) pa_nil)) (blkOk_by (N := N__law_mixed) (sc := defScope s__law_mixed) (by decide +kernel)) (fun _ _ _ _ _ => pg_name (i := 4) nd rfl (Or.inl rfl)) (fun _ _ _ _ _ => pts_nil) (fun _ _ _ _ _ => (pe_tup (pa_cons (pe_op op_modN (pe_callTy call_int1 (by rfl) b_int (by decide +kernel) (pa_cons (pe_op op_mul (pe_op op_add (pv 4) pe_int) (pv 2)) pa_nil)) pe_int) (pa_cons (pv 4) pa_nil))))) pa_nil)))
      (pss_one (ps_ret (pe_lc (own := [("pair", 5)]) rfl nd (pi_listK (K := K) rfl (pv 3)) (blkOk_by (N := N__law_mixed) (sc := defScope s__law_mixed) (by decide +kernel)) (fun _ _ _ _ _ => pg_name (i := 5) nd rfl (Or.inl rfl)) (fun _ _ _ _ _ => pts_nil) (fun _ _ _ _ _ => (pe_ix (ix_listK (K := K) rfl) (pv 1) (pe_ix (ix_tupK (K := K) rfl) (pv 5) pe_int (fun _ _ => rfl)) (fun _ _ => rfl)))))))), ?_⟩
  refine w_start (σ := [some _, some _, none, none, none, none]) rfl ?_
  walk_at "go"
  rename_i r H1 hE h0 h1
  have hS1 := hE.seqL hS npx
  walk_at "go"
  refine lc_r (R := fun i acc Hd => PairsAt Hd acc i) ⟨rfl, fun m hm => absurd hm (by omega)⟩ (fun i acc Ha Hb e h => h.ext e) ?_ ?_
  · intro i acc D' H2 hi hD hacc hE2 hR
    have hl : acc.length ≤ 1000 := by rw [hR.1, Int.toNat_natCast] at *; omega
    walk_at "go"
    intro p hp
    refine LcP.put hD hacc (npl_nobl hR.nobl) hE2 (Ext.new hp) hl ?_
    have e : del (upd H2 p (.tup [.int (((0 + (i : Int) + 1) * (1 + r)).fmod 1009), .int (0 + (i : Int))])) D' p = some (.tup [.int (((0 + (i : Int) + 1) * (1 + r)).fmod 1009), .int (0 + (i : Int))]) := del_at upd_same (ne_of_none hacc hp).symm
    rw [Int.zero_add] at e
    rw [Int.zero_add]
    exact (hR.ext (Ext.del (Ext.new hp))).push e
  · intro D' acc H2 hD hacc hE2 hR
    rw [Int.toNat_natCast] at hR
    walk_at "go"
    refine ⟨D', acc, rfl, SqL.of hacc, fun x hx => ?_, fun ys p hperm hp => ?_⟩
    · obtain ⟨t, j, m, _, e1, e2⟩ := hR.all x hx
      exact ⟨t, j, m, e1, e2⟩
    walk_at "go"
    have hall : ∀ x ∈ ys, ∃ t j, ∃ m : Nat, m < xs.length ∧ x = V.ref t ∧ H2 t = some (.tup [.int j, .int (m : Nat)]) := fun x hx => hR.all x (hperm.mem_iff.mp hx)
    have nb : ∀ x ∈ ys, ∀ b, x ≠ V.bl b := fun x hx b e => by
      obtain ⟨t, j, m, _, e1, _⟩ := hall x hx
      rw [e1] at e; cases e
    have hS2 : SqL K H2 a xs := hE2.seqL hS1 npx
    refine lc_l (R := fun i acc Hd => acc = (ys.take i).map (itemOf H2 xs)) (SqL.of L2.upd_same) (npl_nobl nb) rfl (fun i acc Ha Hb e h => h) ?_ ?_
    · intro i x acc D2 H3 hx hD2 hacc2 hE3 hR3
      obtain ⟨t, j, m, hm, rfl, ht⟩ := hall x (List.mem_of_getElem? hx)
      have hil : i < ys.length := (List.getElem?_eq_some_iff.mp hx).1
      have hyl : ys.length = xs.length := by rw [hperm.length_eq, hR.1]
      have ht3 : H3 t = some (.tup [.int j, .int (m : Nat)]) := hE3.get (upd_old hp ht) (npl rfl)
      have hS3 : SqL K H3 a xs := ((Ext.new hp).trans hE3).seqL hS2 npx
      walk_at "go"
      refine w_ixL hS3 (atI_nat (j := m) (List.getElem?_eq_getElem hm)) ?_
      have hal : acc.length ≤ 1000 := by rw [hR3, List.length_map, List.length_take]; omega
      have hnb : ∀ y ∈ acc, ∀ b, y ≠ V.bl b := fun y hy b e => by
        rw [hR3] at hy
        obtain ⟨z, hz, ez⟩ := List.mem_map.mp hy
        obtain ⟨t', j', m', hm', e1, e2⟩ := hall z (List.mem_of_mem_take hz)
        rw [e1, itemOf_at e2 (List.getElem?_eq_getElem hm')] at ez
        exact np _ (List.getElem_mem hm') b (ez.trans e)
      refine LcP.put hD2 hacc2 (npl_nobl hnb) hE3 Ext.refl hal ?_
      rw [List.take_add_one, hx, List.map_append, ← hR3]
      show acc ++ [xs[m]] = acc ++ [itemOf H2 xs (.ref t)]
      rw [itemOf_at ht (List.getElem?_eq_getElem hm)]
    · intro D2 acc2 H3 hD2 hacc2 hE3 hR3
      rw [List.take_length] at hR3
      have hE4 : Ext H H3 := hE.trans (hE2.trans ((Ext.new hp).trans hE3))
      refine q acc2 D2 H3 ?_ hE4 (hE.non (hE2.non ((Ext.new hp).non hD2))) hacc2
      rw [hR3]
      have e := hperm.map (itemOf H2 xs)
      rw [hR.items] at e
      exact e
end
end Kf

end
section
set_option maxRecDepth 100000
namespace R8
abbrev RowsT := List (Int × Nat)
/-- how many literals stand below a level -/
def cnt (rows : RowsT) (l : Nat) : Nat := (rows.filter fun x => decide (x.2 < l)).length
/-- how many literals a level has -/
def dg (rows : RowsT) (l : Nat) : Nat := (rows.filter fun x => decide (x.2 = l)).length
theorem cnt_zero (rows : RowsT) : cnt rows 0 = 0 := by
  unfold cnt
  rw [List.filter_eq_nil_iff.mpr (by simp)]; rfl
theorem cnt_cons (x : Int × Nat) (rows : RowsT) (l : Nat) : cnt (x :: rows) l = (if x.2 < l then 1 else 0) + cnt rows l := by
  unfold cnt
  rw [List.filter_cons]
  by_cases h : x.2 < l
  · rw [if_pos (decide_eq_true h), if_pos h, List.length_cons]; omega
  · rw [if_neg (by simpa using h), if_neg h]; omega
theorem dg_cons (x : Int × Nat) (rows : RowsT) (l : Nat) : dg (x :: rows) l = (if x.2 = l then 1 else 0) + dg rows l := by
  unfold dg
  rw [List.filter_cons]
  by_cases h : x.2 = l
  · rw [if_pos (decide_eq_true h), if_pos h, List.length_cons]; omega
  · rw [if_neg (by simpa using h), if_neg h]; omega
theorem cnt_succ : ∀ (rows : RowsT) (l : Nat), cnt rows (l + 1) = cnt rows l + dg rows l
  | [], _ => rfl
  | x :: rows, l => by
    rw [cnt_cons, cnt_cons, dg_cons, cnt_succ rows l]
    by_cases h : x.2 < l
    · rw [if_pos h, if_pos (by omega), if_neg (by omega)]; omega
    · by_cases h2 : x.2 = l
      · rw [if_neg h, if_pos (by omega), if_pos h2]; omega
      · rw [if_neg h, if_neg (by omega), if_neg h2]; omega
theorem cnt_le (rows : RowsT) (l : Nat) : cnt rows l ≤ rows.length := List.length_filter_le _ _
theorem dg_le (rows : RowsT) (l : Nat) : dg rows l ≤ rows.length := List.length_filter_le _ _
theorem cnt_all {rows : RowsT} {l : Nat} (h : ∀ x ∈ rows, x.2 < l) : cnt rows l = rows.length := by
  unfold cnt
  rw [List.filter_eq_self.mpr fun x hx => decide_eq_true (h x hx)]
theorem dg_none {rows : RowsT} {l : Nat} (h : ∀ x ∈ rows, x.2 ≠ l) : dg rows l = 0 := by
  unfold dg
  rw [List.filter_eq_nil_iff.mpr fun x hx => by simpa using h x hx]; rfl
theorem dg_pos {rows : RowsT} {l : Nat} {x : Int × Nat} (h : x ∈ rows) (e : x.2 = l) : 1 ≤ dg rows l := by
  unfold dg
  exact List.length_pos_iff.mpr fun z => by
    have : x ∈ rows.filter fun x => decide (x.2 = l) := List.mem_filter.mpr ⟨h, decide_eq_true e⟩
    rw [z] at this; cases this
theorem cnt_snoc (rows : RowsT) (x : Int × Nat) (l : Nat) : cnt (rows ++ [x]) l = cnt rows l + (if x.2 < l then 1 else 0) := by
  unfold cnt
  rw [List.filter_append, List.length_append, List.filter_cons]
  by_cases h : x.2 < l
  · rw [if_pos (decide_eq_true h), if_pos h]; rfl
  · rw [if_neg (by simpa using h), if_neg h]; rfl
theorem dg_snoc (rows : RowsT) (x : Int × Nat) (l : Nat) : dg (rows ++ [x]) l = dg rows l + (if x.2 = l then 1 else 0) := by
  unfold dg
  rw [List.filter_append, List.length_append, List.filter_cons]
  by_cases h : x.2 = l
  · rw [if_pos (decide_eq_true h), if_pos h]; rfl
  · rw [if_neg (by simpa using h), if_neg h]; rfl
/-- the literals up to a level -/
def upTo (rows : RowsT) (l : Nat) : RowsT := rows.filter fun x => decide (x.2 ≤ l)
theorem dg_upTo (rows : RowsT) (l k : Nat) : dg (upTo rows l) k = if k ≤ l then dg rows k else 0 := by
  by_cases h : k ≤ l
  · rw [if_pos h]
    unfold dg upTo
    rw [List.filter_filter]
    congr 2
    funext x
    by_cases e : x.2 = k
    · simp [e, h]
    · simp [e]
  · rw [if_neg h]
    refine dg_none fun x hx e => ?_
    have := (List.mem_filter.mp hx).2
    have := of_decide_eq_true this
    omega
theorem cnt_upTo (rows : RowsT) (l k : Nat) (h : k ≤ l + 1) : cnt (upTo rows l) k = cnt rows k := by
  unfold cnt upTo
  rw [List.filter_filter]
  congr 2
  funext x
  by_cases e : x.2 < k
  · simp [e]; omega
  · simp [e]
theorem take_upTo : ∀ {rows : RowsT} {l : Nat}, rows.Pairwise (fun a b => a.2 ≤ b.2) → rows.take (cnt rows (l + 1)) = upTo rows l
  | [], _, _ => rfl
  | x :: rows, l, h => by
    have h2 := List.pairwise_cons.mp h
    rw [cnt_cons]
    unfold upTo
    rw [List.filter_cons]
    by_cases e : x.2 < l + 1
    · rw [if_pos e, if_pos (decide_eq_true (by omega)), Nat.add_comm, List.take_succ_cons, take_upTo h2.2]; rfl
    · rw [if_neg e, if_neg (by simp; omega)]
      have z : cnt rows (l + 1) = 0 := by
        unfold cnt
        rw [List.filter_eq_nil_iff.mpr fun y hy => by have := h2.1 y hy; simp; omega]; rfl
      rw [z]
      exact (List.filter_eq_nil_iff.mpr fun y hy => by have := h2.1 y hy; simp; omega).symm
/-- literals in levels over the nodes -/
structure ROk (ns : List Int) (rows : RowsT) (dep : Nat) : Prop where
  mem : ∀ x ∈ rows, ((x.1.natAbs : Nat) : Int) ∈ ns
  nd : (rows.map fun x => x.1.natAbs).Nodup
  srt : rows.Pairwise fun a b => a.2 ≤ b.2
  le : ∀ x ∈ rows, x.2 ≤ dep
  ne : ∀ l, 1 ≤ l → l ≤ dep → ∃ x ∈ rows, x.2 = l
theorem ROk.nil {ns : List Int} : ROk ns [] 0 := ⟨by simp, by simp, .nil, by simp, fun l h1 h2 => by omega⟩
theorem ROk.cnt_ge {ns : List Int} {rows : RowsT} {dep : Nat} (h : ROk ns rows dep) : ∀ l, l ≤ dep → l ≤ cnt rows (l + 1)
  | 0, _ => Nat.zero_le _
  | l + 1, hl => by
    have ih := h.cnt_ge l (by omega)
    obtain ⟨x, hx, e⟩ := h.ne (l + 1) (by omega) hl
    have := dg_pos hx e
    rw [cnt_succ]; omega
theorem ROk.dep_le {ns : List Int} {rows : RowsT} {dep : Nat} (h : ROk ns rows dep) : dep ≤ rows.length := Nat.le_trans (h.cnt_ge dep (Nat.le_refl _)) (cnt_le _ _)
theorem len_le : ∀ {a b : List Int}, a.Nodup → (∀ x ∈ a, x ∈ b) → a.length ≤ b.length
  | [], _, _, _ => Nat.zero_le _
  | x :: a, b, h, hs => by
    have h2 := List.nodup_cons.mp h
    have hx := hs x (by simp)
    have ih := len_le (a := a) (b := b.erase x) h2.2 fun y hy => (List.mem_erase_of_ne (fun e => h2.1 (by rw [← e]; exact hy))).mpr (hs y (by simp [hy]))
    rw [List.length_erase_of_mem hx] at ih
    have : 0 < b.length := List.length_pos_of_mem hx
    rw [List.length_cons]; omega
theorem abs_nd {rows : RowsT} (h : (rows.map fun x => x.1.natAbs).Nodup) : (rows.map fun x => ((x.1.natAbs : Nat) : Int)).Nodup := by
  have e : (rows.map fun x => ((x.1.natAbs : Nat) : Int)) = (rows.map fun x => x.1.natAbs).map (fun n : Nat => (n : Int)) := by rw [List.map_map]; rfl
  rw [e]
  refine List.pairwise_map.mpr (List.Pairwise.imp ?_ h)
  intro a b hab z
  exact hab (Int.ofNat.inj z)
theorem ROk.len {ns : List Int} {rows : RowsT} {dep : Nat} (h : ROk ns rows dep) : rows.length ≤ ns.length := by
  have := len_le (abs_nd h.nd) fun x hx => by
    obtain ⟨y, hy, e⟩ := List.mem_map.mp hx
    rw [← e]; exact h.mem y hy
  rwa [List.length_map] at this
theorem ROk.len_lt {ns : List Int} {rows : RowsT} {dep : Nat} {n : Int} (h : ROk ns rows dep) (hn : n ∈ ns) (hf : n ∉ rows.map fun x => ((x.1.natAbs : Nat) : Int)) : rows.length < ns.length := by
  have := len_le (a := n :: rows.map fun x => ((x.1.natAbs : Nat) : Int)) (b := ns) (List.nodup_cons.mpr ⟨hf, abs_nd h.nd⟩) fun x hx => by
    rcases List.mem_cons.mp hx with z | z
    · rw [z]; exact hn
    · obtain ⟨y, hy, e⟩ := List.mem_map.mp z
      rw [← e]; exact h.mem y hy
  rw [List.length_cons, List.length_map] at this
  omega
theorem ROk.push {ns : List Int} {rows : RowsT} {dep : Nat} {lit : Int} (h : ROk ns rows dep) (hn : ((lit.natAbs : Nat) : Int) ∈ ns) (hf : ((lit.natAbs : Nat) : Int) ∉ rows.map fun x => ((x.1.natAbs : Nat) : Int)) (d : Nat) (hd : d = dep ∨ d = dep + 1) : ROk ns (rows ++ [(lit, d)]) d := by
  refine ⟨fun x hx => ?_, ?_, ?_, fun x hx => ?_, fun l h1 h2 => ?_⟩
  · rcases List.mem_append.mp hx with z | z
    · exact h.mem x z
    · rw [List.mem_singleton] at z; subst z; exact hn
  · rw [List.map_append]
    refine List.nodup_append.mpr ⟨h.nd, by simp, fun a ha b hb e => ?_⟩
    rw [List.map_singleton, List.mem_singleton] at hb
    subst hb e
    obtain ⟨y, hy, q⟩ := List.mem_map.mp ha
    exact hf (List.mem_map.mpr ⟨y, hy, by dsimp only at q ⊢; rw [q]⟩)
  · refine List.pairwise_append.mpr ⟨h.srt, by simp, fun a ha b hb => ?_⟩
    rw [List.mem_singleton] at hb; subst hb
    have := h.le a ha
    dsimp only; omega
  · rcases List.mem_append.mp hx with z | z
    · have := h.le x z; omega
    · rw [List.mem_singleton] at z; subst z; exact Nat.le_refl _
  · by_cases e : l = d
    · exact ⟨(lit, d), by simp, e.symm⟩
    · obtain ⟨x, hx, q⟩ := h.ne l h1 (by omega)
      exact ⟨x, by simp [hx], q⟩
theorem ROk.upTo {ns : List Int} {rows : RowsT} {dep l : Nat} (h : ROk ns rows dep) (hl : l ≤ dep) : ROk ns (upTo rows l) l :=
  ⟨fun x hx => h.mem x (List.mem_filter.mp hx).1, h.nd.sublist (List.Sublist.map _ List.filter_sublist), h.srt.sublist List.filter_sublist, fun x hx => of_decide_eq_true (List.mem_filter.mp hx).2,
   fun k h1 h2 => by
    obtain ⟨x, hx, e⟩ := h.ne k h1 (by omega)
    exact ⟨x, List.mem_filter.mpr ⟨hx, decide_eq_true (by omega)⟩, e⟩⟩
/-- the number of the digits -/
def N (d : Nat → Nat) (b : Nat) : Nat → Nat
  | 0 => 0
  | k + 1 => N d b k * b + d k
theorem N_lt {d : Nat → Nat} {b : Nat} (h : ∀ k, d k < b) : ∀ w, N d b w < b ^ w
  | 0 => by simp [N]
  | w + 1 => by
    have ih := N_lt h w
    have := h w
    show N d b w * b + d w < b ^ (w + 1)
    rw [Nat.pow_succ]
    have : (N d b w + 1) * b ≤ b ^ w * b := Nat.mul_le_mul_right b ih
    rw [Nat.add_mul] at this
    omega
theorem N_eq {d e : Nat → Nat} {b : Nat} : ∀ w, (∀ k, k < w → d k = e k) → N d b w = N e b w
  | 0, _ => rfl
  | w + 1, h => by
    show N d b w * b + d w = N e b w * b + e w
    rw [N_eq w fun k hk => h k (by omega), h w (by omega)]
theorem lt_of {d e : Nat → Nat} {b j : Nat} (h : ∀ k, k < j → d k = e k) (hj : e j < d j) (he : ∀ k, e k < b) : ∀ w, j < w → N e b w < N d b w
  | 0, hw => by omega
  | w + 1, hw => by
    show N e b w * b + e w < N d b w * b + d w
    by_cases z : j = w
    · subst z
      rw [N_eq j h]; omega
    · have ih := lt_of h hj he w (by omega)
      have := he w
      have : (N e b w + 1) * b ≤ N d b w * b := Nat.mul_le_mul_right b ih
      rw [Nat.add_mul] at this
      omega
theorem le_of {d e : Nat → Nat} {b j : Nat} (h : ∀ k, k < j → d k = e k) (hj : e j ≤ d j) (he : ∀ k, j < k → e k = 0) : ∀ w, N e b w ≤ N d b w
  | 0 => Nat.le_refl _
  | w + 1 => by
    show N e b w * b + e w ≤ N d b w * b + d w
    have ih := le_of (b := b) h hj he w
    have : N e b w * b ≤ N d b w * b := Nat.mul_le_mul_right b ih
    by_cases z : w < j
    · have := h w z; omega
    · by_cases z2 : w = j
      · subst z2; omega
      · have := he w (by omega); omega
/-- the number of the trail -/
def num (rows : RowsT) (n : Nat) : Nat := N (dg rows) (n + 1) (n + 1)
theorem num_lt {rows : RowsT} {n : Nat} (h : rows.length ≤ n) : num rows n < (n + 1) ^ (n + 1) := N_lt (fun k => by have := dg_le rows k; omega) _
theorem num_push {rows : RowsT} {n : Nat} {x : Int × Nat} (h : rows.length ≤ n) (hx : x.2 ≤ n) : num rows n < num (rows ++ [x]) n := by
  refine lt_of (j := x.2) (fun k hk => ?_) ?_ (fun k => by have := dg_le rows k; omega) _ (by omega)
  · rw [dg_snoc, if_neg (by omega)]; rfl
  · rw [dg_snoc, if_pos rfl]; omega
theorem num_back {ns : List Int} {rows : RowsT} {n dep l : Nat} (h : ROk ns rows dep) (hl : rows.length ≤ n) (hd : l < dep) : num (upTo rows l) n < num rows n := by
  obtain ⟨x, hx, e⟩ := h.ne (l + 1) (by omega) hd
  have p := dg_pos hx e
  have hdl := h.dep_le
  refine lt_of (j := l + 1) (fun k hk => ?_) ?_ (fun k => ?_) _ (by omega)
  · rw [dg_upTo, if_pos (by omega)]
  · rw [dg_upTo, if_neg (by omega)]; omega
  · rw [dg_upTo]; have := dg_le rows k; split <;> omega
theorem num_back_force {ns : List Int} {rows : RowsT} {n dep l : Nat} {lit : Int} (h : ROk ns rows dep) (hl : rows.length ≤ n) (hd : l < dep) : num rows n < num (upTo rows l ++ [(lit, l)]) n := by
  have hdl := h.dep_le
  refine lt_of (j := l) (fun k hk => ?_) ?_ (fun k => by have := dg_le rows k; omega) _ (by omega)
  · rw [dg_snoc, dg_upTo, if_pos (by omega), if_neg (by dsimp only; omega)]; rfl
  · rw [dg_snoc, dg_upTo, if_pos (by omega), if_pos rfl]; omega
theorem num_back_choose {ns : List Int} {rows : RowsT} {n dep l : Nat} {lit : Int} (h : ROk ns rows dep) (hd : l < dep) : num (upTo rows l ++ [(lit, l + 1)]) n ≤ num rows n := by
  obtain ⟨x, hx, e⟩ := h.ne (l + 1) (by omega) hd
  have p := dg_pos hx e
  refine le_of (j := l + 1) (fun k hk => ?_) ?_ (fun k hk => ?_) _
  · rw [dg_snoc, dg_upTo, if_pos (by omega), if_neg (by dsimp only; omega)]; rfl
  · rw [dg_snoc, dg_upTo, if_neg (by omega), if_pos rfl]; omega
  · rw [dg_snoc, dg_upTo, if_neg (by omega), if_neg (by dsimp only; omega)]
theorem upTo_lt {ns : List Int} {rows : RowsT} {dep l : Nat} (h : ROk ns rows dep) (hd : l < dep) : (upTo rows l).length < rows.length := by
  obtain ⟨x, hx, e⟩ := h.ne (l + 1) (by omega) hd
  have h1 : (upTo rows l).length = cnt rows (l + 1) := by
    unfold upTo cnt
    congr 2
    funext x
    by_cases z : x.2 ≤ l
    · rw [decide_eq_true z, decide_eq_true (by omega)]
    · rw [decide_eq_false z, decide_eq_false (by omega)]
  have h2 := cnt_succ rows (l + 1)
  have h3 := dg_pos hx e
  have h4 := cnt_le rows (l + 1 + 1)
  omega
/-- a node that is open behind a going back -/
theorem upTo_free {ns : List Int} {rows : RowsT} {dep l : Nat} (h : ROk ns rows dep) (hd : l < dep) : ∃ n ∈ ns, n ∉ (upTo rows l).map fun x => ((x.1.natAbs : Nat) : Int) := by
  obtain ⟨x, hx, e⟩ := h.ne (l + 1) (by omega) hd
  refine ⟨_, h.mem x hx, fun z => ?_⟩
  obtain ⟨y, hy, q⟩ := List.mem_map.mp z
  have hy1 := (List.mem_filter.mp hy).1
  have hy2 := of_decide_eq_true (List.mem_filter.mp hy).2
  have hn := h.nd
  have : x = y := by
    have hxy : x.1.natAbs = y.1.natAbs := (Int.ofNat.inj q).symm
    obtain ⟨i, hi⟩ := List.mem_iff_getElem?.mp hx
    obtain ⟨j, hj⟩ := List.mem_iff_getElem?.mp hy1
    have gi := (List.getElem?_eq_some_iff.mp hi)
    have gj := (List.getElem?_eq_some_iff.mp hj)
    obtain ⟨li, ei⟩ := gi
    obtain ⟨lj, ej⟩ := gj
    have hij : i = j := by
      have e1 : (rows.map fun x => x.1.natAbs)[i]'(by simpa using li) = (rows.map fun x => x.1.natAbs)[j]'(by simpa using lj) := by
        rw [List.getElem_map, List.getElem_map, ei, ej]; exact hxy
      exact (List.getElem_inj hn).mp e1
    subst hij
    rw [← ei, ← ej]
  subst this
  omega
/-- the bounds of the levels -/
def bnds (rows : RowsT) (dep : Nat) : List Int := (0 : Int) :: ((List.range dep).map fun i => ((cnt rows (i + 1) : Nat) : Int)) ++ [((rows.length : Nat) : Int)]
theorem bnds_at {rows : RowsT} {dep : Nat} (h : ∀ x ∈ rows, x.2 ≤ dep) {i : Nat} (hi : i ≤ dep + 1) : (bnds rows dep)[i]? = some ((cnt rows i : Nat) : Int) := by
  unfold bnds
  cases i with
  | zero => rw [cnt_zero]; rfl
  | succ i =>
    rw [List.cons_append, List.getElem?_cons_succ]
    by_cases e : i < dep
    · rw [List.getElem?_append_left (by simpa using e), List.getElem?_map, List.getElem?_range e]; rfl
    · have : i = dep := by omega
      subst this
      rw [List.getElem?_append_right (by simp), List.length_map, List.length_range, Nat.sub_self, cnt_all fun x hx => by have := h x hx; omega]; rfl
theorem bnds_len (rows : RowsT) (dep : Nat) : (bnds rows dep).length = dep + 2 := by unfold bnds; simp
end R8

end
section
set_option Elab.async false
set_option linter.all false
set_option maxRecDepth 100000
set_option maxHeartbeats 4000000
local macro_rules | `(tactic| walk_at "npl") => `(tactic| first | exact Kf.npl rfl | exact Kf.npl_ints _ | exact Kf.npl_one _ _ | exact Kf.npl_refs _ | assumption)
local macro_rules | `(tactic| walk_at "nn") => `(tactic| first
  | assumption
  | (refine' Kf.Ext.non ?nne ?nnh; (case nne => assumption); (case nnh => walk_at "nn")))
local macro_rules | `(tactic| walk_at "ext") => `(tactic| first
  | assumption
  | exact Kf.Ext.refl
  | (refine' Kf.Ext.newer ?exa ?exn; (case exn => assumption); (case exa => walk_at "ext"))
  | (refine' Kf.Ext.own ?exa ?exn; (case exn => walk_at "nn"); (case exa => walk_at "ext"))
  | (refine' Kf.Ext.trans ?exa ?exb; (case exb => assumption); (case exa => walk_at "ext")))
local macro_rules | `(tactic| walk_at "pool") => `(tactic| first
  | assumption
  | (refine' Kf.PoolAt.ext ?plh ?ple; (case plh => assumption); (case ple => walk_at "ext"))
  | (refine' Kf.PoolAt.upd ?plh ?plo ?pln; (case plo => assumption); (case pln => walk_at "npl"); (case plh => walk_at "pool")))
local macro_rules | `(tactic| walk_at "lk") => `(tactic| first
  | assumption
  | exact L2.upd_same
  | (refine' Kf.upd_old ?lkn ?lkh; (case lkn => assumption); (case lkh => walk_at "lk"))
  | (refine' Kf.upd_oth ?lkn ?lkh; (case lkn => (first | assumption | (apply Ne.symm; assumption))); (case lkh => walk_at "lk"))
  | (refine' Kf.Ext.get ?lke ?lkh ?lkn; (case lke => assumption); (case lkh => walk_at "lk"); (case lkn => walk_at "npl"))
  | (refine' L2.Same.at ?lke ?lkh; (case lke => assumption); (case lkh => walk_at "lk")))
local macro_rules | `(tactic| walk_at "sq") => `(tactic| first
  | assumption
  | (refine' L2.SqL.of ?sqh; (case sqh => walk_at "lk"))
  | (refine' L2.SqT.of ?sqh; (case sqh => walk_at "lk"))
  | (refine' Kf.Ext.seqL ?sqe ?sqh ?sqn; (case sqh => assumption); (case sqe => walk_at "ext"); (case sqn => walk_at "npl"))
  | (refine' Kf.Ext.seqT ?sqe ?sqh; (case sqh => assumption); (case sqe => walk_at "ext")))
local macro_rules | `(tactic| walk_at "at") => `(tactic| first | exact L2.atI_nat (j := 0) rfl | exact L2.atI_nat (j := 1) rfl | exact L2.atI_nat (j := 2) rfl | exact L2.atI_nat (j := 3) rfl | exact L2.atI_nat (j := 4) rfl | assumption)
local macro_rules | `(tactic| walk_at "ixn") => `(tactic| first | exact Kf.ixN_nat (j := 0) rfl | exact Kf.ixN_nat (j := 1) rfl | exact Kf.ixN_nat (j := 2) rfl | exact Kf.ixN_nat (j := 3) rfl | assumption)
local macro_rules | `(tactic| walk_at "set") => `(tactic| (first | (simp only [List.set_cons_succ, List.set_cons_zero]; rfl) | rfl))
local macro_rules | `(tactic| walk_at "om") => `(tactic| first | decide | omega | (simp only [List.length_map, List.length_cons, List.length_nil] at *; omega))
local macro_rules | `(tactic| walk_at "calls") => `(tactic| first
  | (with_reducible refine' Kf.call_take ?clp ?cla ?clb ?clq; (case clp => walk_at "pool"); (case cla => walk_at "om"); (case clb => walk_at "om"); intro r H' hE h0 h1)
  | (with_reducible refine' Kf.call_pool ?cls ?cla ?clq; (case cls => walk_at "sq"); (case cla => walk_at "om"); intro p H' hE hN hP)
  | (with_reducible refine' Kf.call_turn ?cls ?clp ?cla ?clq; (case cls => walk_at "sq"); (case clp => walk_at "pool"); (case cla => walk_at "om"); intro u H' hE hP))
local macro_rules | `(tactic| walk_at "side") => `(tactic| first
  | exact Kf.cmul_fmod (by decide) (by decide)
  | exact rfl
  | decide
  | omega
  | assumption
  | (refine ⟨?_, ?_⟩ <;> decide)
  | (refine ⟨?_, ?_, ?_⟩ <;> decide)
  | (refine ⟨?_, ?_⟩ <;> omega)
  | (refine Or.inl ⟨?_, ?_⟩ <;> decide)
  | (refine Or.inr ⟨?_, ?_⟩ <;> decide)
  | (refine Or.inl ⟨?_, ?_⟩ <;> omega)
  | (refine Or.inr ⟨?_, ?_⟩ <;> omega))
local macro_rules | `(tactic| walk_at "kit") => `(tactic| first | exact Kf.isi_int_int | exact Kf.isi_int_bool | exact Kf.isi_int_str | exact Kf.isi_int_list | exact Kf.isi_int_tuple | exact Kf.isi_bool_int | exact Kf.isi_bool_bool | exact Kf.isi_bool_str | exact Kf.isi_bool_list | exact Kf.isi_bool_tuple | exact Kf.isi_str_int | exact Kf.isi_str_bool | exact Kf.isi_str_str | exact Kf.isi_str_list | exact Kf.isi_str_tuple | exact Kf.isi_non_list | exact Kf.isi_non_tuple | exact Kf.isi_list_list | exact Kf.isi_list_tuple | exact Kf.isi_tuple_list | exact Kf.isi_tuple_tuple | exact Kf.isi_dict_dict)
local macro_rules | `(tactic| walk_at "ty") => `(tactic| first
  | exact L2.TyX.base (L2.TyOf.int _)
  | exact L2.TyX.base (L2.TyOf.bl _)
  | exact L2.TyX.base (L2.TyOf.str _)
  | exact L2.TyX.base L2.TyOf.non
  | (refine' L2.TyX.base (L2.TyOf.lst ?tyh); (case tyh => walk_at "lk"))
  | (refine' L2.TyX.base (L2.TyOf.tup ?tyh); (case tyh => walk_at "lk"))
  | (refine' L2.TyX.base (L2.TyOf.dK ?tyh); (case tyh => walk_at "lk")))
local macro_rules | `(tactic| walk_at "om2") => `(tactic| first | assumption | decide | omega)
local macro_rules | `(tactic| walk_at "st") => `(tactic| with_reducible first
  | (refine Kf.w_var rfl ?_)
  | (refine Kf.w_c ?_)
  | (refine Kf.w_seq ?_)
  | (refine Kf.w_asg ?_)
  | (refine' Kf.w_gname ?sth ?_; (case sth => with_unfolding_all walk_at "set"))
  | (refine Kf.w_op ?_)
  | (refine Kf.w_un ?_)
  | (refine Kf.w_rU ?_)
  | (refine Kf.w_rI0 ?_)
  | (refine' Kf.w_rI ?sth ?_; (case sth => with_unfolding_all walk_at "side"))
  | (refine' Kf.w_rEq ?sth ?_; (case sth => with_unfolding_all rfl))
  | (refine' Kf.w_rNe ?sth ?_; (case sth => with_unfolding_all rfl))
  | (refine Kf.w_tTest ?_)
  | (refine Kf.w_tB ?_)
  | (refine Kf.w_exbl ?_)
  | (refine Kf.w_exint ?_)
  | (refine Kf.w_ifS ?_)
  | (refine Kf.w_ret ?_)
  | (refine Kf.w_retN ?_)
  | (refine Kf.w_drop ?_)
  | (refine Kf.w_and ?_)
  | (refine Kf.w_or ?_)
  | (refine Kf.w_not ?_)
  | (refine Kf.w_andV ?_)
  | (refine Kf.w_orV ?_)
  | (refine Kf.w_notV ?_)
  | (refine Kf.w_if ?_)
  | (refine Kf.w_lc ?_)
  | (refine Kf.w_for ?_)
  | (refine Kf.w_rng1 ?_)
  | (refine' Kf.w_rng1x ?sth ?stg ?_; (case sth => with_unfolding_all walk_at "om"); (case stg => with_unfolding_all walk_at "om"))
  | (refine Kf.w_ilist ?_)
  | (refine Kf.w_iseq ?_)
  | (refine Kf.w_itup ?_)
  | (refine' Kf.w_ilistx ?sth ?_; (case sth => with_unfolding_all walk_at "sq"))
  | (refine' Kf.w_itupx ?sth ?_; (case sth => with_unfolding_all walk_at "sq"))
  | (refine' Kf.w_wipe ?sth ?_; (case sth => with_unfolding_all rfl))
  | (refine Kf.w_yes ?_)
  | (refine' Kf.w_isi ?sth ?stg ?_; (case sth => with_unfolding_all walk_at "ty"); (case stg => walk_at "kit"))
  | (refine Kf.w_isN ?_)
  | (refine Kf.w_notN ?_)
  | (refine Kf.w_cb ?_)
  | (refine Kf.w_nil ?_)
  | (refine Kf.w_cons ?_)
  | (refine Kf.w_tup ?_)
  | (refine Kf.w_lst ?_)
  | (refine' Kf.w_lines ?sth ?_; (case sth => with_unfolding_all rfl))
  | (refine Kf.w_call ?_)
  | (refine Kf.w_next ?_)
  | (refine Kf.w_break ?_)
  | (refine Kf.w_cont ?_)
  | (refine Kf.w_dnewK ?_)
  | (refine Kf.w_fld ?_)
  | (refine' Kf.w_fldx ?sth ?stg ?stf ?ste ?_; (case sth => with_unfolding_all walk_at "lk"); (case stg => assumption); (case stf => assumption); (case ste => with_unfolding_all exact rfl))
  | (refine Kf.w_sfld ?_)
  | (refine' Kf.w_sfldx ?sth ?stg ?stf ?ste ?_; (case sth => with_unfolding_all walk_at "lk"); (case stg => assumption); (case stf => assumption); (case ste => with_unfolding_all exact rfl))
  | (refine Kf.w_meth ?_)
  | (refine' Kf.w_methx ?sth ?stg ?_; (case sth => with_unfolding_all walk_at "lk"); (case stg => with_unfolding_all exact rfl))
  | (refine Kf.w_ddel ?_)
  | (refine Kf.w_disp ?_)
  | (refine Kf.w_pcons ?_)
  | (refine Kf.w_pnil ?_)
  | (refine Kf.w_make ?_)
  | (refine Kf.w_sfldaug ?_)
  | (refine' Kf.w_sfldaugx ?sth ?stg ?stf ?ste ?_; (case sth => with_unfolding_all walk_at "lk"); (case stg => assumption); (case stf => assumption); (case ste => with_unfolding_all exact rfl))
  | (refine Kf.w_inadd ?_)
  | (refine Kf.w_dnotin ?_)
  | (refine Kf.w_dget1 ?_)
  | (refine' Kf.w_dgetS ?sth ?stg ?_; (case sth => with_unfolding_all walk_at "lk"); (case stg => with_unfolding_all exact rfl))
  | (refine Kf.w_ikeys ?_)
  | (refine Kf.w_dput ?_)
  | (refine Kf.w_dget2 ?_)
  | (refine Kf.w_dget ?_)
  | (refine Kf.w_sl ?_)
  | (refine Kf.w_nopart ?_)
  | (refine Kf.w_part ?_)
  | (refine Kf.w_bm ?_)
  | (refine Kf.w_bm0 ?_)
  | (refine' Kf.w_bmL ?sth ?_; (case sth => with_unfolding_all walk_at "lk"))
  | (refine' Kf.w_cat ?sth ?stg ?stf ?_; (case sth => with_unfolding_all walk_at "lk"); (case stg => with_unfolding_all walk_at "lk"); (case stf => with_unfolding_all walk_at "om"))
  | (refine' Kf.w_slL ?sth ?_; (case sth => with_unfolding_all walk_at "sq"))
  | (refine' Kf.w_inL ?sth ?_; (case sth => with_unfolding_all walk_at "sq"))
  | (refine' Kf.w_inT ?sth ?_; (case sth => with_unfolding_all walk_at "sq"))
  | (refine' Kf.w_ninL ?sth ?_; (case sth => with_unfolding_all walk_at "sq"))
  | (refine' Kf.w_ninT ?sth ?_; (case sth => with_unfolding_all walk_at "sq"))
  | (refine' Kf.w_listof ?sth ?_; (case sth => with_unfolding_all walk_at "sq"))
  | (refine' Kf.w_tupof ?sth ?_; (case sth => with_unfolding_all walk_at "sq"))
  | (refine Kf.w_listRev ?_)
  | (refine Kf.w_gsub ?_)
  | (refine' Kf.w_ixL ?sth ?stg ?_; (case sth => with_unfolding_all walk_at "sq"); (case stg => with_unfolding_all walk_at "at"))
  | (refine' Kf.w_ixT ?sth ?stg ?_; (case sth => with_unfolding_all walk_at "sq"); (case stg => with_unfolding_all walk_at "at"))
  | (refine' Kf.w_setL ?sth ?stg ?_; (case sth => with_unfolding_all walk_at "lk"); (case stg => with_unfolding_all walk_at "ixn"))
  | (refine' Kf.w_len ?sth ?_; (case sth => with_unfolding_all walk_at "sq"))
  | (refine' Kf.w_lenT ?sth ?_; (case sth => with_unfolding_all walk_at "sq"))
  | (refine Kf.w_int1 ?_)
  | (refine Kf.w_intb ?_)
  | (refine Kf.w_abs ?_)
  | (refine Kf.w_aug rfl ?_)
  | (refine Kf.w_par ?_)
  | (refine' Kf.w_gtup ?sth ?stg ?_; (case sth => with_unfolding_all walk_at "sq"); (case stg => with_unfolding_all exact rfl))
  | (refine' Kf.w_glst ?sth ?stg ?_; (case sth => with_unfolding_all walk_at "sq"); (case stg => with_unfolding_all exact rfl))
  | (refine Kf.w_rng2 ?_)
  | (refine Kf.w_rng3 ?_)
  | (refine' Kf.w_rng2x ?sth ?stg ?stf ?ste ?_; (case sth => with_unfolding_all walk_at "om"); (case stg => with_unfolding_all walk_at "om"); (case stf => with_unfolding_all walk_at "om"); (case ste => with_unfolding_all walk_at "om"))
  | (refine Kf.w_gcons ?_)
  | (refine Kf.w_gnil ?_)
  | (refine Kf.w_gcd ?_)
  | (refine Kf.w_bits ?_)
  | (refine Kf.w_two ?_)
  | (refine Kf.w_ipI ?_)
  | (refine L2.iteT ?_)
  | (refine L2.iteF ?_)
  | (refine Kf.iteNT ?_)
  | (refine Kf.iteNF ?_)
  | (refine' Kf.ite_decT ?sth ?_; (case sth => exact rfl))
  | (refine' Kf.ite_decF ?sth ?_; (case sth => with_unfolding_all (intro e; cases e; done)))
  | (refine' Kf.ite_ndecF ?sth ?_; (case sth => exact rfl))
  | (refine' Kf.ite_ndecT ?sth ?_; (case sth => with_unfolding_all (intro e; cases e; done)))
  | (refine' Kf.ite_viT ?sth ?_; (case sth => (with_unfolding_all walk_at "om2")))
  | (refine' Kf.ite_viF ?sth ?_; (case sth => (with_unfolding_all walk_at "om2")))
  | (refine' Kf.ite_nviT ?sth ?_; (case sth => (with_unfolding_all walk_at "om2")))
  | (refine' Kf.ite_nviF ?sth ?_; (case sth => (with_unfolding_all walk_at "om2")))
  | (refine' Kf.ite_decT ?sth ?_; (case sth => (with_unfolding_all walk_at "om2")))
  | (refine' Kf.ite_decF ?sth ?_; (case sth => (with_unfolding_all walk_at "om2")))
  | with_unfolding_all walk_at "calls")
local macro_rules | `(tactic| walk_at "go") => `(tactic| repeat walk_at "st")

namespace Kf
open PySem PySem.Spec PyProof.Rows L2
open R8 (RowsT cnt dg upTo ROk num bnds)
abbrev fl (k o s t m : Addr) (z : Int) : List (Str × V) := [("_known", .ref k), ("_order", .ref o), ("_state", .ref s), ("_starts", .ref t), ("_stamps", .ref m), ("_made", .int z)]
theorem fl_lk {k o s t m : Addr} {z : Int} : (fl k o s t m z).lookup ("_stamps" : Str) = some (V.ref m) := rfl
theorem fl_no {k o s t m : Addr} {z : Int} : (fl k o s t m z).lookup ("_row_of" : Str) = none := rfl
theorem fl_o {k o o' s t m : Addr} {z : Int} : putF ("_order" : Str) (V.ref o') (fl k o s t m z) = fl k o' s t m z := rfl
theorem fl_t {k o t' s t m : Addr} {z : Int} : putF ("_starts" : Str) (V.ref t') (fl k o s t m z) = fl k o s t' m z := rfl
theorem fl_m {k o m' s t m : Addr} {z : Int} : putF ("_stamps" : Str) (V.ref m') (fl k o s t m z) = fl k o s t m' z := rfl
theorem fl_z {k o s t m : Addr} {z z' : Int} : putF ("_made" : Str) (V.int z') (fl k o s t m z) = fl k o s t m z' := rfl
abbrev seatD (p na r : Addr) (d : Int) (num bnd : Int) : List (Key × V) := [(.inr "trail", .ref p), (.inr "nodes", .ref na), (.inr "rows", .ref r), (.inr "depth", .int d), (.inr "number", .int num), (.inr "bound", .int bnd)]
theorem sd_dep {p na r : Addr} {d n b : Int} : valV (seatD p na r d n b) (.inr "depth") = some (V.int d) := rfl
theorem sd_put {p na r : Addr} {d n b d' : Int} : putK (seatD p na r d n b) (.inr "depth") (V.int d') = seatD p na r d' n b := rfl
/-- the trail's dict: a row for each literal -/
def StAt (H : Hp) (ks : List (Key × V)) (rows : RowsT) : Prop := (ks.map (·.1)).Nodup ∧ ks.length = rows.length ∧ (∀ n : Int, n ∉ (rows.map fun x => ((x.1.natAbs : Nat) : Int)) → valV ks (.inl n) = none) ∧
  ∀ x ∈ rows, ∃ q rs pl, valV ks (.inl ((x.1.natAbs : Nat) : Int)) = some (.ref q) ∧ H q = some (.tup [.int x.1, .int (x.2 : Nat), rs, pl])
theorem StAt.kept {H H' : Hp} {ks : List (Key × V)} {rows : RowsT} (h : StAt H ks rows) (e : ∀ b xs, H b = some (.tup xs) → H' b = some (.tup xs)) : StAt H' ks rows :=
  ⟨h.1, h.2.1, h.2.2.1, fun x hx => let ⟨q, rs, pl, h1, h2⟩ := h.2.2.2 x hx; ⟨q, rs, pl, h1, e _ _ h2⟩⟩
structure TrailAt (C : Addr) (ns : List Int) (H : Hp) (p k o s t m : Addr) (rows : RowsT) (dep : Nat) : Prop where
  ob : ∃ dx z, H p = some (.ins C dx (fl k o s t m z))
  kn : ∃ kk, H k = some (.dK kk) ∧ ∀ n ∈ ns, (valV kk (.inl n)).isSome = true
  od : H o = some (.lst ((rows.map (·.1)).map V.int))
  st : ∃ ks, H s = some (.dK ks) ∧ StAt H ks rows
  ss : H t = some (.lst (((List.range dep).map fun i => ((cnt rows (i + 1) : Nat) : Int)).map V.int))
  mm : ∃ ms : List Int, H m = some (.lst (ms.map V.int)) ∧ ms.length = rows.length
  nk : k ≠ s
  n1 : o ≠ t
  n2 : o ≠ m
  n3 : t ≠ m
  ok : ROk ns rows dep
  nl : ns.length ≤ 200
theorem abs_if (n : Int) : (if n < 0 then -n else n) = ((n.natAbs : Nat) : Int) := by split <;> omega
theorem ne_dl {H : Hp} {a b : Addr} {ks : List (Key × V)} {xs : List V} (h : H a = some (.dK ks)) (h' : H b = some (.lst xs)) : a ≠ b := ne_of h h' (fun z => nomatch z)
theorem ne_id {H : Hp} {a b C dx : Addr} {fs : List (Str × V)} {ks : List (Key × V)} (h : H a = some (.ins C dx fs)) (h' : H b = some (.dK ks)) : a ≠ b := ne_of h h' (fun z => nomatch z)
theorem ne_il {H : Hp} {a b C dx : Addr} {fs : List (Str × V)} {xs : List V} (h : H a = some (.ins C dx fs)) (h' : H b = some (.lst xs)) : a ≠ b := ne_of h h' (fun z => nomatch z)
theorem ne_tl {H : Hp} {a b : Addr} {xs ys : List V} (h : H a = some (.tup xs)) (h' : H b = some (.lst ys)) : a ≠ b := ne_of h h' (fun z => nomatch z)
theorem ne_td {H : Hp} {a b : Addr} {xs : List V} {ks : List (Key × V)} (h : H a = some (.tup xs)) (h' : H b = some (.dK ks)) : a ≠ b := ne_of h h' (fun z => nomatch z)
theorem ne_ti {H : Hp} {a b C dx : Addr} {xs : List V} {fs : List (Str × V)} (h : H a = some (.tup xs)) (h' : H b = some (.ins C dx fs)) : a ≠ b := ne_of h h' (fun z => nomatch z)
abbrev s_Trail__put_on : Stmt := inClass (topS 5) 19
abbrev N_Trail__put_on : List Str := ["self", "literal", "reason"]
abbrev P_Trail__put_on : List Str := ["self", "literal", "reason"]
theorem sc_Trail__put_on : FnScope N_Trail__put_on P_Trail__put_on (defScope s_Trail__put_on) := ⟨rfl, rfl, rfl, by decide +kernel, rfl, by decide +kernel, by decide +kernel⟩
abbrev s_Trail__row_of : Stmt := inClass (topS 5) 17
abbrev N_Trail__row_of : List Str := ["self", "literal"]
abbrev P_Trail__row_of : List Str := ["self", "literal"]
theorem sc_Trail__row_of : FnScope N_Trail__row_of P_Trail__row_of (defScope s_Trail__row_of) := ⟨rfl, rfl, rfl, by decide +kernel, rfl, by decide +kernel, by decide +kernel⟩
abbrev s_Trail__require_open : Stmt := inClass (topS 5) 18
abbrev N_Trail__require_open : List Str := ["self", "literal"]
abbrev P_Trail__require_open : List Str := ["self", "literal"]
theorem sc_Trail__require_open : FnScope N_Trail__require_open P_Trail__require_open (defScope s_Trail__require_open) := ⟨rfl, rfl, rfl, by decide +kernel, rfl, by decide +kernel, by decide +kernel⟩
section
variable {P : Program} {w : World} {K : PySem.W.Frag} {mg : Str → Option Value} {base : Heap} {H : Hp} {Q : VK} {E : XK} {C : Addr}
structure TrC (K : PySem.W.Frag) (C : Addr) : Prop where
  c : Cls K C
  a1 : NoAttr K C "_known"
  a2 : NoAttr K C "_order"
  a3 : NoAttr K C "_state"
  a4 : NoAttr K C "_starts"
  a5 : NoAttr K C "_stamps"
  a6 : NoAttr K C "_made"
def spPut (C : Addr) : Sp := fun vs H Q _ => ∃ (p dx k o s t m : Addr) (z lit : Int) (ks : List (Key × V)) (os ts ms : List V) (rs : V), vs = [.ref p, .int lit, rs] ∧ H p = some (.ins C dx (fl k o s t m z)) ∧ H s = some (.dK ks) ∧ ks.length ≤ 900 ∧
  H o = some (.lst os) ∧ os.length ≤ 900 ∧ H t = some (.lst ts) ∧ H m = some (.lst ms) ∧ ms.length ≤ 900 ∧ o ≠ m ∧ ∀ q, H q = none →
  Q .non (upd (upd (upd (upd (upd H q (.tup [.int lit, .int (ts.length : Nat), rs, .int (os.length : Nat)])) s (.dK (putK ks (.inl ((lit.natAbs : Nat) : Int)) (.ref q)))) o (.lst (os ++ [.int lit]))) m (.lst (ms ++ [.int z]))) p (.ins C dx (fl k o s t m (z + 1))))
theorem ok_put_on (D : DfM K C "_put_on" "Trail._put_on" s_Trail__put_on P_Trail__put_on) (T : TrC K C) (b_len : mg "len" = none) (b_abs : mg "abs" = none) : PrM P w K mg base C "_put_on" 1 P_Trail__put_on (spPut C) := by
  refine D.ok sc_Trail__put_on (fun vs H Q E h => ?_) (fun f cdv A outer s H vs Q E hr h => ?_)
  · obtain ⟨p, dx, k, o, s, t, m, z, lit, ks, os, ts, ms, rs, rfl, _⟩ := h; rfl
  obtain ⟨p, dx, k, o, s, t, m, z, lit, ks, os, ts, ms, rs, rfl, hp, hs, lks, ho, los, ht, hm, lms, nom, q⟩ := h
  obtain ⟨c_Trail, a1, a2, a3, a4, a5, a6⟩ := T
  have nd := sc_Trail__put_on.nd
  have hu := hu_of hr
  have nps := ne_id hp hs
  have npo := ne_il hp ho
  have npm := ne_il hp hm
  have npt := ne_il hp ht
  have nso := ne_dl hs ho
  have nsm := ne_dl hs hm
  refine ⟨_, (pss_cons (ps_dput hu (pe_fldK (K := K) rfl (pv 0) rfl) (pe_callB call_abs (by rfl) b_abs (by decide +kernel) (pa_cons (pv 1) pa_nil)) (pe_tup (pa_cons (pv 1) (pa_cons (pe_callB (call_lenK (K := K) rfl) (by rfl) b_len PySem.boot_len (pa_cons (pe_fldK (K := K) rfl (pv 0) rfl) pa_nil)) (pa_cons (pv 2) (pa_cons (pe_callB (call_lenK (K := K) rfl) (by rfl) b_len PySem.boot_len (pa_cons (pe_fldK (K := K) rfl (pv 0) rfl) pa_nil)) pa_nil))))) rfl)
      (pss_cons (ps_expr (pe_bmK (K := K) rfl PySem.F.plainAttrs_list PySem.F.slot_list_append PySem.F.type_list_append mt_append (pe_fldK (K := K) rfl (pv 0) rfl) (pa_cons (pv 1) pa_nil)))
      (pss_cons (ps_expr (pe_bmK (K := K) rfl PySem.F.plainAttrs_list PySem.F.slot_list_append PySem.F.type_list_append mt_append (pe_fldK (K := K) rfl (pv 0) rfl) (pa_cons (pe_fldK (K := K) rfl (pv 0) rfl) pa_nil)))
      (pss_one (ps_fldaugK (K := K) rfl (pv 0) pe_int in_add))))), ?_⟩
  refine w_start (σ := [some _, some _, some _]) rfl ?_
  walk_at "go"
  intro x hx
  walk_at "go"
  rw [abs_if]
  have hp1 := upd_old (u := .tup [.int lit, .int (ts.length : Nat), rs, .int (os.length : Nat)]) hx hp
  have hs1 := upd_old (u := .tup [.int lit, .int (ts.length : Nat), rs, .int (os.length : Nat)]) hx hs
  have ho1 := upd_old (u := .tup [.int lit, .int (ts.length : Nat), rs, .int (os.length : Nat)]) hx ho
  have hm1 := upd_old (u := .tup [.int lit, .int (ts.length : Nat), rs, .int (os.length : Nat)]) hx hm
  have q1 := q x hx
  generalize upd H x (.tup [.int lit, .int (ts.length : Nat), rs, .int (os.length : Nat)]) = H1 at *
  refine ⟨s, _, rfl, DPut.k (k := .inl ((lit.natAbs : Nat) : Int)) hs1 (small1000 (by omega)), ?_⟩
  have hp2 := upd_oth (u := .dK (putK ks (.inl ((lit.natAbs : Nat) : Int)) (.ref x))) nps hp1
  have ho2 := upd_oth (u := .dK (putK ks (.inl ((lit.natAbs : Nat) : Int)) (.ref x))) nso.symm ho1
  have hm2 := upd_oth (u := .dK (putK ks (.inl ((lit.natAbs : Nat) : Int)) (.ref x))) nsm.symm hm1
  generalize upd H1 s (.dK (putK ks (.inl ((lit.natAbs : Nat) : Int)) (.ref x))) = H2 at *
  walk_at "go"
  refine w_append ho2 (small1000 (by omega)) ?_
  have hp3 := upd_oth (u := .lst (os ++ [.int lit])) npo hp2
  have hm3 := upd_oth (u := .lst (os ++ [.int lit])) nom.symm hm2
  generalize upd H2 o (.lst (os ++ [.int lit])) = H3 at *
  walk_at "go"
  refine w_append hm3 (small1000 (by omega)) ?_
  have hp4 := upd_oth (u := .lst (ms ++ [.int z])) npm hp3
  generalize upd H3 m (.lst (ms ++ [.int z])) = H4 at *
  walk_at "go"
  refine ⟨dx, _, hp4, by show 6 < 1000; decide, ?_⟩
  rw [fl_z]
  exact q1
def spRow (C : Addr) : Sp := fun vs H Q _ => ∃ (ns : List Int) (p k o s t m : Addr) (rows : RowsT) (dep : Nat) (lit : Int), vs = [.ref p, .int lit] ∧ TrailAt C ns H p k o s t m rows dep ∧ ((lit.natAbs : Nat) : Int) ∈ ns ∧
  ((((lit.natAbs : Nat) : Int) ∉ (rows.map fun x => ((x.1.natAbs : Nat) : Int)) ∧ Q .non H) ∨ ∃ x ∈ rows, x.1.natAbs = lit.natAbs ∧ ∀ q rs pl, H q = some (.tup [.int x.1, .int (x.2 : Nat), rs, pl]) → Q (.ref q) H)
theorem ok_row_of (D : DfM K C "_row_of" "Trail._row_of" s_Trail__row_of P_Trail__row_of) (T : TrC K C) (b_abs : mg "abs" = none) : PrM P w K mg base C "_row_of" 1 P_Trail__row_of (spRow C) := by
  refine D.ok sc_Trail__row_of (fun vs H Q E h => ?_) (fun f cdv A outer s H vs Q E hr h => ?_)
  · obtain ⟨ns, p, k, o, s, t, m, rows, dep, lit, rfl, _⟩ := h; rfl
  obtain ⟨ns, p, k, o, s, t, m, rows, dep, lit, rfl, TA, hn, q⟩ := h
  obtain ⟨c_Trail, a1, a2, a3, a4, a5, a6⟩ := T
  obtain ⟨dx, z, hp⟩ := TA.ob
  obtain ⟨kk, hk, hkk⟩ := TA.kn
  obtain ⟨ks, hs, hst⟩ := TA.st
  have nd := sc_Trail__row_of.nd
  have hu := hu_of hr
  refine ⟨_, (pss_cons (ps_if (pt_cmp (pc_dnotin hu (pe_callB call_abs (by rfl) b_abs (by decide +kernel) (pa_cons (pv 1) pa_nil)) (pe_fldK (K := K) rfl (pv 0) rfl))) (pss_one (ps_dead)) pss_nil)
      (pss_one (ps_ret (pe_dget1 hu (pe_fldK (K := K) rfl (pv 0) rfl) (pe_callB call_abs (by rfl) b_abs (by decide +kernel) (pa_cons (pv 1) pa_nil)) ⟨rfl, rfl, rfl, rfl⟩)))), ?_⟩
  refine w_start (σ := [some _, some _]) rfl ?_
  walk_at "go"
  rw [abs_if]
  refine ⟨k, _, rfl, DGet.k (k := .inl ((lit.natAbs : Nat) : Int)) hk, ?_⟩
  rw [hkk _ hn]
  walk_at "go"
  refine ⟨s, rfl, .inl ⟨ks, .inl hs⟩, ?_⟩
  walk_at "go"
  rw [abs_if]
  rcases q with ⟨hf, q⟩ | ⟨x, hx, e, q⟩
  · refine ⟨none, ?_, q⟩
    have e := hst.2.2.1 _ hf
    rw [← e]
    exact DGet.k (k := .inl ((lit.natAbs : Nat) : Int)) hs
  · obtain ⟨q', rs, pl, e1, e2⟩ := hst.2.2.2 x hx
    rw [e] at e1
    refine ⟨some (.ref q'), ?_, q q' rs pl e2⟩
    rw [← e1]
    exact DGet.k (k := .inl ((lit.natAbs : Nat) : Int)) hs
theorem call_row_none {ns : List Int} {p k o s t m : Addr} {rows : RowsT} {dep : Nat} {lit : Int} (TA : TrailAt C ns H p k o s t m rows dep) (hn : ((lit.natAbs : Nat) : Int) ∈ ns) (hf : ((lit.natAbs : Nat) : Int) ∉ (rows.map fun x => ((x.1.natAbs : Nat) : Int))) (q : Q .non H) : spRow C (.ref p :: ([.int lit] ++ [])) H Q E :=
  ⟨ns, p, k, o, s, t, m, rows, dep, lit, rfl, TA, hn, .inl ⟨hf, q⟩⟩
theorem call_row_some {ns : List Int} {p k o s t m : Addr} {rows : RowsT} {dep : Nat} {lit : Int} {x : Int × Nat} (TA : TrailAt C ns H p k o s t m rows dep) (hx : x ∈ rows) (e : x.1.natAbs = lit.natAbs) (q : ∀ q rs pl, H q = some (.tup [.int x.1, .int (x.2 : Nat), rs, pl]) → Q (.ref q) H) : spRow C (.ref p :: ([.int lit] ++ [])) H Q E :=
  ⟨ns, p, k, o, s, t, m, rows, dep, lit, rfl, TA, by rw [← e]; exact TA.ok.mem x hx, .inr ⟨x, hx, e, q⟩⟩
def spReq (C : Addr) : Sp := fun vs H Q _ => ∃ (ns : List Int) (p k o s t m : Addr) (rows : RowsT) (dep : Nat) (lit : Int), vs = [.ref p, .int lit] ∧ TrailAt C ns H p k o s t m rows dep ∧ ((lit.natAbs : Nat) : Int) ∈ ns ∧ ((lit.natAbs : Nat) : Int) ∉ (rows.map fun x => ((x.1.natAbs : Nat) : Int)) ∧ Q .non H
theorem ok_require (D : DfM K C "_require_open" "Trail._require_open" s_Trail__require_open P_Trail__require_open) (T : TrC K C) (p_Trail__row_of : PrM P w K mg base C "_row_of" 1 P_Trail__row_of (spRow C)) : PrM P w K mg base C "_require_open" 2 P_Trail__require_open (spReq C) := by
  refine D.ok sc_Trail__require_open (fun vs H Q E h => ?_) (fun f cdv A outer s H vs Q E hr h => ?_)
  · obtain ⟨ns, p, k, o, s, t, m, rows, dep, lit, rfl, _⟩ := h; rfl
  obtain ⟨ns, p, k, o, s, t, m, rows, dep, lit, rfl, TA, hn, hf, q⟩ := h
  obtain ⟨c_Trail, a1, a2, a3, a4, a5, a6⟩ := T
  obtain ⟨dx, z, hp⟩ := TA.ob
  have nd := sc_Trail__require_open.nd
  refine ⟨_, (pss_one (ps_if (pt_cmp (pc_notN (pe_methP p_Trail__row_of c_Trail hr (pv 0) (pa_cons (pv 1) pa_nil)))) (pss_one (ps_dead)) pss_nil)), ?_⟩
  refine w_start (σ := [some _, some _]) rfl ?_
  walk_at "go"
  refine call_row_none TA hn hf ?_
  walk_at "go"
  exact q
end
end Kf

end
section
set_option Elab.async false
set_option linter.all false
set_option maxRecDepth 100000
set_option maxHeartbeats 4000000
local macro_rules | `(tactic| walk_at "npl") => `(tactic| first | exact Kf.npl rfl | exact Kf.npl_ints _ | exact Kf.npl_one _ _ | exact Kf.npl_refs _ | assumption)
local macro_rules | `(tactic| walk_at "nn") => `(tactic| first
  | assumption
  | (refine' Kf.Ext.non ?nne ?nnh; (case nne => assumption); (case nnh => walk_at "nn")))
local macro_rules | `(tactic| walk_at "ext") => `(tactic| first
  | assumption
  | exact Kf.Ext.refl
  | (refine' Kf.Ext.newer ?exa ?exn; (case exn => assumption); (case exa => walk_at "ext"))
  | (refine' Kf.Ext.own ?exa ?exn; (case exn => walk_at "nn"); (case exa => walk_at "ext"))
  | (refine' Kf.Ext.trans ?exa ?exb; (case exb => assumption); (case exa => walk_at "ext")))
local macro_rules | `(tactic| walk_at "pool") => `(tactic| first
  | assumption
  | (refine' Kf.PoolAt.ext ?plh ?ple; (case plh => assumption); (case ple => walk_at "ext"))
  | (refine' Kf.PoolAt.upd ?plh ?plo ?pln; (case plo => assumption); (case pln => walk_at "npl"); (case plh => walk_at "pool")))
local macro_rules | `(tactic| walk_at "lk") => `(tactic| first
  | assumption
  | exact L2.upd_same
  | (refine' Kf.upd_old ?lkn ?lkh; (case lkn => assumption); (case lkh => walk_at "lk"))
  | (refine' Kf.upd_oth ?lkn ?lkh; (case lkn => (first | assumption | (apply Ne.symm; assumption))); (case lkh => walk_at "lk"))
  | (refine' Kf.Ext.get ?lke ?lkh ?lkn; (case lke => assumption); (case lkh => walk_at "lk"); (case lkn => walk_at "npl"))
  | (refine' L2.Same.at ?lke ?lkh; (case lke => assumption); (case lkh => walk_at "lk")))
local macro_rules | `(tactic| walk_at "sq") => `(tactic| first
  | assumption
  | (refine' L2.SqL.of ?sqh; (case sqh => walk_at "lk"))
  | (refine' L2.SqT.of ?sqh; (case sqh => walk_at "lk"))
  | (refine' Kf.Ext.seqL ?sqe ?sqh ?sqn; (case sqh => assumption); (case sqe => walk_at "ext"); (case sqn => walk_at "npl"))
  | (refine' Kf.Ext.seqT ?sqe ?sqh; (case sqh => assumption); (case sqe => walk_at "ext")))
local macro_rules | `(tactic| walk_at "at") => `(tactic| first | exact L2.atI_nat (j := 0) rfl | exact L2.atI_nat (j := 1) rfl | exact L2.atI_nat (j := 2) rfl | exact L2.atI_nat (j := 3) rfl | exact L2.atI_nat (j := 4) rfl | assumption)
local macro_rules | `(tactic| walk_at "ixn") => `(tactic| first | exact Kf.ixN_nat (j := 0) rfl | exact Kf.ixN_nat (j := 1) rfl | exact Kf.ixN_nat (j := 2) rfl | exact Kf.ixN_nat (j := 3) rfl | assumption)
local macro_rules | `(tactic| walk_at "set") => `(tactic| (first | (simp only [List.set_cons_succ, List.set_cons_zero]; rfl) | rfl))
local macro_rules | `(tactic| walk_at "om") => `(tactic| first | decide | omega | (simp only [List.length_map, List.length_cons, List.length_nil] at *; omega))
local macro_rules | `(tactic| walk_at "calls") => `(tactic| first
  | (with_reducible refine' Kf.call_take ?clp ?cla ?clb ?clq; (case clp => walk_at "pool"); (case cla => walk_at "om"); (case clb => walk_at "om"); intro r H' hE h0 h1)
  | (with_reducible refine' Kf.call_pool ?cls ?cla ?clq; (case cls => walk_at "sq"); (case cla => walk_at "om"); intro p H' hE hN hP)
  | (with_reducible refine' Kf.call_turn ?cls ?clp ?cla ?clq; (case cls => walk_at "sq"); (case clp => walk_at "pool"); (case cla => walk_at "om"); intro u H' hE hP))
local macro_rules | `(tactic| walk_at "side") => `(tactic| first
  | exact Kf.cmul_fmod (by decide) (by decide)
  | exact rfl
  | decide
  | omega
  | assumption
  | (refine ⟨?_, ?_⟩ <;> decide)
  | (refine ⟨?_, ?_, ?_⟩ <;> decide)
  | (refine ⟨?_, ?_⟩ <;> omega)
  | (refine Or.inl ⟨?_, ?_⟩ <;> decide)
  | (refine Or.inr ⟨?_, ?_⟩ <;> decide)
  | (refine Or.inl ⟨?_, ?_⟩ <;> omega)
  | (refine Or.inr ⟨?_, ?_⟩ <;> omega))
local macro_rules | `(tactic| walk_at "kit") => `(tactic| first | exact Kf.isi_int_int | exact Kf.isi_int_bool | exact Kf.isi_int_str | exact Kf.isi_int_list | exact Kf.isi_int_tuple | exact Kf.isi_bool_int | exact Kf.isi_bool_bool | exact Kf.isi_bool_str | exact Kf.isi_bool_list | exact Kf.isi_bool_tuple | exact Kf.isi_str_int | exact Kf.isi_str_bool | exact Kf.isi_str_str | exact Kf.isi_str_list | exact Kf.isi_str_tuple | exact Kf.isi_non_list | exact Kf.isi_non_tuple | exact Kf.isi_list_list | exact Kf.isi_list_tuple | exact Kf.isi_tuple_list | exact Kf.isi_tuple_tuple | exact Kf.isi_dict_dict)
local macro_rules | `(tactic| walk_at "ty") => `(tactic| first
  | exact L2.TyX.base (L2.TyOf.int _)
  | exact L2.TyX.base (L2.TyOf.bl _)
  | exact L2.TyX.base (L2.TyOf.str _)
  | exact L2.TyX.base L2.TyOf.non
  | (refine' L2.TyX.base (L2.TyOf.lst ?tyh); (case tyh => walk_at "lk"))
  | (refine' L2.TyX.base (L2.TyOf.tup ?tyh); (case tyh => walk_at "lk"))
  | (refine' L2.TyX.base (L2.TyOf.dK ?tyh); (case tyh => walk_at "lk")))
local macro_rules | `(tactic| walk_at "om2") => `(tactic| first | assumption | decide | omega)
local macro_rules | `(tactic| walk_at "st") => `(tactic| with_reducible first
  | (refine Kf.w_var rfl ?_)
  | (refine Kf.w_c ?_)
  | (refine Kf.w_seq ?_)
  | (refine Kf.w_asg ?_)
  | (refine' Kf.w_gname ?sth ?_; (case sth => with_unfolding_all walk_at "set"))
  | (refine Kf.w_op ?_)
  | (refine Kf.w_un ?_)
  | (refine Kf.w_rU ?_)
  | (refine Kf.w_rI0 ?_)
  | (refine' Kf.w_rI ?sth ?_; (case sth => with_unfolding_all walk_at "side"))
  | (refine' Kf.w_rEq ?sth ?_; (case sth => with_unfolding_all rfl))
  | (refine' Kf.w_rNe ?sth ?_; (case sth => with_unfolding_all rfl))
  | (refine Kf.w_tTest ?_)
  | (refine Kf.w_tB ?_)
  | (refine Kf.w_exbl ?_)
  | (refine Kf.w_exint ?_)
  | (refine Kf.w_ifS ?_)
  | (refine Kf.w_ret ?_)
  | (refine Kf.w_retN ?_)
  | (refine Kf.w_drop ?_)
  | (refine Kf.w_and ?_)
  | (refine Kf.w_or ?_)
  | (refine Kf.w_not ?_)
  | (refine Kf.w_andV ?_)
  | (refine Kf.w_orV ?_)
  | (refine Kf.w_notV ?_)
  | (refine Kf.w_if ?_)
  | (refine Kf.w_lc ?_)
  | (refine Kf.w_for ?_)
  | (refine Kf.w_rng1 ?_)
  | (refine' Kf.w_rng1x ?sth ?stg ?_; (case sth => with_unfolding_all walk_at "om"); (case stg => with_unfolding_all walk_at "om"))
  | (refine Kf.w_ilist ?_)
  | (refine Kf.w_iseq ?_)
  | (refine Kf.w_itup ?_)
  | (refine' Kf.w_ilistx ?sth ?_; (case sth => with_unfolding_all walk_at "sq"))
  | (refine' Kf.w_itupx ?sth ?_; (case sth => with_unfolding_all walk_at "sq"))
  | (refine' Kf.w_wipe ?sth ?_; (case sth => with_unfolding_all rfl))
  | (refine Kf.w_yes ?_)
  | (refine' Kf.w_isi ?sth ?stg ?_; (case sth => with_unfolding_all walk_at "ty"); (case stg => walk_at "kit"))
  | (refine Kf.w_isN ?_)
  | (refine Kf.w_notN ?_)
  | (refine Kf.w_cb ?_)
  | (refine Kf.w_nil ?_)
  | (refine Kf.w_cons ?_)
  | (refine Kf.w_tup ?_)
  | (refine Kf.w_lst ?_)
  | (refine' Kf.w_lines ?sth ?_; (case sth => with_unfolding_all rfl))
  | (refine Kf.w_call ?_)
  | (refine Kf.w_next ?_)
  | (refine Kf.w_break ?_)
  | (refine Kf.w_cont ?_)
  | (refine Kf.w_dnewK ?_)
  | (refine Kf.w_fld ?_)
  | (refine' Kf.w_fldx ?sth ?stg ?stf ?ste ?_; (case sth => with_unfolding_all walk_at "lk"); (case stg => assumption); (case stf => assumption); (case ste => with_unfolding_all exact rfl))
  | (refine Kf.w_sfld ?_)
  | (refine' Kf.w_sfldx ?sth ?stg ?stf ?ste ?_; (case sth => with_unfolding_all walk_at "lk"); (case stg => assumption); (case stf => assumption); (case ste => with_unfolding_all exact rfl))
  | (refine Kf.w_meth ?_)
  | (refine' Kf.w_methx ?sth ?stg ?_; (case sth => with_unfolding_all walk_at "lk"); (case stg => with_unfolding_all exact rfl))
  | (refine Kf.w_ddel ?_)
  | (refine Kf.w_disp ?_)
  | (refine Kf.w_pcons ?_)
  | (refine Kf.w_pnil ?_)
  | (refine Kf.w_make ?_)
  | (refine Kf.w_sfldaug ?_)
  | (refine' Kf.w_sfldaugx ?sth ?stg ?stf ?ste ?_; (case sth => with_unfolding_all walk_at "lk"); (case stg => assumption); (case stf => assumption); (case ste => with_unfolding_all exact rfl))
  | (refine Kf.w_inadd ?_)
  | (refine Kf.w_dnotin ?_)
  | (refine Kf.w_dget1 ?_)
  | (refine' Kf.w_dgetS ?sth ?stg ?_; (case sth => with_unfolding_all walk_at "lk"); (case stg => with_unfolding_all exact rfl))
  | (refine Kf.w_ikeys ?_)
  | (refine Kf.w_dput ?_)
  | (refine Kf.w_dget2 ?_)
  | (refine Kf.w_dget ?_)
  | (refine Kf.w_sl ?_)
  | (refine Kf.w_nopart ?_)
  | (refine Kf.w_part ?_)
  | (refine Kf.w_bm ?_)
  | (refine Kf.w_bm0 ?_)
  | (refine' Kf.w_bmL ?sth ?_; (case sth => with_unfolding_all walk_at "lk"))
  | (refine' Kf.w_cat ?sth ?stg ?stf ?_; (case sth => with_unfolding_all walk_at "lk"); (case stg => with_unfolding_all walk_at "lk"); (case stf => with_unfolding_all walk_at "om"))
  | (refine' Kf.w_slL ?sth ?_; (case sth => with_unfolding_all walk_at "sq"))
  | (refine' Kf.w_inL ?sth ?_; (case sth => with_unfolding_all walk_at "sq"))
  | (refine' Kf.w_inT ?sth ?_; (case sth => with_unfolding_all walk_at "sq"))
  | (refine' Kf.w_ninL ?sth ?_; (case sth => with_unfolding_all walk_at "sq"))
  | (refine' Kf.w_ninT ?sth ?_; (case sth => with_unfolding_all walk_at "sq"))
  | (refine' Kf.w_listof ?sth ?_; (case sth => with_unfolding_all walk_at "sq"))
  | (refine' Kf.w_tupof ?sth ?_; (case sth => with_unfolding_all walk_at "sq"))
  | (refine Kf.w_listRev ?_)
  | (refine Kf.w_gsub ?_)
  | (refine' Kf.w_ixL ?sth ?stg ?_; (case sth => with_unfolding_all walk_at "sq"); (case stg => with_unfolding_all walk_at "at"))
  | (refine' Kf.w_ixT ?sth ?stg ?_; (case sth => with_unfolding_all walk_at "sq"); (case stg => with_unfolding_all walk_at "at"))
  | (refine' Kf.w_setL ?sth ?stg ?_; (case sth => with_unfolding_all walk_at "lk"); (case stg => with_unfolding_all walk_at "ixn"))
  | (refine' Kf.w_len ?sth ?_; (case sth => with_unfolding_all walk_at "sq"))
  | (refine' Kf.w_lenT ?sth ?_; (case sth => with_unfolding_all walk_at "sq"))
  | (refine Kf.w_int1 ?_)
  | (refine Kf.w_intb ?_)
  | (refine Kf.w_abs ?_)
  | (refine Kf.w_aug rfl ?_)
  | (refine Kf.w_par ?_)
  | (refine' Kf.w_gtup ?sth ?stg ?_; (case sth => with_unfolding_all walk_at "sq"); (case stg => with_unfolding_all exact rfl))
  | (refine' Kf.w_glst ?sth ?stg ?_; (case sth => with_unfolding_all walk_at "sq"); (case stg => with_unfolding_all exact rfl))
  | (refine Kf.w_rng2 ?_)
  | (refine Kf.w_rng3 ?_)
  | (refine' Kf.w_rng2x ?sth ?stg ?stf ?ste ?_; (case sth => with_unfolding_all walk_at "om"); (case stg => with_unfolding_all walk_at "om"); (case stf => with_unfolding_all walk_at "om"); (case ste => with_unfolding_all walk_at "om"))
  | (refine Kf.w_gcons ?_)
  | (refine Kf.w_gnil ?_)
  | (refine Kf.w_gcd ?_)
  | (refine Kf.w_bits ?_)
  | (refine Kf.w_two ?_)
  | (refine Kf.w_ipI ?_)
  | (refine L2.iteT ?_)
  | (refine L2.iteF ?_)
  | (refine Kf.iteNT ?_)
  | (refine Kf.iteNF ?_)
  | (refine' Kf.ite_decT ?sth ?_; (case sth => exact rfl))
  | (refine' Kf.ite_decF ?sth ?_; (case sth => with_unfolding_all (intro e; cases e; done)))
  | (refine' Kf.ite_ndecF ?sth ?_; (case sth => exact rfl))
  | (refine' Kf.ite_ndecT ?sth ?_; (case sth => with_unfolding_all (intro e; cases e; done)))
  | (refine' Kf.ite_viT ?sth ?_; (case sth => (with_unfolding_all walk_at "om2")))
  | (refine' Kf.ite_viF ?sth ?_; (case sth => (with_unfolding_all walk_at "om2")))
  | (refine' Kf.ite_nviT ?sth ?_; (case sth => (with_unfolding_all walk_at "om2")))
  | (refine' Kf.ite_nviF ?sth ?_; (case sth => (with_unfolding_all walk_at "om2")))
  | (refine' Kf.ite_decT ?sth ?_; (case sth => (with_unfolding_all walk_at "om2")))
  | (refine' Kf.ite_decF ?sth ?_; (case sth => (with_unfolding_all walk_at "om2")))
  | with_unfolding_all walk_at "calls")
local macro_rules | `(tactic| walk_at "go") => `(tactic| repeat walk_at "st")

namespace Kf
open PySem PySem.Spec PyProof.Rows L2
open R8 (RowsT cnt dg upTo ROk num bnds)
abbrev s_Trail_choose : Stmt := inClass (topS 5) 2
abbrev N_Trail_choose : List Str := ["self", "literal"]
abbrev P_Trail_choose : List Str := ["self", "literal"]
theorem sc_Trail_choose : FnScope N_Trail_choose P_Trail_choose (defScope s_Trail_choose) := ⟨rfl, rfl, rfl, by decide +kernel, rfl, by decide +kernel, by decide +kernel⟩
abbrev s_Trail_force : Stmt := inClass (topS 5) 3
abbrev N_Trail_force : List Str := ["self", "literal", "reason"]
abbrev P_Trail_force : List Str := ["self", "literal", "reason"]
theorem sc_Trail_force : FnScope N_Trail_force P_Trail_force (defScope s_Trail_force) := ⟨rfl, rfl, rfl, by decide +kernel, rfl, by decide +kernel, by decide +kernel⟩
abbrev s_Trail_level_of : Stmt := inClass (topS 5) 6
abbrev N_Trail_level_of : List Str := ["self", "literal", "row"]
abbrev P_Trail_level_of : List Str := ["self", "literal"]
theorem sc_Trail_level_of : FnScope N_Trail_level_of P_Trail_level_of (defScope s_Trail_level_of) := ⟨rfl, rfl, rfl, by decide +kernel, rfl, by decide +kernel, by decide +kernel⟩
abbrev s_Trail_literals : Stmt := inClass (topS 5) 9
abbrev N_Trail_literals : List Str := ["self"]
abbrev P_Trail_literals : List Str := ["self"]
theorem sc_Trail_literals : FnScope N_Trail_literals P_Trail_literals (defScope s_Trail_literals) := ⟨rfl, rfl, rfl, by decide +kernel, rfl, by decide +kernel, by decide +kernel⟩
abbrev s_Trail_sizes : Stmt := inClass (topS 5) 10
abbrev N_Trail_sizes : List Str := ["self", "bounds", "level"]
abbrev P_Trail_sizes : List Str := ["self"]
theorem sc_Trail_sizes : FnScope N_Trail_sizes P_Trail_sizes (defScope s_Trail_sizes) := ⟨rfl, rfl, rfl, by decide +kernel, rfl, by decide +kernel, by decide +kernel⟩
abbrev s_Trail_depth : Stmt := inClass (topS 5) 11
abbrev N_Trail_depth : List Str := ["self"]
abbrev P_Trail_depth : List Str := ["self"]
theorem sc_Trail_depth : FnScope N_Trail_depth P_Trail_depth (defScope s_Trail_depth) := ⟨rfl, rfl, rfl, by decide +kernel, rfl, by decide +kernel, by decide +kernel⟩
theorem valV_app (a b : List (Key × V)) (k : Key) : valV (a ++ b) k = (valV a k).or (valV b k) := by
  unfold valV
  rw [List.find?_append]
  cases a.find? (fun kv => decide (kv.1 = k)) <;> rfl
theorem StAt.push {H : Hp} {ks : List (Key × V)} {rows : RowsT} {lit : Int} {d : Nat} {q : Addr} {rs pl : V} (h : StAt H ks rows) (hf : ((lit.natAbs : Nat) : Int) ∉ (rows.map fun x => ((x.1.natAbs : Nat) : Int))) (hq : H q = some (.tup [.int lit, .int (d : Nat), rs, pl])) :
    StAt H (putK ks (.inl ((lit.natAbs : Nat) : Int)) (.ref q)) (rows ++ [(lit, d)]) := by
  have hn := h.2.2.1 _ hf
  refine ⟨nd_putK _ h.1 hn, by rw [putK_new _ hn, List.length_append, List.length_append, h.2.1]; rfl, fun n hn' => ?_, fun x hx => ?_⟩
  · rw [List.map_append, List.mem_append] at hn'
    rw [putK_new _ hn, valV_app, h.2.2.1 n fun z => hn' (.inl z)]
    show valV [((.inl ((lit.natAbs : Nat) : Int) : Key), V.ref q)] (.inl n) = none
    rw [valV_neg fun z => hn' (.inr (by simp; exact (Sum.inl.inj z).symm))]
    rfl
  · rw [putK_new _ hn, valV_app]
    rcases List.mem_append.mp hx with z | z
    · obtain ⟨q', rs', pl', e1, e2⟩ := h.2.2.2 x z
      rw [e1]
      exact ⟨q', rs', pl', rfl, e2⟩
    · rw [List.mem_singleton] at z
      subst z
      rw [hn]
      exact ⟨q, rs, pl, valV_pos rfl, hq⟩
/-- behind a literal more -/
theorem TrailAt.push {C : Addr} {ns : List Int} {H H' : Hp} {p k o s t m : Addr} {rows : RowsT} {dep : Nat} {lit : Int} {d : Nat} {dx q : Addr} {z : Int} {ks : List (Key × V)} {ms : List Int} (T : TrailAt C ns H p k o s t m rows dep)
    (hn : ((lit.natAbs : Nat) : Int) ∈ ns) (hf : ((lit.natAbs : Nat) : Int) ∉ (rows.map fun x => ((x.1.natAbs : Nat) : Int))) (hd : d = dep ∨ d = dep + 1)
    (hp : H' p = some (.ins C dx (fl k o s t m z))) (kp : ∀ kk, H k = some (.dK kk) → H' k = some (.dK kk)) (ho : H' o = some (.lst (((rows ++ [(lit, d)]).map (·.1)).map V.int))) (hs0 : H s = some (.dK ks)) (hs : H' s = some (.dK (putK ks (.inl ((lit.natAbs : Nat) : Int)) (.ref q))))
    (hq : ∃ rs pl, H' q = some (.tup [.int lit, .int (d : Nat), rs, pl])) (ht : H' t = some (.lst (((List.range d).map fun i => ((cnt (rows ++ [(lit, d)]) (i + 1) : Nat) : Int)).map V.int))) (hm : H' m = some (.lst (ms.map V.int))) (hml : ms.length = rows.length + 1)
    (tk : ∀ b xs, H b = some (.tup xs) → H' b = some (.tup xs)) : TrailAt C ns H' p k o s t m (rows ++ [(lit, d)]) d := by
  obtain ⟨kk, hk, hkk⟩ := T.kn
  obtain ⟨ks', hks, hst⟩ := T.st
  rw [hs0] at hks; cases hks
  obtain ⟨rs, pl, hq⟩ := hq
  exact ⟨⟨dx, z, hp⟩, ⟨kk, kp kk hk, hkk⟩, ho, ⟨_, hs, (hst.kept tk).push hf hq⟩, ht, ⟨ms, hm, by rw [List.length_append, hml]; rfl⟩, T.nk, T.n1, T.n2, T.n3, T.ok.push hn hf d hd, T.nl⟩
theorem cnt_push {rows : RowsT} {lit : Int} {d i : Nat} (h : i < d) : cnt (rows ++ [(lit, d)]) (i + 1) = cnt rows (i + 1) := by
  rw [R8.cnt_snoc, if_neg (by dsimp only; omega)]; rfl
theorem range_cnt {rows : RowsT} {lit : Int} {d e : Nat} (h : e ≤ d) : ((List.range e).map fun i => ((cnt (rows ++ [(lit, d)]) (i + 1) : Nat) : Int)) = (List.range e).map fun i => ((cnt rows (i + 1) : Nat) : Int) :=
  List.map_congr_left fun i hi => by rw [cnt_push (by have := List.mem_range.mp hi; omega)]
section
variable {P : Program} {w : World} {K : PySem.W.Frag} {mg : Str → Option Value} {base : Heap} {H : Hp} {Q : VK} {E : XK} {C : Addr}
theorem call_req {ns : List Int} {p k o s t m : Addr} {rows : RowsT} {dep : Nat} {lit : Int} (TA : TrailAt C ns H p k o s t m rows dep) (hn : ((lit.natAbs : Nat) : Int) ∈ ns) (hf : ((lit.natAbs : Nat) : Int) ∉ (rows.map fun x => ((x.1.natAbs : Nat) : Int))) (q : Q .non H) : spReq C (.ref p :: ([.int lit] ++ [])) H Q E :=
  ⟨ns, p, k, o, s, t, m, rows, dep, lit, rfl, TA, hn, hf, q⟩
theorem call_put {p dx k o s t m : Addr} {z lit : Int} {ks : List (Key × V)} {os ts ms : List V} {rs : V} (hp : H p = some (.ins C dx (fl k o s t m z))) (hs : H s = some (.dK ks)) (lk : ks.length ≤ 900) (ho : H o = some (.lst os)) (lo : os.length ≤ 900) (ht : H t = some (.lst ts)) (hm : H m = some (.lst ms)) (lm : ms.length ≤ 900) (n : o ≠ m)
    (q : ∀ q, H q = none → Q .non (upd (upd (upd (upd (upd H q (.tup [.int lit, .int (ts.length : Nat), rs, .int (os.length : Nat)])) s (.dK (putK ks (.inl ((lit.natAbs : Nat) : Int)) (.ref q)))) o (.lst (os ++ [.int lit]))) m (.lst (ms ++ [.int z]))) p (.ins C dx (fl k o s t m (z + 1))))) :
    spPut C (.ref p :: ([.int lit, rs] ++ [])) H Q E := ⟨p, dx, k, o, s, t, m, z, lit, ks, os, ts, ms, rs, rfl, hp, hs, lk, ho, lo, ht, hm, lm, n, q⟩
def spCho (C : Addr) : Sp := fun vs H Q _ => ∃ (ns : List Int) (p k o s t m : Addr) (rows : RowsT) (dep : Nat) (lit : Int), vs = [.ref p, .int lit] ∧ TrailAt C ns H p k o s t m rows dep ∧ ((lit.natAbs : Nat) : Int) ∈ ns ∧ ((lit.natAbs : Nat) : Int) ∉ (rows.map fun x => ((x.1.natAbs : Nat) : Int)) ∧
  ∀ H', Exc [p, o, s, t, m] H H' → TrailAt C ns H' p k o s t m (rows ++ [(lit, dep + 1)]) (dep + 1) → Q .non H'
theorem ok_choose (D : DfM K C "choose" "Trail.choose" s_Trail_choose P_Trail_choose) (T : TrC K C) (b_len : mg "len" = none) (p_Trail__require_open : PrM P w K mg base C "_require_open" 2 P_Trail__require_open (spReq C)) (p_Trail__put_on : PrM P w K mg base C "_put_on" 1 P_Trail__put_on (spPut C)) : PrM P w K mg base C "choose" 3 P_Trail_choose (spCho C) := by
  refine D.ok sc_Trail_choose (fun vs H Q E h => ?_) (fun f cdv A outer s H vs Q E hr h => ?_)
  · obtain ⟨ns, p, k, o, s, t, m, rows, dep, lit, rfl, _⟩ := h; rfl
  obtain ⟨ns, p, k, o, s, t, m, rows, dep, lit, rfl, TA, hn, hf, q⟩ := h
  obtain ⟨c_Trail, a1, a2, a3, a4, a5, a6⟩ := T
  obtain ⟨dx, z, hp⟩ := TA.ob
  obtain ⟨ks, hs, hst⟩ := TA.st
  obtain ⟨ms, hm, hml⟩ := TA.mm
  have ho := TA.od
  have ht := TA.ss
  have nl := TA.nl
  have rl := TA.ok.len
  have dl := TA.ok.dep_le
  have nd := sc_Trail_choose.nd
  refine ⟨_, (pss_cons (ps_expr (pe_methP p_Trail__require_open c_Trail hr (pv 0) (pa_cons (pv 1) pa_nil)))
      (pss_cons (ps_expr (pe_bmK (K := K) rfl PySem.F.plainAttrs_list PySem.F.slot_list_append PySem.F.type_list_append mt_append (pe_fldK (K := K) rfl (pv 0) rfl) (pa_cons (pe_callB (call_lenK (K := K) rfl) (by rfl) b_len PySem.boot_len (pa_cons (pe_fldK (K := K) rfl (pv 0) rfl) pa_nil)) pa_nil)))
      (pss_one (ps_expr (pe_methP p_Trail__put_on c_Trail hr (pv 0) (pa_cons (pv 1) (pa_cons pe_non pa_nil))))))), ?_⟩
  refine w_start (σ := [some _, some _]) rfl ?_
  walk_at "go"
  refine call_req TA hn hf ?_
  walk_at "go"
  have lt : (((List.range dep).map fun i => ((cnt rows (i + 1) : Nat) : Int)).map V.int).length = dep := by simp
  have lo : ((rows.map (·.1)).map V.int).length = rows.length := by simp
  refine w_append ht (small1000 (by rw [lt]; omega)) ?_
  have et : ((List.range dep).map fun i => ((cnt rows (i + 1) : Nat) : Int)).map V.int ++ [V.int (((rows.map (·.1)).map V.int).length : Nat)] = (((List.range (dep + 1)).map fun i => ((cnt (rows ++ [(lit, dep + 1)]) (i + 1) : Nat) : Int)).map V.int) := by
    rw [List.range_succ, List.map_append, List.map_append, range_cnt (by omega), lo]
    congr 1
    show _ = [V.int ((cnt (rows ++ [(lit, dep + 1)]) (dep + 1) : Nat) : Int)]
    rw [cnt_push (by omega), R8.cnt_all fun x hx => by have := TA.ok.le x hx; omega]
  rw [et]
  have npt := ne_il hp ht
  have nst := ne_dl hs ht
  have hp1 := upd_oth (u := .lst (((List.range (dep + 1)).map fun i => ((cnt (rows ++ [(lit, dep + 1)]) (i + 1) : Nat) : Int)).map V.int)) npt hp
  have hs1 := upd_oth (u := .lst (((List.range (dep + 1)).map fun i => ((cnt (rows ++ [(lit, dep + 1)]) (i + 1) : Nat) : Int)).map V.int)) nst hs
  have ho1 := upd_oth (u := .lst (((List.range (dep + 1)).map fun i => ((cnt (rows ++ [(lit, dep + 1)]) (i + 1) : Nat) : Int)).map V.int)) TA.n1 ho
  have hm1 := upd_oth (u := .lst (((List.range (dep + 1)).map fun i => ((cnt (rows ++ [(lit, dep + 1)]) (i + 1) : Nat) : Int)).map V.int)) TA.n3.symm hm
  have ht1 : upd H t (.lst (((List.range (dep + 1)).map fun i => ((cnt (rows ++ [(lit, dep + 1)]) (i + 1) : Nat) : Int)).map V.int)) t = _ := L2.upd_same
  have e1 : Exc [p, o, s, t, m] H (upd H t (.lst (((List.range (dep + 1)).map fun i => ((cnt (rows ++ [(lit, dep + 1)]) (i + 1) : Nat) : Int)).map V.int))) := Exc.refl.upd (by simp)
  have tk1 : ∀ b xs, H b = some (.tup xs) → upd H t (.lst (((List.range (dep + 1)).map fun i => ((cnt (rows ++ [(lit, dep + 1)]) (i + 1) : Nat) : Int)).map V.int)) b = some (.tup xs) := fun b xs hb => upd_oth (ne_tl hb ht) hb
  obtain ⟨kk, hk, hkk⟩ := id TA.kn
  have hk1 := upd_oth (u := .lst (((List.range (dep + 1)).map fun i => ((cnt (rows ++ [(lit, dep + 1)]) (i + 1) : Nat) : Int)).map V.int)) (ne_dl hk ht) hk
  have eto := ht1
  generalize upd H t (.lst (((List.range (dep + 1)).map fun i => ((cnt (rows ++ [(lit, dep + 1)]) (i + 1) : Nat) : Int)).map V.int)) = H1 at *
  walk_at "go"
  have lm := hml
  refine call_put hp1 hs1 (by rw [hst.2.1]; omega) ho1 (by rw [lo]; omega) ht1 hm1 (by rw [List.length_map, hml]; omega) TA.n2 fun x hx => ?_
  refine q _ ?_ ?_
  · refine Exc.upd (Exc.upd (Exc.upd (Exc.upd (Exc.new e1 hx) ?_) ?_) ?_) ?_ <;> simp
  · have lts : ((((List.range (dep + 1)).map fun i => ((cnt (rows ++ [(lit, dep + 1)]) (i + 1) : Nat) : Int)).map V.int).length : Nat) = dep + 1 := by simp
    rw [lts]
    have npx := (ne_of_none hp1 hx)
    have nsx := (ne_of_none hs1 hx)
    have nox := (ne_of_none ho1 hx)
    have nmx := (ne_of_none hm1 hx)
    have ntx := (ne_of_none ht1 hx)
    have nkx := (ne_of_none hk1 hx)
    have nps := ne_id hp hs
    have npo := ne_il hp ho
    have npm := ne_il hp hm
    have nso := ne_dl hs ho
    have nsm := ne_dl hs hm
    have npk := ne_id hp hk
    have nko := ne_dl hk ho
    have nkm := ne_dl hk hm
    refine TA.push (dx := dx) (q := x) (z := z + 1) (ks := ks) (ms := ms ++ [z]) hn hf (.inr rfl) L2.upd_same (fun kk' hk' => ?_) ?_ hs ?_ ?_ ?_ ?_ (by rw [List.length_append, hml]; rfl) (fun b xs hb => ?_)
    · rw [hk] at hk'; cases hk'
      rw [upd_ne npk.symm, upd_ne nkm, upd_ne nko, upd_ne TA.nk, upd_ne nkx]; exact hk1
    · rw [upd_ne npo.symm, upd_ne TA.n2, L2.upd_same, List.map_append, List.map_append]; rfl
    · rw [upd_ne nps.symm, upd_ne nsm, upd_ne nso, L2.upd_same]
    · exact ⟨_, _, by rw [upd_ne npx.symm, upd_ne nmx.symm, upd_ne nox.symm, upd_ne nsx.symm, L2.upd_same]⟩
    · rw [upd_ne npt.symm, upd_ne TA.n3, upd_ne TA.n1.symm, upd_ne nst.symm, upd_ne ntx]; exact eto
    · rw [upd_ne npm.symm, L2.upd_same, List.map_append]; rfl
    · have hb1 := tk1 b xs hb
      rw [upd_ne (ne_ti hb1 hp1), upd_ne (ne_tl hb1 hm1), upd_ne (ne_tl hb1 ho1), upd_ne (ne_td hb1 hs1), upd_ne (ne_of_none hb1 hx)]; exact hb1
def spFor (C : Addr) : Sp := fun vs H Q _ => ∃ (ns : List Int) (p k o s t m : Addr) (rows : RowsT) (dep : Nat) (lit : Int) (rs : V), vs = [.ref p, .int lit, rs] ∧ TrailAt C ns H p k o s t m rows dep ∧ ((lit.natAbs : Nat) : Int) ∈ ns ∧ ((lit.natAbs : Nat) : Int) ∉ (rows.map fun x => ((x.1.natAbs : Nat) : Int)) ∧
  ∀ H', Exc [p, o, s, t, m] H H' → TrailAt C ns H' p k o s t m (rows ++ [(lit, dep)]) dep → Q .non H'
theorem ok_force (D : DfM K C "force" "Trail.force" s_Trail_force P_Trail_force) (T : TrC K C) (p_Trail__require_open : PrM P w K mg base C "_require_open" 2 P_Trail__require_open (spReq C)) (p_Trail__put_on : PrM P w K mg base C "_put_on" 1 P_Trail__put_on (spPut C)) : PrM P w K mg base C "force" 3 P_Trail_force (spFor C) := by
  refine D.ok sc_Trail_force (fun vs H Q E h => ?_) (fun f cdv A outer s H vs Q E hr h => ?_)
  · obtain ⟨ns, p, k, o, s, t, m, rows, dep, lit, rs, rfl, _⟩ := h; rfl
  obtain ⟨ns, p, k, o, s, t, m, rows, dep, lit, rs, rfl, TA, hn, hf, q⟩ := h
  obtain ⟨c_Trail, a1, a2, a3, a4, a5, a6⟩ := T
  obtain ⟨dx, z, hp⟩ := TA.ob
  obtain ⟨ks, hs, hst⟩ := TA.st
  obtain ⟨ms, hm, hml⟩ := TA.mm
  have ho := TA.od
  have ht := TA.ss
  have nl := TA.nl
  have rl := TA.ok.len
  have dl := TA.ok.dep_le
  obtain ⟨kk, hk, hkk⟩ := id TA.kn
  have nd := sc_Trail_force.nd
  refine ⟨_, (pss_cons (ps_expr (pe_methP p_Trail__require_open c_Trail hr (pv 0) (pa_cons (pv 1) pa_nil)))
      (pss_one (ps_expr (pe_methP p_Trail__put_on c_Trail hr (pv 0) (pa_cons (pv 1) (pa_cons (pv 2) pa_nil)))))), ?_⟩
  refine w_start (σ := [some _, some _, some _]) rfl ?_
  walk_at "go"
  refine call_req TA hn hf ?_
  walk_at "go"
  have lo : ((rows.map (·.1)).map V.int).length = rows.length := by simp
  refine call_put hp hs (by rw [hst.2.1]; omega) ho (by rw [lo]; omega) ht hm (by rw [List.length_map, hml]; omega) TA.n2 fun x hx => ?_
  refine q _ ?_ ?_
  · refine Exc.upd (Exc.upd (Exc.upd (Exc.upd (Exc.new Exc.refl hx) ?_) ?_) ?_) ?_ <;> simp
  · have lts : ((((List.range dep).map fun i => ((cnt rows (i + 1) : Nat) : Int)).map V.int).length : Nat) = dep := by simp
    rw [lts]
    have npx := (ne_of_none hp hx)
    have nsx := (ne_of_none hs hx)
    have nox := (ne_of_none ho hx)
    have nmx := (ne_of_none hm hx)
    have ntx := (ne_of_none ht hx)
    have nkx := (ne_of_none hk hx)
    have nps := ne_id hp hs
    have npo := ne_il hp ho
    have npm := ne_il hp hm
    have npt := ne_il hp ht
    have nst := ne_dl hs ht
    have nso := ne_dl hs ho
    have nsm := ne_dl hs hm
    have npk := ne_id hp hk
    have nko := ne_dl hk ho
    have nkm := ne_dl hk hm
    refine TA.push (dx := dx) (q := x) (z := z + 1) (ks := ks) (ms := ms ++ [z]) hn hf (.inl rfl) L2.upd_same (fun kk' hk' => ?_) ?_ hs ?_ ?_ ?_ ?_ (by rw [List.length_append, hml]; rfl) (fun b xs hb => ?_)
    · rw [hk] at hk'; cases hk'
      rw [upd_ne npk.symm, upd_ne nkm, upd_ne nko, upd_ne TA.nk, upd_ne nkx]; exact hk
    · rw [upd_ne npo.symm, upd_ne TA.n2, L2.upd_same, List.map_append, List.map_append]; rfl
    · rw [upd_ne nps.symm, upd_ne nsm, upd_ne nso, L2.upd_same]
    · exact ⟨_, _, by rw [upd_ne npx.symm, upd_ne nmx.symm, upd_ne nox.symm, upd_ne nsx.symm, L2.upd_same]⟩
    · rw [upd_ne npt.symm, upd_ne TA.n3, upd_ne TA.n1.symm, upd_ne nst.symm, upd_ne ntx, range_cnt (Nat.le_refl _)]; exact ht
    · rw [upd_ne npm.symm, L2.upd_same, List.map_append]; rfl
    · rw [upd_ne (ne_ti hb hp), upd_ne (ne_tl hb hm), upd_ne (ne_tl hb ho), upd_ne (ne_td hb hs), upd_ne (ne_of_none hb hx)]; exact hb
def spLev (C : Addr) : Sp := fun vs H Q _ => ∃ (ns : List Int) (p k o s t m : Addr) (rows : RowsT) (dep : Nat) (lit : Int) (x : Int × Nat), vs = [.ref p, .int lit] ∧ TrailAt C ns H p k o s t m rows dep ∧ x ∈ rows ∧ x.1.natAbs = lit.natAbs ∧ Q (.int (x.2 : Nat)) H
theorem ok_level_of (D : DfM K C "level_of" "Trail.level_of" s_Trail_level_of P_Trail_level_of) (T : TrC K C) (p_Trail__row_of : PrM P w K mg base C "_row_of" 1 P_Trail__row_of (spRow C)) : PrM P w K mg base C "level_of" 2 P_Trail_level_of (spLev C) := by
  refine D.ok sc_Trail_level_of (fun vs H Q E h => ?_) (fun f cdv A outer s H vs Q E hr h => ?_)
  · obtain ⟨ns, p, k, o, s, t, m, rows, dep, lit, x, rfl, _⟩ := h; rfl
  obtain ⟨ns, p, k, o, s, t, m, rows, dep, lit, x, rfl, TA, hx, e, q⟩ := h
  obtain ⟨c_Trail, a1, a2, a3, a4, a5, a6⟩ := T
  obtain ⟨dx, z, hp⟩ := TA.ob
  have nd := sc_Trail_level_of.nd
  refine ⟨_, (pss_cons (ps_set (i := 2) nd rfl (Or.inl rfl) (pe_methP p_Trail__row_of c_Trail hr (pv 0) (pa_cons (pv 1) pa_nil)))
      (pss_cons (ps_if (pt_cmp (pc_isN (pv 2))) (pss_one (ps_ret pe_non)) pss_nil)
      (pss_one (ps_ret (pe_ix (ix_tupK (K := K) rfl) (pv 2) pe_int (fun _ _ => rfl)))))), ?_⟩
  refine w_start (σ := [some _, some _, none]) rfl ?_
  walk_at "go"
  refine call_row_some TA hx e fun a rs pl ha => ?_
  walk_at "go"
  exact q
def spLit (C : Addr) : Sp := fun vs H Q _ => ∃ (ns : List Int) (p k o s t m : Addr) (rows : RowsT) (dep : Nat), vs = [.ref p] ∧ TrailAt C ns H p k o s t m rows dep ∧ ∀ a, H a = none → Q (.ref a) (upd H a (.lst ((rows.map (·.1)).map V.int)))
theorem ok_literals (D : DfM K C "literals" "Trail.literals" s_Trail_literals P_Trail_literals) (T : TrC K C) (b_list : mg "list" = none) : PrM P w K mg base C "literals" 1 P_Trail_literals (spLit C) := by
  refine D.ok sc_Trail_literals (fun vs H Q E h => ?_) (fun f cdv A outer s H vs Q E hr h => ?_)
  · obtain ⟨ns, p, k, o, s, t, m, rows, dep, rfl, _⟩ := h; rfl
  obtain ⟨ns, p, k, o, s, t, m, rows, dep, rfl, TA, q⟩ := h
  obtain ⟨c_Trail, a1, a2, a3, a4, a5, a6⟩ := T
  obtain ⟨dx, z, hp⟩ := TA.ob
  have ho := TA.od
  have nd := sc_Trail_literals.nd
  refine ⟨_, (pss_one (ps_ret (pe_callTy (call_list_ofK (K := K) rfl) (by rfl) b_list (by decide +kernel) (pa_cons (pe_fldK (K := K) rfl (pv 0) rfl) pa_nil)))), ?_⟩
  refine w_start (σ := [some _]) rfl ?_
  walk_at "go"
  exact fun a ha => q a ha
def spDep (C : Addr) : Sp := fun vs H Q _ => ∃ (ns : List Int) (p k o s t m : Addr) (rows : RowsT) (dep : Nat), vs = [.ref p] ∧ TrailAt C ns H p k o s t m rows dep ∧ Q (.int (dep : Nat)) H
theorem ok_depth (D : DfM K C "depth" "Trail.depth" s_Trail_depth P_Trail_depth) (T : TrC K C) (b_len : mg "len" = none) : PrM P w K mg base C "depth" 1 P_Trail_depth (spDep C) := by
  refine D.ok sc_Trail_depth (fun vs H Q E h => ?_) (fun f cdv A outer s H vs Q E hr h => ?_)
  · obtain ⟨ns, p, k, o, s, t, m, rows, dep, rfl, _⟩ := h; rfl
  obtain ⟨ns, p, k, o, s, t, m, rows, dep, rfl, TA, q⟩ := h
  obtain ⟨c_Trail, a1, a2, a3, a4, a5, a6⟩ := T
  obtain ⟨dx, z, hp⟩ := TA.ob
  have ht := TA.ss
  have lt : (((List.range dep).map fun i => ((cnt rows (i + 1) : Nat) : Int)).map V.int).length = dep := by simp
  have nd := sc_Trail_depth.nd
  refine ⟨_, (pss_one (ps_ret (pe_callB (call_lenK (K := K) rfl) (by rfl) b_len PySem.boot_len (pa_cons (pe_fldK (K := K) rfl (pv 0) rfl) pa_nil)))), ?_⟩
  refine w_start (σ := [some _]) rfl ?_
  walk_at "go"
  rw [lt]
  exact q
def spSiz (C : Addr) : Sp := fun vs H Q _ => ∃ (ns : List Int) (p k o s t m : Addr) (rows : RowsT) (dep : Nat), vs = [.ref p] ∧ TrailAt C ns H p k o s t m rows dep ∧ ∀ a H', H a = none → Ext H H' → H' a = some (.lst (((List.range (dep + 1)).map fun i => ((dg rows i : Nat) : Int)).map V.int)) → Q (.ref a) H'
theorem ok_sizes (D : DfM K C "sizes" "Trail.sizes" s_Trail_sizes P_Trail_sizes) (T : TrC K C) (b_len : mg "len" = none) (b_range : mg "range" = none) : PrM P w K mg base C "sizes" 1 P_Trail_sizes (spSiz C) := by
  refine D.ok sc_Trail_sizes (fun vs H Q E h => ?_) (fun f cdv A outer s H vs Q E hr h => ?_)
  · obtain ⟨ns, p, k, o, s, t, m, rows, dep, rfl, _⟩ := h; rfl
  obtain ⟨ns, p, k, o, s, t, m, rows, dep, rfl, TA, q⟩ := h
  obtain ⟨c_Trail, a1, a2, a3, a4, a5, a6⟩ := T
  obtain ⟨dx, z, hp⟩ := TA.ob
  have ho := TA.od
  have ht := TA.ss
  have nl := TA.nl
  have rl := TA.ok.len
  have dl := TA.ok.dep_le
  have lt : (((List.range dep).map fun i => ((cnt rows (i + 1) : Nat) : Int)).map V.int).length = dep := by simp
  have lo : ((rows.map (·.1)).map V.int).length = rows.length := by simp
  have nd := sc_Trail_sizes.nd
  refine ⟨_, (pss_cons (ps_set (i := 1) nd rfl (Or.inr rfl) (pe_op op_cat (pe_op op_cat (pe_lst (pa_cons pe_int pa_nil)) (pe_fldK (K := K) rfl (pv 0) rfl)) (pe_lst (pa_cons (pe_callB (call_lenK (K := K) rfl) (by rfl) b_len PySem.boot_len (pa_cons (pe_fldK (K := K) rfl (pv 0) rfl) pa_nil)) pa_nil))))
      (pss_one (ps_ret (pe_lc (own := [("level", 2)]) rfl nd (pi_range1 (by rfl) b_range (pa_cons (pe_op op_sub (pe_callB (call_lenK (K := K) rfl) (by rfl) b_len PySem.boot_len (pa_cons (pv 1) pa_nil)) pe_int) pa_nil)) (blkOk_by (N := N_Trail_sizes) (sc := defScope s_Trail_sizes) (by decide +kernel)) (fun _ _ _ _ _ => pg_name (i := 2) nd rfl (Or.inl rfl)) (fun _ _ _ _ _ => pts_nil) (fun _ _ _ _ _ => (pe_op op_sub (pe_ix (ix_listK (K := K) rfl) (pv 1) (pe_op op_add (pv 2) pe_int) (fun _ _ => rfl)) (pe_ix (ix_listK (K := K) rfl) (pv 1) (pv 2) (fun _ _ => rfl)))))))), ?_⟩
  refine w_start (σ := [some _, none, none]) rfl ?_
  walk_at "go"
  intro b1 hb1
  have ht1 := upd_old (u := .lst [.int 0]) hb1 ht
  have hp1 := upd_old (u := .lst [.int 0]) hb1 hp
  have ho1 := upd_old (u := .lst [.int 0]) hb1 ho
  walk_at "go"
  intro b2 hb2
  walk_at "go"
  intro b3 hb3
  have h2 : upd (upd H b1 (.lst [.int 0])) b2 (.lst ([V.int 0] ++ ((List.range dep).map fun i => ((cnt rows (i + 1) : Nat) : Int)).map V.int)) b2 = some (.lst ([V.int 0] ++ ((List.range dep).map fun i => ((cnt rows (i + 1) : Nat) : Int)).map V.int)) := L2.upd_same
  have h2' := upd_old (u := .lst [.int (((rows.map (·.1)).map V.int).length : Nat)]) hb3 h2
  refine w_cat h2' L2.upd_same (by rw [List.length_append, lt]; simp; omega) fun b4 hb4 => ?_
  have eb : ([V.int 0] ++ ((List.range dep).map fun i => ((cnt rows (i + 1) : Nat) : Int)).map V.int) ++ [V.int (((rows.map (·.1)).map V.int).length : Nat)] = (bnds rows dep).map V.int := by
    unfold R8.bnds
    rw [lo, List.map_append, List.map_cons]; rfl
  rw [eb]
  have eE : Ext H (upd (upd (upd (upd H b1 (.lst [.int 0])) b2 (.lst ([V.int 0] ++ ((List.range dep).map fun i => ((cnt rows (i + 1) : Nat) : Int)).map V.int))) b3 (.lst [.int (((rows.map (·.1)).map V.int).length : Nat)])) b4 (.lst ((bnds rows dep).map V.int))) := (((Ext.new hb1).newer hb2).newer hb3).newer hb4
  have h4 : upd (upd (upd (upd H b1 (.lst [.int 0])) b2 (.lst ([V.int 0] ++ ((List.range dep).map fun i => ((cnt rows (i + 1) : Nat) : Int)).map V.int))) b3 (.lst [.int (((rows.map (·.1)).map V.int).length : Nat)])) b4 (.lst ((bnds rows dep).map V.int)) b4 = some (.lst ((bnds rows dep).map V.int)) := L2.upd_same
  generalize upd (upd (upd (upd H b1 (.lst [.int 0])) b2 (.lst ([V.int 0] ++ ((List.range dep).map fun i => ((cnt rows (i + 1) : Nat) : Int)).map V.int))) b3 (.lst [.int (((rows.map (·.1)).map V.int).length : Nat)])) b4 (.lst ((bnds rows dep).map V.int)) = H4 at *
  have bl := R8.bnds_len rows dep
  have hbl : ((bnds rows dep).map V.int).length = dep + 2 := by rw [List.length_map, bl]
  walk_at "go"
  have en : (((((bnds rows dep).map V.int).length : Nat) : Int) - 1).toNat = dep + 1 := by rw [hbl]; omega
  rw [en]
  refine lc_r (R := fun i acc Hd => acc = (((List.range i).map fun i => ((dg rows i : Nat) : Int)).map V.int)) rfl (fun _ _ _ _ e h => h) ?_ ?_
  · rintro i acc D2 H5 hi hD2 hacc hE rfl
    have h5 := hE.get h4 (npl_ints _)
    have at1 : atI ((bnds rows dep).map V.int) (0 + (i : Int)) = some (.int ((cnt rows i : Nat) : Int)) := by
      rw [Int.zero_add]
      refine atI_nat ?_
      rw [List.getElem?_map, R8.bnds_at TA.ok.le (by omega)]; rfl
    have at2 : atI ((bnds rows dep).map V.int) (0 + (i : Int) + 1) = some (.int ((cnt rows (i + 1) : Nat) : Int)) := by
      rw [Int.zero_add, show (i : Int) + 1 = ((i + 1 : Nat) : Int) from rfl]
      refine atI_nat ?_
      rw [List.getElem?_map, R8.bnds_at TA.ok.le (by omega)]; rfl
    walk_at "go"
    have es : ((cnt rows (i + 1) : Nat) : Int) - ((cnt rows i : Nat) : Int) = ((dg rows i : Nat) : Int) := by rw [R8.cnt_succ]; omega
    rw [es]
    refine LcP.put hD2 hacc (npl_ints _) hE Ext.refl (by simp; omega) ?_
    rw [List.range_succ, List.map_append, List.map_append]; rfl
  · rintro D2 acc H5 hD2 hacc hE rfl
    exact q D2 H5 (eE.non hD2) (eE.trans hE) hacc
end
end Kf

end
section
set_option Elab.async false
set_option linter.all false
set_option maxRecDepth 100000
set_option maxHeartbeats 4000000
local macro_rules | `(tactic| walk_at "npl") => `(tactic| first | exact Kf.npl rfl | exact Kf.npl_ints _ | exact Kf.npl_one _ _ | exact Kf.npl_refs _ | assumption)
local macro_rules | `(tactic| walk_at "nn") => `(tactic| first
  | assumption
  | (refine' Kf.Ext.non ?nne ?nnh; (case nne => assumption); (case nnh => walk_at "nn")))
local macro_rules | `(tactic| walk_at "ext") => `(tactic| first
  | assumption
  | exact Kf.Ext.refl
  | (refine' Kf.Ext.newer ?exa ?exn; (case exn => assumption); (case exa => walk_at "ext"))
  | (refine' Kf.Ext.own ?exa ?exn; (case exn => walk_at "nn"); (case exa => walk_at "ext"))
  | (refine' Kf.Ext.trans ?exa ?exb; (case exb => assumption); (case exa => walk_at "ext")))
local macro_rules | `(tactic| walk_at "pool") => `(tactic| first
  | assumption
  | (refine' Kf.PoolAt.ext ?plh ?ple; (case plh => assumption); (case ple => walk_at "ext"))
  | (refine' Kf.PoolAt.upd ?plh ?plo ?pln; (case plo => assumption); (case pln => walk_at "npl"); (case plh => walk_at "pool")))
local macro_rules | `(tactic| walk_at "lk") => `(tactic| first
  | assumption
  | exact L2.upd_same
  | (refine' Kf.upd_old ?lkn ?lkh; (case lkn => assumption); (case lkh => walk_at "lk"))
  | (refine' Kf.upd_oth ?lkn ?lkh; (case lkn => (first | assumption | (apply Ne.symm; assumption))); (case lkh => walk_at "lk"))
  | (refine' Kf.Ext.get ?lke ?lkh ?lkn; (case lke => assumption); (case lkh => walk_at "lk"); (case lkn => walk_at "npl"))
  | (refine' L2.Same.at ?lke ?lkh; (case lke => assumption); (case lkh => walk_at "lk")))
local macro_rules | `(tactic| walk_at "sq") => `(tactic| first
  | assumption
  | (refine' L2.SqL.of ?sqh; (case sqh => walk_at "lk"))
  | (refine' L2.SqT.of ?sqh; (case sqh => walk_at "lk"))
  | (refine' Kf.Ext.seqL ?sqe ?sqh ?sqn; (case sqh => assumption); (case sqe => walk_at "ext"); (case sqn => walk_at "npl"))
  | (refine' Kf.Ext.seqT ?sqe ?sqh; (case sqh => assumption); (case sqe => walk_at "ext")))
local macro_rules | `(tactic| walk_at "at") => `(tactic| first | exact L2.atI_nat (j := 0) rfl | exact L2.atI_nat (j := 1) rfl | exact L2.atI_nat (j := 2) rfl | exact L2.atI_nat (j := 3) rfl | exact L2.atI_nat (j := 4) rfl | assumption)
local macro_rules | `(tactic| walk_at "ixn") => `(tactic| first | exact Kf.ixN_nat (j := 0) rfl | exact Kf.ixN_nat (j := 1) rfl | exact Kf.ixN_nat (j := 2) rfl | exact Kf.ixN_nat (j := 3) rfl | assumption)
local macro_rules | `(tactic| walk_at "set") => `(tactic| (first | (simp only [List.set_cons_succ, List.set_cons_zero]; rfl) | rfl))
local macro_rules | `(tactic| walk_at "om") => `(tactic| first | decide | omega | (simp only [List.length_map, List.length_cons, List.length_nil] at *; omega))
local macro_rules | `(tactic| walk_at "calls") => `(tactic| first
  | (with_reducible refine' Kf.call_take ?clp ?cla ?clb ?clq; (case clp => walk_at "pool"); (case cla => walk_at "om"); (case clb => walk_at "om"); intro r H' hE h0 h1)
  | (with_reducible refine' Kf.call_pool ?cls ?cla ?clq; (case cls => walk_at "sq"); (case cla => walk_at "om"); intro p H' hE hN hP)
  | (with_reducible refine' Kf.call_turn ?cls ?clp ?cla ?clq; (case cls => walk_at "sq"); (case clp => walk_at "pool"); (case cla => walk_at "om"); intro u H' hE hP))
local macro_rules | `(tactic| walk_at "side") => `(tactic| first
  | exact Kf.cmul_fmod (by decide) (by decide)
  | exact rfl
  | decide
  | omega
  | assumption
  | (refine ⟨?_, ?_⟩ <;> decide)
  | (refine ⟨?_, ?_, ?_⟩ <;> decide)
  | (refine ⟨?_, ?_⟩ <;> omega)
  | (refine Or.inl ⟨?_, ?_⟩ <;> decide)
  | (refine Or.inr ⟨?_, ?_⟩ <;> decide)
  | (refine Or.inl ⟨?_, ?_⟩ <;> omega)
  | (refine Or.inr ⟨?_, ?_⟩ <;> omega))
local macro_rules | `(tactic| walk_at "kit") => `(tactic| first | exact Kf.isi_int_int | exact Kf.isi_int_bool | exact Kf.isi_int_str | exact Kf.isi_int_list | exact Kf.isi_int_tuple | exact Kf.isi_bool_int | exact Kf.isi_bool_bool | exact Kf.isi_bool_str | exact Kf.isi_bool_list | exact Kf.isi_bool_tuple | exact Kf.isi_str_int | exact Kf.isi_str_bool | exact Kf.isi_str_str | exact Kf.isi_str_list | exact Kf.isi_str_tuple | exact Kf.isi_non_list | exact Kf.isi_non_tuple | exact Kf.isi_list_list | exact Kf.isi_list_tuple | exact Kf.isi_tuple_list | exact Kf.isi_tuple_tuple | exact Kf.isi_dict_dict)
local macro_rules | `(tactic| walk_at "ty") => `(tactic| first
  | exact L2.TyX.base (L2.TyOf.int _)
  | exact L2.TyX.base (L2.TyOf.bl _)
  | exact L2.TyX.base (L2.TyOf.str _)
  | exact L2.TyX.base L2.TyOf.non
  | (refine' L2.TyX.base (L2.TyOf.lst ?tyh); (case tyh => walk_at "lk"))
  | (refine' L2.TyX.base (L2.TyOf.tup ?tyh); (case tyh => walk_at "lk"))
  | (refine' L2.TyX.base (L2.TyOf.dK ?tyh); (case tyh => walk_at "lk")))
local macro_rules | `(tactic| walk_at "om2") => `(tactic| first | assumption | decide | omega)
local macro_rules | `(tactic| walk_at "st") => `(tactic| with_reducible first
  | (refine Kf.w_var rfl ?_)
  | (refine Kf.w_c ?_)
  | (refine Kf.w_seq ?_)
  | (refine Kf.w_asg ?_)
  | (refine' Kf.w_gname ?sth ?_; (case sth => with_unfolding_all walk_at "set"))
  | (refine Kf.w_op ?_)
  | (refine Kf.w_un ?_)
  | (refine Kf.w_rU ?_)
  | (refine Kf.w_rI0 ?_)
  | (refine' Kf.w_rI ?sth ?_; (case sth => with_unfolding_all walk_at "side"))
  | (refine' Kf.w_rEq ?sth ?_; (case sth => with_unfolding_all rfl))
  | (refine' Kf.w_rNe ?sth ?_; (case sth => with_unfolding_all rfl))
  | (refine Kf.w_tTest ?_)
  | (refine Kf.w_tB ?_)
  | (refine Kf.w_exbl ?_)
  | (refine Kf.w_exint ?_)
  | (refine Kf.w_ifS ?_)
  | (refine Kf.w_ret ?_)
  | (refine Kf.w_retN ?_)
  | (refine Kf.w_drop ?_)
  | (refine Kf.w_and ?_)
  | (refine Kf.w_or ?_)
  | (refine Kf.w_not ?_)
  | (refine Kf.w_andV ?_)
  | (refine Kf.w_orV ?_)
  | (refine Kf.w_notV ?_)
  | (refine Kf.w_if ?_)
  | (refine Kf.w_lc ?_)
  | (refine Kf.w_for ?_)
  | (refine Kf.w_rng1 ?_)
  | (refine' Kf.w_rng1x ?sth ?stg ?_; (case sth => with_unfolding_all walk_at "om"); (case stg => with_unfolding_all walk_at "om"))
  | (refine Kf.w_ilist ?_)
  | (refine Kf.w_iseq ?_)
  | (refine Kf.w_itup ?_)
  | (refine' Kf.w_ilistx ?sth ?_; (case sth => with_unfolding_all walk_at "sq"))
  | (refine' Kf.w_itupx ?sth ?_; (case sth => with_unfolding_all walk_at "sq"))
  | (refine' Kf.w_wipe ?sth ?_; (case sth => with_unfolding_all rfl))
  | (refine Kf.w_yes ?_)
  | (refine' Kf.w_isi ?sth ?stg ?_; (case sth => with_unfolding_all walk_at "ty"); (case stg => walk_at "kit"))
  | (refine Kf.w_isN ?_)
  | (refine Kf.w_notN ?_)
  | (refine Kf.w_cb ?_)
  | (refine Kf.w_nil ?_)
  | (refine Kf.w_cons ?_)
  | (refine Kf.w_tup ?_)
  | (refine Kf.w_lst ?_)
  | (refine' Kf.w_lines ?sth ?_; (case sth => with_unfolding_all rfl))
  | (refine Kf.w_call ?_)
  | (refine Kf.w_next ?_)
  | (refine Kf.w_break ?_)
  | (refine Kf.w_cont ?_)
  | (refine Kf.w_dnewK ?_)
  | (refine Kf.w_fld ?_)
  | (refine' Kf.w_fldx ?sth ?stg ?stf ?ste ?_; (case sth => with_unfolding_all walk_at "lk"); (case stg => assumption); (case stf => assumption); (case ste => with_unfolding_all exact rfl))
  | (refine Kf.w_sfld ?_)
  | (refine' Kf.w_sfldx ?sth ?stg ?stf ?ste ?_; (case sth => with_unfolding_all walk_at "lk"); (case stg => assumption); (case stf => assumption); (case ste => with_unfolding_all exact rfl))
  | (refine Kf.w_meth ?_)
  | (refine' Kf.w_methx ?sth ?stg ?_; (case sth => with_unfolding_all walk_at "lk"); (case stg => with_unfolding_all exact rfl))
  | (refine Kf.w_ddel ?_)
  | (refine Kf.w_disp ?_)
  | (refine Kf.w_pcons ?_)
  | (refine Kf.w_pnil ?_)
  | (refine Kf.w_make ?_)
  | (refine Kf.w_sfldaug ?_)
  | (refine' Kf.w_sfldaugx ?sth ?stg ?stf ?ste ?_; (case sth => with_unfolding_all walk_at "lk"); (case stg => assumption); (case stf => assumption); (case ste => with_unfolding_all exact rfl))
  | (refine Kf.w_inadd ?_)
  | (refine Kf.w_dnotin ?_)
  | (refine Kf.w_dget1 ?_)
  | (refine' Kf.w_dgetS ?sth ?stg ?_; (case sth => with_unfolding_all walk_at "lk"); (case stg => with_unfolding_all exact rfl))
  | (refine Kf.w_ikeys ?_)
  | (refine Kf.w_dput ?_)
  | (refine Kf.w_dget2 ?_)
  | (refine Kf.w_dget ?_)
  | (refine Kf.w_sl ?_)
  | (refine Kf.w_nopart ?_)
  | (refine Kf.w_part ?_)
  | (refine Kf.w_bm ?_)
  | (refine Kf.w_bm0 ?_)
  | (refine' Kf.w_bmL ?sth ?_; (case sth => with_unfolding_all walk_at "lk"))
  | (refine' Kf.w_cat ?sth ?stg ?stf ?_; (case sth => with_unfolding_all walk_at "lk"); (case stg => with_unfolding_all walk_at "lk"); (case stf => with_unfolding_all walk_at "om"))
  | (refine' Kf.w_slL ?sth ?_; (case sth => with_unfolding_all walk_at "sq"))
  | (refine' Kf.w_inL ?sth ?_; (case sth => with_unfolding_all walk_at "sq"))
  | (refine' Kf.w_inT ?sth ?_; (case sth => with_unfolding_all walk_at "sq"))
  | (refine' Kf.w_ninL ?sth ?_; (case sth => with_unfolding_all walk_at "sq"))
  | (refine' Kf.w_ninT ?sth ?_; (case sth => with_unfolding_all walk_at "sq"))
  | (refine' Kf.w_listof ?sth ?_; (case sth => with_unfolding_all walk_at "sq"))
  | (refine' Kf.w_tupof ?sth ?_; (case sth => with_unfolding_all walk_at "sq"))
  | (refine Kf.w_listRev ?_)
  | (refine Kf.w_gsub ?_)
  | (refine' Kf.w_ixL ?sth ?stg ?_; (case sth => with_unfolding_all walk_at "sq"); (case stg => with_unfolding_all walk_at "at"))
  | (refine' Kf.w_ixT ?sth ?stg ?_; (case sth => with_unfolding_all walk_at "sq"); (case stg => with_unfolding_all walk_at "at"))
  | (refine' Kf.w_setL ?sth ?stg ?_; (case sth => with_unfolding_all walk_at "lk"); (case stg => with_unfolding_all walk_at "ixn"))
  | (refine' Kf.w_len ?sth ?_; (case sth => with_unfolding_all walk_at "sq"))
  | (refine' Kf.w_lenT ?sth ?_; (case sth => with_unfolding_all walk_at "sq"))
  | (refine Kf.w_int1 ?_)
  | (refine Kf.w_intb ?_)
  | (refine Kf.w_abs ?_)
  | (refine Kf.w_aug rfl ?_)
  | (refine Kf.w_par ?_)
  | (refine' Kf.w_gtup ?sth ?stg ?_; (case sth => with_unfolding_all walk_at "sq"); (case stg => with_unfolding_all exact rfl))
  | (refine' Kf.w_glst ?sth ?stg ?_; (case sth => with_unfolding_all walk_at "sq"); (case stg => with_unfolding_all exact rfl))
  | (refine Kf.w_rng2 ?_)
  | (refine Kf.w_rng3 ?_)
  | (refine' Kf.w_rng2x ?sth ?stg ?stf ?ste ?_; (case sth => with_unfolding_all walk_at "om"); (case stg => with_unfolding_all walk_at "om"); (case stf => with_unfolding_all walk_at "om"); (case ste => with_unfolding_all walk_at "om"))
  | (refine Kf.w_gcons ?_)
  | (refine Kf.w_gnil ?_)
  | (refine Kf.w_gcd ?_)
  | (refine Kf.w_bits ?_)
  | (refine Kf.w_two ?_)
  | (refine Kf.w_ipI ?_)
  | (refine L2.iteT ?_)
  | (refine L2.iteF ?_)
  | (refine Kf.iteNT ?_)
  | (refine Kf.iteNF ?_)
  | (refine' Kf.ite_decT ?sth ?_; (case sth => exact rfl))
  | (refine' Kf.ite_decF ?sth ?_; (case sth => with_unfolding_all (intro e; cases e; done)))
  | (refine' Kf.ite_ndecF ?sth ?_; (case sth => exact rfl))
  | (refine' Kf.ite_ndecT ?sth ?_; (case sth => with_unfolding_all (intro e; cases e; done)))
  | (refine' Kf.ite_viT ?sth ?_; (case sth => (with_unfolding_all walk_at "om2")))
  | (refine' Kf.ite_viF ?sth ?_; (case sth => (with_unfolding_all walk_at "om2")))
  | (refine' Kf.ite_nviT ?sth ?_; (case sth => (with_unfolding_all walk_at "om2")))
  | (refine' Kf.ite_nviF ?sth ?_; (case sth => (with_unfolding_all walk_at "om2")))
  | (refine' Kf.ite_decT ?sth ?_; (case sth => (with_unfolding_all walk_at "om2")))
  | (refine' Kf.ite_decF ?sth ?_; (case sth => (with_unfolding_all walk_at "om2")))
  | with_unfolding_all walk_at "calls")
local macro_rules | `(tactic| walk_at "go") => `(tactic| repeat walk_at "st")

namespace Kf
open PySem PySem.Spec PyProof.Rows L2
open R8 (RowsT cnt dg upTo ROk num bnds)
abbrev s_Trail_back : Stmt := inClass (topS 5) 4
abbrev N_Trail_back : List Str := ["self", "level", "start", "literal"]
abbrev P_Trail_back : List Str := ["self", "level"]
theorem sc_Trail_back : FnScope N_Trail_back P_Trail_back (defScope s_Trail_back) := ⟨rfl, rfl, rfl, by decide +kernel, rfl, by decide +kernel, by decide +kernel⟩
abbrev s_Trail___init__ : Stmt := inClass (topS 5) 0
abbrev N_Trail___init__ : List Str := ["self", "nodes", "node"]
abbrev P_Trail___init__ : List Str := ["self", "nodes"]
theorem sc_Trail___init__ : FnScope N_Trail___init__ P_Trail___init__ (defScope s_Trail___init__) := ⟨rfl, rfl, rfl, by decide +kernel, rfl, by decide +kernel, by decide +kernel⟩
theorem cut_from {xs : List V} {n : Nat} (h : n ≤ xs.length) : cutV xs (some (n : Int)) none = xs.drop n := by
  unfold cutV
  rw [HT.sIx_nat, HT.sIx_none, Nat.min_eq_left h, List.take_of_length_le (by rw [List.length_drop]; exact Nat.le_refl _)]
theorem cut_to {xs : List V} {n : Nat} (h : n ≤ xs.length) : cutV xs none (some (n : Int)) = xs.take n := by
  unfold cutV
  rw [HT.sIx_nat, HT.sIx_none, Nat.min_eq_left h, List.drop_zero, Nat.sub_zero]
theorem valV_dropK {k k' : Key} : ∀ {kvs : List (Key × V)}, valV (dropK kvs k) k' = if k' = k then none else valV kvs k'
  | [] => by split <;> rfl
  | p :: r => by
    by_cases e : p.1 = k
    · rw [dropK_pos e, valV_dropK]
      by_cases z : k' = k
      · rw [if_pos z, if_pos z]
      · rw [if_neg z, if_neg z]
        obtain ⟨a, b⟩ := p
        rw [valV_neg fun y => z (by rw [← y]; exact e)]
    · rw [dropK_neg e]
      obtain ⟨a, b⟩ := p
      by_cases z : k' = k
      · rw [if_pos z, valV_neg fun y => e (by rw [← z]; exact y), valV_dropK, if_pos z]
      · rw [if_neg z]
        by_cases y : a = k'
        · rw [valV_pos y, valV_pos y]
        · rw [valV_neg y, valV_neg y, valV_dropK, if_neg z]
theorem valV_mem {k : Key} {v : V} : ∀ {kvs : List (Key × V)}, valV kvs k = some v → k ∈ kvs.map (·.1)
  | [], h => by cases h
  | (a, b) :: r, h => by
    by_cases e : a = k
    · subst e; simp
    · rw [valV_neg e] at h
      exact List.mem_cons_of_mem _ (valV_mem h)
theorem StAt.drop {H : Hp} {ks : List (Key × V)} {A B : RowsT} {x : Int × Nat} (h : StAt H ks (A ++ x :: B)) (nd : ((A ++ x :: B).map fun x => x.1.natAbs).Nodup) : StAt H (dropK ks (.inl ((x.1.natAbs : Nat) : Int))) (A ++ B) := by
  obtain ⟨q, rs, pl, e1, e2⟩ := h.2.2.2 x (by simp)
  have hl := dropK_len h.1 (valV_mem e1)
  refine ⟨nd_dropK h.1, by rw [h.2.1] at hl; simp at hl ⊢; omega, fun n hn => ?_, fun y hy => ?_⟩
  · rw [valV_dropK]
    split
    · rfl
    · rename_i z
      refine h.2.2.1 n fun m => ?_
      obtain ⟨y, hy, e⟩ := List.mem_map.mp m
      rcases List.mem_append.mp hy with u | u
      · exact hn (List.mem_map.mpr ⟨y, by simp [u], e⟩)
      · rcases List.mem_cons.mp u with u | u
        · subst u; exact z (by rw [← e])
        · exact hn (List.mem_map.mpr ⟨y, by simp [u], e⟩)
  · have hy' : y ∈ A ++ x :: B := by
      rcases List.mem_append.mp hy with u | u
      · simp [u]
      · simp [u]
    obtain ⟨q', rs', pl', e1', e2'⟩ := h.2.2.2 y hy'
    refine ⟨q', rs', pl', ?_, e2'⟩
    rw [valV_dropK, if_neg fun z => ?_]
    · exact e1'
    · have ne : y.1.natAbs = x.1.natAbs := by have := Sum.inl.inj z; omega
      rw [List.map_append, List.map_cons] at nd
      have nd2 := List.nodup_append.mp nd
      rcases List.mem_append.mp hy with u | u
      · exact nd2.2.2 _ (List.mem_map.mpr ⟨y, u, rfl⟩) _ (by simp) ne
      · exact (List.nodup_cons.mp nd2.2.1).1 (by rw [← ne]; exact List.mem_map.mpr ⟨y, u, rfl⟩)
section
variable {P : Program} {w : World} {K : PySem.W.Frag} {mg : Str → Option Value} {base : Heap} {H : Hp} {Q : VK} {E : XK} {C : Addr}
def spBack (C : Addr) : Sp := fun vs H Q _ => ∃ (ns : List Int) (p k o s t m : Addr) (rows : RowsT) (dep l : Nat), vs = [.ref p, .int (l : Nat)] ∧ TrailAt C ns H p k o s t m rows dep ∧ l < dep ∧
  ∀ H' o' t' m', H o' = none → H t' = none → H m' = none → Exc [p, o, s, t, m] H H' → TrailAt C ns H' p k o' s t' m' (upTo rows l) l → Q .non H'
theorem ok_back (D : DfM K C "back" "Trail.back" s_Trail_back P_Trail_back) (T : TrC K C) (b_len : mg "len" = none) (b_abs : mg "abs" = none) : PrM P w K mg base C "back" 1 P_Trail_back (spBack C) := by
  refine D.ok sc_Trail_back (fun vs H Q E h => ?_) (fun f cdv A outer s H vs Q E hr h => ?_)
  · obtain ⟨ns, p, k, o, s, t, m, rows, dep, l, rfl, _⟩ := h; rfl
  obtain ⟨ns, p, k, o, s, t, m, rows, dep, l, rfl, TA, hl, q⟩ := h
  obtain ⟨c_Trail, a1, a2, a3, a4, a5, a6⟩ := T
  obtain ⟨dx, z, hp⟩ := TA.ob
  obtain ⟨ks, hs, hst⟩ := TA.st
  obtain ⟨ms, hm, hml⟩ := TA.mm
  obtain ⟨kk, hk, hkk⟩ := id TA.kn
  have ho := TA.od
  have ht := TA.ss
  have nl := TA.nl
  have rl := TA.ok.len
  have dl := TA.ok.dep_le
  have lt : (((List.range dep).map fun i => ((cnt rows (i + 1) : Nat) : Int)).map V.int).length = dep := by simp
  have lo : ((rows.map (·.1)).map V.int).length = rows.length := by simp
  have cl := R8.cnt_le rows (l + 1)
  have nd := sc_Trail_back.nd
  have hat : atI (((List.range dep).map fun i => ((cnt rows (i + 1) : Nat) : Int)).map V.int) (l : Int) = some (.int ((cnt rows (l + 1) : Nat) : Int)) := by
    refine atI_nat ?_
    rw [List.getElem?_map, List.getElem?_map, List.getElem?_range hl]; rfl
  have hge : ¬ ((((((List.range dep).map fun i => ((cnt rows (i + 1) : Nat) : Int)).map V.int).length : Nat) : Int) ≤ (l : Int)) := by rw [lt]; omega
  refine ⟨_, (pss_cons (ps_if (pt_cmpR op_ge (pv 1) (pe_callB (call_lenK (K := K) rfl) (by rfl) b_len PySem.boot_len (pa_cons (pe_fldK (K := K) rfl (pv 0) rfl) pa_nil)) (nomark _)) (pss_one (ps_retN)) pss_nil)
      (pss_cons (ps_set (i := 2) nd rfl (Or.inl rfl) (pe_ix (ix_listK (K := K) rfl) (pe_fldK (K := K) rfl (pv 0) rfl) (pv 1) (fun _ _ => rfl)))
      (pss_cons (ps_for PassesOwn.never rfl (pi_listK (K := K) rfl (pe_slice (sl_listK (K := K) rfl) (pe_fldK (K := K) rfl (pv 0) rfl) (po_some (pv 2)) po_none)) (pg_name (i := 3) nd rfl (Or.inl rfl)) (pss_one (ps_ddel (pe_fldK (K := K) rfl (pv 0) rfl) (pe_callB call_abs (by rfl) b_abs (by decide +kernel) (pa_cons (pv 3) pa_nil)))))
      (pss_cons (ps_fldK (K := K) rfl (pv 0) (pe_slice (sl_listK (K := K) rfl) (pe_fldK (K := K) rfl (pv 0) rfl) po_none (po_some (pv 2))) rfl)
      (pss_cons (ps_fldK (K := K) rfl (pv 0) (pe_slice (sl_listK (K := K) rfl) (pe_fldK (K := K) rfl (pv 0) rfl) po_none (po_some (pv 2))) rfl)
      (pss_one (ps_fldK (K := K) rfl (pv 0) (pe_slice (sl_listK (K := K) rfl) (pe_fldK (K := K) rfl (pv 0) rfl) po_none (po_some (pv 1))) rfl))))))), ?_⟩
  refine w_start (σ := [some _, some _, none, none]) rfl ?_
  walk_at "go"
  intro b1 hb1
  rw [cut_from (by rw [lo]; exact cl)]
  generalize hst0 : cnt rows (l + 1) = st at *
  have hel : ∀ i, i < rows.length - st → ∃ x, rows.drop (st + i) = x :: rows.drop (st + i + 1) ∧ (((rows.map (·.1)).map V.int).drop st)[i]? = some (.int x.1) := fun i hi => by
    have hlt : st + i < rows.length := by omega
    refine ⟨rows[st + i], List.drop_eq_getElem_cons hlt, ?_⟩
    rw [List.getElem?_drop, List.getElem?_map, List.getElem?_map, List.getElem?_eq_getElem hlt]; rfl
  have hdl : (((rows.map (·.1)).map V.int).drop st).length = rows.length - st := by rw [List.length_drop, lo]
  have eE : Ext H (upd H b1 (.lst (((rows.map (·.1)).map V.int).drop st))) := Ext.new hb1
  have hp1 := eE.get hp (npl rfl)
  have hk1 := eE.get hk (npl rfl)
  have hs1 := eE.get hs (npl rfl)
  have ho1 := eE.get ho (npl_ints _)
  have ht1 := eE.get ht (npl_ints _)
  have hm1 := eE.get hm (npl_ints _)
  have hb1' : upd H b1 (.lst (((rows.map (·.1)).map V.int).drop st)) b1 = some (.lst (((rows.map (·.1)).map V.int).drop st)) := L2.upd_same
  have hst1 : StAt (upd H b1 (.lst (((rows.map (·.1)).map V.int).drop st))) ks rows := hst.kept fun b xs hb => eE.get hb (npl rfl)
  have npb : ¬ Pl (.lst (((rows.map (·.1)).map V.int).drop st)) := by rw [← List.map_drop]; exact npl_ints _
  have hx1 : ∀ b, upd H b1 (.lst (((rows.map (·.1)).map V.int).drop st)) b = none → H b = none := fun b hb => eE.non hb
  generalize upd H b1 (.lst (((rows.map (·.1)).map V.int).drop st)) = H1 at *
  have nps := ne_id hp1 hs1
  have npo := ne_il hp1 ho1
  have npt := ne_il hp1 ht1
  have npm := ne_il hp1 hm1
  have npk := ne_id hp1 hk1
  have nso := ne_dl hs1 ho1
  have nst := ne_dl hs1 ht1
  have nsm := ne_dl hs1 hm1
  have nsb := ne_dl hs1 hb1'
  have nko := ne_dl hk1 ho1
  have nkt := ne_dl hk1 ht1
  have nkm := ne_dl hk1 hm1
  have nks := TA.nk
  have not_ := TA.n1
  have nom := TA.n2
  have ntm := TA.n3
  walk_at "go"
  refine for_list (K := K) (a := b1) (xs := ((rows.map (·.1)).map V.int).drop st) (fun i σ H' => ∃ (y : Option V) (kj : List (Key × V)), σ = [some (.ref p), some (.int (l : Nat)), some (.int (st : Nat)), y] ∧ Exc [s] H1 H' ∧ H' s = some (.dK kj) ∧ StAt H' kj (rows.take st ++ rows.drop (st + i)))
    ⟨_, ks, rfl, Exc.refl, hs1, by rw [Nat.add_zero, List.take_append_drop]; exact hst1⟩ (fun i σ H' _ ⟨_, _, _, e, _⟩ => SqL.of (e.get hb1' (by simpa using nsb.symm) npb)) ?_ ?_
  · rintro i y σ H2 hy ⟨y1, kj, rfl, e2, hs2, st2⟩
    have il := (List.getElem?_eq_some_iff.mp hy).1
    obtain ⟨x, ed, ey⟩ := hel i (by omega)
    rw [ey] at hy; cases hy
    have hp2 := e2.get hp1 (by simpa using nps) (npl rfl)
    rw [ed] at st2
    have ndr : ((rows.take st ++ x :: rows.drop (st + i + 1)).map fun x => x.1.natAbs).Nodup := by
      have h1 : (rows.take st ++ x :: rows.drop (st + i + 1)).Sublist rows := by
        rw [← ed]
        have e0 : rows.take st ++ rows.drop st = rows := List.take_append_drop st rows
        have h2 : (rows.drop (st + i)).Sublist (rows.drop st) := by
          rw [← List.drop_drop]; exact List.drop_sublist _ _
        calc (rows.take st ++ rows.drop (st + i)).Sublist (rows.take st ++ rows.drop st) := List.Sublist.append (List.Sublist.refl _) h2
          _ = rows := e0
      exact TA.ok.nd.sublist (h1.map _)
    obtain ⟨q', rs, pl, e1', _⟩ := st2.2.2.2 x (by simp)
    walk_at "go"
    refine ⟨s, kj, .inl ((x.1.natAbs : Nat) : Int), rfl, hs2, by rw [abs_if]; rfl, by rw [e1']; rfl, ?_⟩
    refine ⟨_, _, rfl, e2.upd (by simp), L2.upd_same, ?_⟩
    have st3 := st2.drop ndr
    exact st3.kept fun b xs hb => upd_oth (ne_td hb hs2) hb
  · rintro σ H2 ⟨y1, kj, rfl, e2, hs2, st2⟩
    rw [hdl] at st2
    have e0 : rows.drop (st + (rows.length - st)) = [] := by rw [List.drop_eq_nil_iff]; omega
    have er : rows.take st = upTo rows l := by rw [← hst0]; exact R8.take_upTo TA.ok.srt
    rw [e0, List.append_nil, er] at st2
    have hp2 := e2.get hp1 (by simpa using nps) (npl rfl)
    have hk2 := e2.get hk1 (by simpa using nks) (npl rfl)
    have ho2 := e2.get ho1 (by simpa using nso.symm) (npl_ints _)
    have ht2 := e2.get ht1 (by simpa using nst.symm) (npl_ints _)
    have hm2 := e2.get hm1 (by simpa using nsm.symm) (npl_ints _)
    have nnew : ∀ b, H2 b = none → H b = none := fun b hb => by
      have hbs : b ≠ s := fun z => by subst z; rw [hs2] at hb; cases hb
      exact hx1 b (e2.non (by simpa using hbs) hb)
    walk_at "go"
    intro o' ho'
    have eo : cutV ((rows.map (·.1)).map V.int) none (some (st : Nat)) = ((upTo rows l).map (·.1)).map V.int := by rw [cut_to (by rw [lo]; omega), ← List.map_take, ← List.map_take, er]
    have em : cutV (ms.map V.int) none (some (st : Nat)) = (ms.take st).map V.int := by rw [cut_to (by rw [List.length_map]; omega), List.map_take]
    have et : cutV (((List.range dep).map fun i => ((cnt rows (i + 1) : Nat) : Int)).map V.int) none (some (l : Nat)) = (((List.range l).map fun i => ((cnt (upTo rows l) (i + 1) : Nat) : Int)).map V.int) := by
      rw [cut_to (by rw [lt]; omega), ← List.map_take, ← List.map_take, List.take_range, Nat.min_eq_left (by omega)]
      congr 1
      exact List.map_congr_left fun i hi => by rw [R8.cnt_upTo _ _ _ (by have := List.mem_range.mp hi; omega)]
    rw [eo]
    have hp3 := upd_old (u := .lst (((upTo rows l).map (·.1)).map V.int)) ho' hp2
    have hno := nnew o' ho'
    walk_at "go"
    rw [fl_o]
    have hp4 : upd (upd H2 o' (.lst (((upTo rows l).map (·.1)).map V.int))) p (.ins C dx (fl k o' s t m z)) p = some (.ins C dx (fl k o' s t m z)) := L2.upd_same
    have npo' : p ≠ o' := (ne_of_none hp2 ho')
    have ho4 : upd (upd H2 o' (.lst (((upTo rows l).map (·.1)).map V.int))) p (.ins C dx (fl k o' s t m z)) o' = some (.lst (((upTo rows l).map (·.1)).map V.int)) := upd_oth npo'.symm L2.upd_same
    have hk4 := upd_oth (u := .ins C dx (fl k o' s t m z)) npk.symm (upd_old (u := .lst (((upTo rows l).map (·.1)).map V.int)) ho' hk2)
    have ht4 := upd_oth (u := .ins C dx (fl k o' s t m z)) npt.symm (upd_old (u := .lst (((upTo rows l).map (·.1)).map V.int)) ho' ht2)
    have hm4 := upd_oth (u := .ins C dx (fl k o' s t m z)) npm.symm (upd_old (u := .lst (((upTo rows l).map (·.1)).map V.int)) ho' hm2)
    have hs4 := upd_oth (u := .ins C dx (fl k o' s t m z)) nps.symm (upd_old (u := .lst (((upTo rows l).map (·.1)).map V.int)) ho' hs2)
    have st4 : StAt (upd (upd H2 o' (.lst (((upTo rows l).map (·.1)).map V.int))) p (.ins C dx (fl k o' s t m z))) kj (upTo rows l) := st2.kept fun b xs hb => upd_oth (ne_ti hb hp2) (upd_old ho' hb)
    have e4 : Exc [p, o, s, t, m] H1 (upd (upd H2 o' (.lst (((upTo rows l).map (·.1)).map V.int))) p (.ins C dx (fl k o' s t m z))) := ((e2.mono (by simp)).new ho').upd (by simp)
    have n4 : ∀ b, upd (upd H2 o' (.lst (((upTo rows l).map (·.1)).map V.int))) p (.ins C dx (fl k o' s t m z)) b = none → H b = none := fun b hb => by
      have h1 : b ≠ p := fun z => by subst z; rw [L2.upd_same] at hb; cases hb
      have h2 : b ≠ o' := fun z => by subst z; rw [upd_ne h1, L2.upd_same] at hb; cases hb
      rw [upd_ne h1, upd_ne h2] at hb
      exact nnew b hb
    generalize upd (upd H2 o' (.lst (((upTo rows l).map (·.1)).map V.int))) p (.ins C dx (fl k o' s t m z)) = H4 at *
    walk_at "go"
    intro m' hm'
    rw [em]
    have hp5 := upd_old (u := .lst ((ms.take st).map V.int)) hm' hp4
    have hnm := n4 m' hm'
    walk_at "go"
    rw [fl_m]
    have npm' : p ≠ m' := (ne_of_none hp4 hm')
    have nom' : o' ≠ m' := (ne_of_none ho4 hm')
    have hp6 : upd (upd H4 m' (.lst ((ms.take st).map V.int))) p (.ins C dx (fl k o' s t m' z)) p = some (.ins C dx (fl k o' s t m' z)) := L2.upd_same
    have hm6 : upd (upd H4 m' (.lst ((ms.take st).map V.int))) p (.ins C dx (fl k o' s t m' z)) m' = some (.lst ((ms.take st).map V.int)) := upd_oth npm'.symm L2.upd_same
    have hk6 := upd_oth (u := .ins C dx (fl k o' s t m' z)) npk.symm (upd_old (u := .lst ((ms.take st).map V.int)) hm' hk4)
    have ht6 := upd_oth (u := .ins C dx (fl k o' s t m' z)) npt.symm (upd_old (u := .lst ((ms.take st).map V.int)) hm' ht4)
    have ho6 := upd_oth (u := .ins C dx (fl k o' s t m' z)) npo'.symm (upd_old (u := .lst ((ms.take st).map V.int)) hm' ho4)
    have hs6 := upd_oth (u := .ins C dx (fl k o' s t m' z)) nps.symm (upd_old (u := .lst ((ms.take st).map V.int)) hm' hs4)
    have st6 : StAt (upd (upd H4 m' (.lst ((ms.take st).map V.int))) p (.ins C dx (fl k o' s t m' z))) kj (upTo rows l) := st4.kept fun b xs hb => upd_oth (ne_ti hb hp4) (upd_old hm' hb)
    have e6 : Exc [p, o, s, t, m] H1 (upd (upd H4 m' (.lst ((ms.take st).map V.int))) p (.ins C dx (fl k o' s t m' z))) := (e4.new hm').upd (by simp)
    have n6 : ∀ b, upd (upd H4 m' (.lst ((ms.take st).map V.int))) p (.ins C dx (fl k o' s t m' z)) b = none → H b = none := fun b hb => by
      have h1 : b ≠ p := fun z => by subst z; rw [L2.upd_same] at hb; cases hb
      have h2 : b ≠ m' := fun z => by subst z; rw [upd_ne h1, L2.upd_same] at hb; cases hb
      rw [upd_ne h1, upd_ne h2] at hb
      exact n4 b hb
    generalize upd (upd H4 m' (.lst ((ms.take st).map V.int))) p (.ins C dx (fl k o' s t m' z)) = H6 at *
    walk_at "go"
    intro t' ht'
    rw [et]
    have hp7 := upd_old (u := .lst (((List.range l).map fun i => ((cnt (upTo rows l) (i + 1) : Nat) : Int)).map V.int)) ht' hp6
    have hnt := n6 t' ht'
    walk_at "go"
    rw [fl_t]
    have npt' : p ≠ t' := (ne_of_none hp6 ht')
    have not' : o' ≠ t' := (ne_of_none ho6 ht')
    have nmt' : m' ≠ t' := (ne_of_none hm6 ht')
    refine q _ o' t' m' hno hnt hnm ?_ ?_
    · exact (Exc.of eE).trans ((e6.new ht').upd (by simp))
    · refine ⟨⟨dx, z, L2.upd_same⟩, ⟨kk, upd_oth npk.symm (upd_old ht' hk6), hkk⟩, upd_oth npo'.symm (upd_old ht' ho6), ⟨kj, upd_oth nps.symm (upd_old ht' hs6), st6.kept fun b xs hb => upd_oth (ne_ti hb hp6) (upd_old ht' hb)⟩,
        upd_oth npt'.symm L2.upd_same, ⟨ms.take st, upd_oth npm'.symm (upd_old ht' hm6), ?_⟩, nks, not', nom', nmt'.symm, TA.ok.upTo (by omega), nl⟩
      rw [← er, List.length_take, List.length_take, hml]
def spInit (C : Addr) : Sp := fun vs H Q _ => ∃ (ns : List Int) (p dx na : Addr), vs = [.ref p, .ref na] ∧ H p = some (.ins C dx []) ∧ H na = some (.lst (ns.map V.int)) ∧ ns.length ≤ 200 ∧
  ∀ H' k o s t m, H k = none → H o = none → H s = none → H t = none → H m = none → Exc [p] H H' → TrailAt C ns H' p k o s t m [] 0 → Q .non H'
theorem ok_init (D : DfI K mg C "Trail" "Trail.__init__" s_Trail___init__ P_Trail___init__) (T : TrC K C) : PrI P w K mg base C "Trail" 1 P_Trail___init__ (spInit C) := by
  refine D.ok sc_Trail___init__ (fun vs H Q E h => ?_) (fun f cdv A outer s H vs Q E hr h => ?_)
  · obtain ⟨ns, p, dx, na, rfl, _⟩ := h; rfl
  obtain ⟨ns, p, dx, na, rfl, hp, hna, hl, q⟩ := h
  obtain ⟨c_Trail, a1, a2, a3, a4, a5, a6⟩ := T
  have nd := sc_Trail___init__.nd
  refine ⟨_, (pss_cons (ps_fldK (K := K) rfl (pv 0) (pe_dc (own := [("node", 2)]) rfl nd (pi_listK (K := K) rfl (pv 1)) (blkOk_by (N := N_Trail___init__) (sc := defScope s_Trail___init__) (by decide +kernel)) (fun _ _ _ _ _ => pg_name (i := 2) nd rfl (Or.inl rfl)) (fun _ _ _ _ _ => pts_nil) (fun _ _ _ _ _ => (pv 2)) (fun _ _ _ _ _ => pe_bl)) rfl)
      (pss_cons (ps_fldK (K := K) rfl (pv 0) (pe_lst pa_nil) rfl)
      (pss_cons (ps_fldK (K := K) rfl (pv 0) pe_dnewK rfl)
      (pss_cons (ps_fldK (K := K) rfl (pv 0) (pe_lst pa_nil) rfl)
      (pss_cons (ps_fldK (K := K) rfl (pv 0) (pe_lst pa_nil) rfl)
      (pss_one (ps_fldK (K := K) rfl (pv 0) pe_int rfl))))))), ?_⟩
  refine w_start (σ := [some _, some _, none]) rfl ?_
  walk_at "go"
  refine w_dc ?_
  walk_at "go"
  intro k hk
  have nak := ne_of_none hna hk
  have npk := ne_of_none hp hk
  refine dc_list (K := K) (a := na) (xs := ns.map V.int) (fun i H' => ∃ kk, H' = upd H k (.dK kk) ∧ kk.length ≤ i ∧ ∀ n ∈ ns.take i, (valV kk (.inl n)).isSome = true) ⟨[], rfl, Nat.le_refl _, by simp⟩ ?_ ?_ ?_
  · rintro i H' hi ⟨kk, rfl, _⟩
    exact SqL.of (upd_old hk hna)
  · rintro i x H' hx ⟨kk, rfl, hkl, hkk⟩
    rw [List.getElem?_map] at hx
    obtain ⟨n, en, rfl⟩ := Option.map_eq_some_iff.mp hx
    have il := (List.getElem?_eq_some_iff.mp en).1
    walk_at "go"
    refine ⟨kk, .inl n, rfl, L2.upd_same, small1000 (by omega), putK kk (.inl n) (.bl true), ?_, ?_, ?_⟩
    · funext b
      by_cases hb : b = k
      · subst hb; rw [L2.upd_same, L2.upd_same]
      · rw [upd_ne hb, upd_ne hb, upd_ne hb]
    · have := length_putK kk (.inl n) (.bl true); omega
    · intro n' hn'
      rw [valV_put]
      split
      · rfl
      · rename_i z
        rw [List.take_add_one, en] at hn'
        rcases List.mem_append.mp hn' with u | u
        · exact hkk n' u
        · have : n' = n := by simpa using u
          subst this
          exact absurd rfl z
  · rintro H' ⟨kk, rfl, hkl, hkk⟩
    rw [List.length_map, List.take_length] at hkk
    have hp1 := upd_old (u := .dK kk) hk hp
    have hk1 : upd H k (.dK kk) k = some (.dK kk) := L2.upd_same
    have e1 : Exc [p] H (upd H k (.dK kk)) := Exc.new Exc.refl hk
    have n1 : ∀ b, upd H k (.dK kk) b = none → H b = none := fun b hb => by
      have h2 : b ≠ k := fun z => by subst z; rw [L2.upd_same] at hb; cases hb
      rwa [upd_ne h2] at hb
    generalize upd H k (.dK kk) = H1 at *
    walk_at "go"
    have hp2 : upd H1 p (.ins C dx (putF ("_known" : Str) (V.ref k) [])) p = some (.ins C dx [(("_known" : Str), V.ref k)]) := L2.upd_same
    have hk2 : upd H1 p (.ins C dx (putF ("_known" : Str) (V.ref k) [])) k = some (.dK kk) := upd_oth npk.symm hk1
    have e2 : Exc [p] H (upd H1 p (.ins C dx (putF ("_known" : Str) (V.ref k) []))) := e1.upd (by simp)
    have n2 : ∀ b, upd H1 p (.ins C dx (putF ("_known" : Str) (V.ref k) [])) b = none → H b = none := fun b hb => by
      have h1 : b ≠ p := fun z => by subst z; rw [L2.upd_same] at hb; cases hb
      rw [upd_ne h1] at hb
      exact n1 b hb
    generalize upd H1 p (.ins C dx (putF ("_known" : Str) (V.ref k) [])) = H2 at *
    intro o hon
    have npo : p ≠ o := ne_of_none hp2 hon
    have hfo := n2 o hon
    have hpp2 := upd_old (u := (.lst [] : HO)) hon hp2
    walk_at "go"
    have nko : k ≠ o := ne_of_none hk2 hon
    have hp3 : upd (upd H2 o (.lst [])) p (.ins C dx (putF ("_order" : Str) (V.ref o) [(("_known" : Str), V.ref k)])) p = some (.ins C dx [(("_known" : Str), V.ref k), (("_order" : Str), V.ref o)]) := L2.upd_same
    have ho3 : upd (upd H2 o (.lst [])) p (.ins C dx (putF ("_order" : Str) (V.ref o) [(("_known" : Str), V.ref k)])) o = some (.lst []) := upd_oth npo.symm L2.upd_same
    have hk3 : upd (upd H2 o (.lst [])) p (.ins C dx (putF ("_order" : Str) (V.ref o) [(("_known" : Str), V.ref k)])) k = some (.dK kk) := upd_oth npk.symm (upd_old hon hk2)
    have e3 : Exc [p] H (upd (upd H2 o (.lst [])) p (.ins C dx (putF ("_order" : Str) (V.ref o) [(("_known" : Str), V.ref k)]))) := (e2.new hon).upd (by simp)
    have n3 : ∀ b, upd (upd H2 o (.lst [])) p (.ins C dx (putF ("_order" : Str) (V.ref o) [(("_known" : Str), V.ref k)])) b = none → H b = none := fun b hb => by
      have h1 : b ≠ p := fun z => by subst z; rw [L2.upd_same] at hb; cases hb
      have h2 : b ≠ o := fun z => by subst z; rw [upd_ne h1, L2.upd_same] at hb; cases hb
      rw [upd_ne h1, upd_ne h2] at hb
      exact n2 b hb
    generalize upd (upd H2 o (.lst [])) p (.ins C dx (putF ("_order" : Str) (V.ref o) [(("_known" : Str), V.ref k)])) = H3 at *
    walk_at "go"
    intro s hsn
    have nps : p ≠ s := ne_of_none hp3 hsn
    have hfs := n3 s hsn
    have hpp3 := upd_old (u := (.dK [] : HO)) hsn hp3
    walk_at "go"
    have nks : k ≠ s := ne_of_none hk3 hsn
    have nos : o ≠ s := ne_of_none ho3 hsn
    have hp4 : upd (upd H3 s (.dK [])) p (.ins C dx (putF ("_state" : Str) (V.ref s) [(("_known" : Str), V.ref k), (("_order" : Str), V.ref o)])) p = some (.ins C dx [(("_known" : Str), V.ref k), (("_order" : Str), V.ref o), (("_state" : Str), V.ref s)]) := L2.upd_same
    have hs4 : upd (upd H3 s (.dK [])) p (.ins C dx (putF ("_state" : Str) (V.ref s) [(("_known" : Str), V.ref k), (("_order" : Str), V.ref o)])) s = some (.dK []) := upd_oth nps.symm L2.upd_same
    have hk4 : upd (upd H3 s (.dK [])) p (.ins C dx (putF ("_state" : Str) (V.ref s) [(("_known" : Str), V.ref k), (("_order" : Str), V.ref o)])) k = some (.dK kk) := upd_oth npk.symm (upd_old hsn hk3)
    have ho4 : upd (upd H3 s (.dK [])) p (.ins C dx (putF ("_state" : Str) (V.ref s) [(("_known" : Str), V.ref k), (("_order" : Str), V.ref o)])) o = some (.lst []) := upd_oth npo.symm (upd_old hsn ho3)
    have e4 : Exc [p] H (upd (upd H3 s (.dK [])) p (.ins C dx (putF ("_state" : Str) (V.ref s) [(("_known" : Str), V.ref k), (("_order" : Str), V.ref o)]))) := (e3.new hsn).upd (by simp)
    have n4 : ∀ b, upd (upd H3 s (.dK [])) p (.ins C dx (putF ("_state" : Str) (V.ref s) [(("_known" : Str), V.ref k), (("_order" : Str), V.ref o)])) b = none → H b = none := fun b hb => by
      have h1 : b ≠ p := fun z => by subst z; rw [L2.upd_same] at hb; cases hb
      have h2 : b ≠ s := fun z => by subst z; rw [upd_ne h1, L2.upd_same] at hb; cases hb
      rw [upd_ne h1, upd_ne h2] at hb
      exact n3 b hb
    generalize upd (upd H3 s (.dK [])) p (.ins C dx (putF ("_state" : Str) (V.ref s) [(("_known" : Str), V.ref k), (("_order" : Str), V.ref o)])) = H4 at *
    walk_at "go"
    intro t htn
    have npt : p ≠ t := ne_of_none hp4 htn
    have hft := n4 t htn
    have hpp4 := upd_old (u := (.lst [] : HO)) htn hp4
    walk_at "go"
    have nkt : k ≠ t := ne_of_none hk4 htn
    have not_ : o ≠ t := ne_of_none ho4 htn
    have nst : s ≠ t := ne_of_none hs4 htn
    have hp5 : upd (upd H4 t (.lst [])) p (.ins C dx (putF ("_starts" : Str) (V.ref t) [(("_known" : Str), V.ref k), (("_order" : Str), V.ref o), (("_state" : Str), V.ref s)])) p = some (.ins C dx [(("_known" : Str), V.ref k), (("_order" : Str), V.ref o), (("_state" : Str), V.ref s), (("_starts" : Str), V.ref t)]) := L2.upd_same
    have ht5 : upd (upd H4 t (.lst [])) p (.ins C dx (putF ("_starts" : Str) (V.ref t) [(("_known" : Str), V.ref k), (("_order" : Str), V.ref o), (("_state" : Str), V.ref s)])) t = some (.lst []) := upd_oth npt.symm L2.upd_same
    have hk5 : upd (upd H4 t (.lst [])) p (.ins C dx (putF ("_starts" : Str) (V.ref t) [(("_known" : Str), V.ref k), (("_order" : Str), V.ref o), (("_state" : Str), V.ref s)])) k = some (.dK kk) := upd_oth npk.symm (upd_old htn hk4)
    have ho5 : upd (upd H4 t (.lst [])) p (.ins C dx (putF ("_starts" : Str) (V.ref t) [(("_known" : Str), V.ref k), (("_order" : Str), V.ref o), (("_state" : Str), V.ref s)])) o = some (.lst []) := upd_oth npo.symm (upd_old htn ho4)
    have hs5 : upd (upd H4 t (.lst [])) p (.ins C dx (putF ("_starts" : Str) (V.ref t) [(("_known" : Str), V.ref k), (("_order" : Str), V.ref o), (("_state" : Str), V.ref s)])) s = some (.dK []) := upd_oth nps.symm (upd_old htn hs4)
    have e5 : Exc [p] H (upd (upd H4 t (.lst [])) p (.ins C dx (putF ("_starts" : Str) (V.ref t) [(("_known" : Str), V.ref k), (("_order" : Str), V.ref o), (("_state" : Str), V.ref s)]))) := (e4.new htn).upd (by simp)
    have n5 : ∀ b, upd (upd H4 t (.lst [])) p (.ins C dx (putF ("_starts" : Str) (V.ref t) [(("_known" : Str), V.ref k), (("_order" : Str), V.ref o), (("_state" : Str), V.ref s)])) b = none → H b = none := fun b hb => by
      have h1 : b ≠ p := fun z => by subst z; rw [L2.upd_same] at hb; cases hb
      have h2 : b ≠ t := fun z => by subst z; rw [upd_ne h1, L2.upd_same] at hb; cases hb
      rw [upd_ne h1, upd_ne h2] at hb
      exact n4 b hb
    generalize upd (upd H4 t (.lst [])) p (.ins C dx (putF ("_starts" : Str) (V.ref t) [(("_known" : Str), V.ref k), (("_order" : Str), V.ref o), (("_state" : Str), V.ref s)])) = H5 at *
    walk_at "go"
    intro m hmn
    have npm : p ≠ m := ne_of_none hp5 hmn
    have hfm := n5 m hmn
    have hpp5 := upd_old (u := (.lst [] : HO)) hmn hp5
    walk_at "go"
    have nkm : k ≠ m := ne_of_none hk5 hmn
    have nom : o ≠ m := ne_of_none ho5 hmn
    have nsm : s ≠ m := ne_of_none hs5 hmn
    have ntm : t ≠ m := ne_of_none ht5 hmn
    have hp6 : upd (upd H5 m (.lst [])) p (.ins C dx (putF ("_stamps" : Str) (V.ref m) [(("_known" : Str), V.ref k), (("_order" : Str), V.ref o), (("_state" : Str), V.ref s), (("_starts" : Str), V.ref t)])) p = some (.ins C dx [(("_known" : Str), V.ref k), (("_order" : Str), V.ref o), (("_state" : Str), V.ref s), (("_starts" : Str), V.ref t), (("_stamps" : Str), V.ref m)]) := L2.upd_same
    have hm6 : upd (upd H5 m (.lst [])) p (.ins C dx (putF ("_stamps" : Str) (V.ref m) [(("_known" : Str), V.ref k), (("_order" : Str), V.ref o), (("_state" : Str), V.ref s), (("_starts" : Str), V.ref t)])) m = some (.lst []) := upd_oth npm.symm L2.upd_same
    have hk6 : upd (upd H5 m (.lst [])) p (.ins C dx (putF ("_stamps" : Str) (V.ref m) [(("_known" : Str), V.ref k), (("_order" : Str), V.ref o), (("_state" : Str), V.ref s), (("_starts" : Str), V.ref t)])) k = some (.dK kk) := upd_oth npk.symm (upd_old hmn hk5)
    have ho6 : upd (upd H5 m (.lst [])) p (.ins C dx (putF ("_stamps" : Str) (V.ref m) [(("_known" : Str), V.ref k), (("_order" : Str), V.ref o), (("_state" : Str), V.ref s), (("_starts" : Str), V.ref t)])) o = some (.lst []) := upd_oth npo.symm (upd_old hmn ho5)
    have hs6 : upd (upd H5 m (.lst [])) p (.ins C dx (putF ("_stamps" : Str) (V.ref m) [(("_known" : Str), V.ref k), (("_order" : Str), V.ref o), (("_state" : Str), V.ref s), (("_starts" : Str), V.ref t)])) s = some (.dK []) := upd_oth nps.symm (upd_old hmn hs5)
    have ht6 : upd (upd H5 m (.lst [])) p (.ins C dx (putF ("_stamps" : Str) (V.ref m) [(("_known" : Str), V.ref k), (("_order" : Str), V.ref o), (("_state" : Str), V.ref s), (("_starts" : Str), V.ref t)])) t = some (.lst []) := upd_oth npt.symm (upd_old hmn ht5)
    have e6 : Exc [p] H (upd (upd H5 m (.lst [])) p (.ins C dx (putF ("_stamps" : Str) (V.ref m) [(("_known" : Str), V.ref k), (("_order" : Str), V.ref o), (("_state" : Str), V.ref s), (("_starts" : Str), V.ref t)]))) := (e5.new hmn).upd (by simp)
    have n6 : ∀ b, upd (upd H5 m (.lst [])) p (.ins C dx (putF ("_stamps" : Str) (V.ref m) [(("_known" : Str), V.ref k), (("_order" : Str), V.ref o), (("_state" : Str), V.ref s), (("_starts" : Str), V.ref t)])) b = none → H b = none := fun b hb => by
      have h1 : b ≠ p := fun z => by subst z; rw [L2.upd_same] at hb; cases hb
      have h2 : b ≠ m := fun z => by subst z; rw [upd_ne h1, L2.upd_same] at hb; cases hb
      rw [upd_ne h1, upd_ne h2] at hb
      exact n5 b hb
    generalize upd (upd H5 m (.lst [])) p (.ins C dx (putF ("_stamps" : Str) (V.ref m) [(("_known" : Str), V.ref k), (("_order" : Str), V.ref o), (("_state" : Str), V.ref s), (("_starts" : Str), V.ref t)])) = H6 at *
    walk_at "go"
    refine q _ k o s t m hk hfo hfs hft hfm (e6.upd (by simp)) ?_
    exact ⟨⟨dx, 0, L2.upd_same⟩, ⟨kk, upd_oth npk.symm hk6, hkk⟩, upd_oth npo.symm ho6, ⟨[], upd_oth nps.symm hs6, by simp, rfl, fun _ _ => rfl, fun x hx => nomatch hx⟩, upd_oth npt.symm ht6, ⟨[], upd_oth npm.symm hm6, rfl⟩, nks, not_, nom, ntm, R8.ROk.nil, hl⟩
end
end Kf

end
section
set_option Elab.async false
set_option linter.all false
set_option maxRecDepth 100000
set_option maxHeartbeats 4000000
local macro_rules | `(tactic| walk_at "npl") => `(tactic| first | exact Kf.npl rfl | exact Kf.npl_ints _ | exact Kf.npl_one _ _ | exact Kf.npl_refs _ | assumption)
local macro_rules | `(tactic| walk_at "nn") => `(tactic| first
  | assumption
  | (refine' Kf.Ext.non ?nne ?nnh; (case nne => assumption); (case nnh => walk_at "nn")))
local macro_rules | `(tactic| walk_at "ext") => `(tactic| first
  | assumption
  | exact Kf.Ext.refl
  | (refine' Kf.Ext.newer ?exa ?exn; (case exn => assumption); (case exa => walk_at "ext"))
  | (refine' Kf.Ext.own ?exa ?exn; (case exn => walk_at "nn"); (case exa => walk_at "ext"))
  | (refine' Kf.Ext.trans ?exa ?exb; (case exb => assumption); (case exa => walk_at "ext")))
local macro_rules | `(tactic| walk_at "pool") => `(tactic| first
  | assumption
  | (refine' Kf.PoolAt.ext ?plh ?ple; (case plh => assumption); (case ple => walk_at "ext"))
  | (refine' Kf.PoolAt.upd ?plh ?plo ?pln; (case plo => assumption); (case pln => walk_at "npl"); (case plh => walk_at "pool")))
local macro_rules | `(tactic| walk_at "lk") => `(tactic| first
  | assumption
  | exact L2.upd_same
  | (refine' Kf.upd_old ?lkn ?lkh; (case lkn => assumption); (case lkh => walk_at "lk"))
  | (refine' Kf.upd_oth ?lkn ?lkh; (case lkn => (first | assumption | (apply Ne.symm; assumption))); (case lkh => walk_at "lk"))
  | (refine' Kf.Ext.get ?lke ?lkh ?lkn; (case lke => assumption); (case lkh => walk_at "lk"); (case lkn => walk_at "npl"))
  | (refine' L2.Same.at ?lke ?lkh; (case lke => assumption); (case lkh => walk_at "lk")))
local macro_rules | `(tactic| walk_at "sq") => `(tactic| first
  | assumption
  | (refine' L2.SqL.of ?sqh; (case sqh => walk_at "lk"))
  | (refine' L2.SqT.of ?sqh; (case sqh => walk_at "lk"))
  | (refine' Kf.Ext.seqL ?sqe ?sqh ?sqn; (case sqh => assumption); (case sqe => walk_at "ext"); (case sqn => walk_at "npl"))
  | (refine' Kf.Ext.seqT ?sqe ?sqh; (case sqh => assumption); (case sqe => walk_at "ext")))
local macro_rules | `(tactic| walk_at "at") => `(tactic| first | exact L2.atI_nat (j := 0) rfl | exact L2.atI_nat (j := 1) rfl | exact L2.atI_nat (j := 2) rfl | exact L2.atI_nat (j := 3) rfl | exact L2.atI_nat (j := 4) rfl | assumption)
local macro_rules | `(tactic| walk_at "ixn") => `(tactic| first | exact Kf.ixN_nat (j := 0) rfl | exact Kf.ixN_nat (j := 1) rfl | exact Kf.ixN_nat (j := 2) rfl | exact Kf.ixN_nat (j := 3) rfl | assumption)
local macro_rules | `(tactic| walk_at "set") => `(tactic| (first | (simp only [List.set_cons_succ, List.set_cons_zero]; rfl) | rfl))
local macro_rules | `(tactic| walk_at "om") => `(tactic| first | decide | omega | (simp only [List.length_map, List.length_cons, List.length_nil] at *; omega))
local macro_rules | `(tactic| walk_at "calls") => `(tactic| first
  | (with_reducible refine' Kf.call_take ?clp ?cla ?clb ?clq; (case clp => walk_at "pool"); (case cla => walk_at "om"); (case clb => walk_at "om"); intro r H' hE h0 h1)
  | (with_reducible refine' Kf.call_pool ?cls ?cla ?clq; (case cls => walk_at "sq"); (case cla => walk_at "om"); intro p H' hE hN hP)
  | (with_reducible refine' Kf.call_turn ?cls ?clp ?cla ?clq; (case cls => walk_at "sq"); (case clp => walk_at "pool"); (case cla => walk_at "om"); intro u H' hE hP))
local macro_rules | `(tactic| walk_at "side") => `(tactic| first
  | exact Kf.cmul_fmod (by decide) (by decide)
  | exact rfl
  | decide
  | omega
  | assumption
  | (refine ⟨?_, ?_⟩ <;> decide)
  | (refine ⟨?_, ?_, ?_⟩ <;> decide)
  | (refine ⟨?_, ?_⟩ <;> omega)
  | (refine Or.inl ⟨?_, ?_⟩ <;> decide)
  | (refine Or.inr ⟨?_, ?_⟩ <;> decide)
  | (refine Or.inl ⟨?_, ?_⟩ <;> omega)
  | (refine Or.inr ⟨?_, ?_⟩ <;> omega))
local macro_rules | `(tactic| walk_at "kit") => `(tactic| first | exact Kf.isi_int_int | exact Kf.isi_int_bool | exact Kf.isi_int_str | exact Kf.isi_int_list | exact Kf.isi_int_tuple | exact Kf.isi_bool_int | exact Kf.isi_bool_bool | exact Kf.isi_bool_str | exact Kf.isi_bool_list | exact Kf.isi_bool_tuple | exact Kf.isi_str_int | exact Kf.isi_str_bool | exact Kf.isi_str_str | exact Kf.isi_str_list | exact Kf.isi_str_tuple | exact Kf.isi_non_list | exact Kf.isi_non_tuple | exact Kf.isi_list_list | exact Kf.isi_list_tuple | exact Kf.isi_tuple_list | exact Kf.isi_tuple_tuple | exact Kf.isi_dict_dict)
local macro_rules | `(tactic| walk_at "ty") => `(tactic| first
  | exact L2.TyX.base (L2.TyOf.int _)
  | exact L2.TyX.base (L2.TyOf.bl _)
  | exact L2.TyX.base (L2.TyOf.str _)
  | exact L2.TyX.base L2.TyOf.non
  | (refine' L2.TyX.base (L2.TyOf.lst ?tyh); (case tyh => walk_at "lk"))
  | (refine' L2.TyX.base (L2.TyOf.tup ?tyh); (case tyh => walk_at "lk"))
  | (refine' L2.TyX.base (L2.TyOf.dK ?tyh); (case tyh => walk_at "lk")))
local macro_rules | `(tactic| walk_at "om2") => `(tactic| first | assumption | decide | omega)
local macro_rules | `(tactic| walk_at "st") => `(tactic| with_reducible first
  | (refine Kf.w_var rfl ?_)
  | (refine Kf.w_c ?_)
  | (refine Kf.w_seq ?_)
  | (refine Kf.w_asg ?_)
  | (refine' Kf.w_gname ?sth ?_; (case sth => with_unfolding_all walk_at "set"))
  | (refine Kf.w_op ?_)
  | (refine Kf.w_un ?_)
  | (refine Kf.w_rU ?_)
  | (refine Kf.w_rI0 ?_)
  | (refine' Kf.w_rI ?sth ?_; (case sth => with_unfolding_all walk_at "side"))
  | (refine' Kf.w_rEq ?sth ?_; (case sth => with_unfolding_all rfl))
  | (refine' Kf.w_rNe ?sth ?_; (case sth => with_unfolding_all rfl))
  | (refine Kf.w_tTest ?_)
  | (refine Kf.w_tB ?_)
  | (refine Kf.w_exbl ?_)
  | (refine Kf.w_exint ?_)
  | (refine Kf.w_ifS ?_)
  | (refine Kf.w_ret ?_)
  | (refine Kf.w_retN ?_)
  | (refine Kf.w_drop ?_)
  | (refine Kf.w_and ?_)
  | (refine Kf.w_or ?_)
  | (refine Kf.w_not ?_)
  | (refine Kf.w_andV ?_)
  | (refine Kf.w_orV ?_)
  | (refine Kf.w_notV ?_)
  | (refine Kf.w_if ?_)
  | (refine Kf.w_lc ?_)
  | (refine Kf.w_for ?_)
  | (refine Kf.w_rng1 ?_)
  | (refine' Kf.w_rng1x ?sth ?stg ?_; (case sth => with_unfolding_all walk_at "om"); (case stg => with_unfolding_all walk_at "om"))
  | (refine Kf.w_ilist ?_)
  | (refine Kf.w_iseq ?_)
  | (refine Kf.w_itup ?_)
  | (refine' Kf.w_ilistx ?sth ?_; (case sth => with_unfolding_all walk_at "sq"))
  | (refine' Kf.w_itupx ?sth ?_; (case sth => with_unfolding_all walk_at "sq"))
  | (refine' Kf.w_wipe ?sth ?_; (case sth => with_unfolding_all rfl))
  | (refine Kf.w_yes ?_)
  | (refine' Kf.w_isi ?sth ?stg ?_; (case sth => with_unfolding_all walk_at "ty"); (case stg => walk_at "kit"))
  | (refine Kf.w_isN ?_)
  | (refine Kf.w_notN ?_)
  | (refine Kf.w_cb ?_)
  | (refine Kf.w_nil ?_)
  | (refine Kf.w_cons ?_)
  | (refine Kf.w_tup ?_)
  | (refine Kf.w_lst ?_)
  | (refine' Kf.w_lines ?sth ?_; (case sth => with_unfolding_all rfl))
  | (refine Kf.w_call ?_)
  | (refine Kf.w_next ?_)
  | (refine Kf.w_break ?_)
  | (refine Kf.w_cont ?_)
  | (refine Kf.w_dnewK ?_)
  | (refine Kf.w_fld ?_)
  | (refine' Kf.w_fldx ?sth ?stg ?stf ?ste ?_; (case sth => with_unfolding_all walk_at "lk"); (case stg => assumption); (case stf => assumption); (case ste => with_unfolding_all exact rfl))
  | (refine Kf.w_sfld ?_)
  | (refine' Kf.w_sfldx ?sth ?stg ?stf ?ste ?_; (case sth => with_unfolding_all walk_at "lk"); (case stg => assumption); (case stf => assumption); (case ste => with_unfolding_all exact rfl))
  | (refine Kf.w_meth ?_)
  | (refine' Kf.w_methx ?sth ?stg ?_; (case sth => with_unfolding_all walk_at "lk"); (case stg => with_unfolding_all exact rfl))
  | (refine Kf.w_ddel ?_)
  | (refine Kf.w_disp ?_)
  | (refine Kf.w_pcons ?_)
  | (refine Kf.w_pnil ?_)
  | (refine Kf.w_make ?_)
  | (refine Kf.w_sfldaug ?_)
  | (refine' Kf.w_sfldaugx ?sth ?stg ?stf ?ste ?_; (case sth => with_unfolding_all walk_at "lk"); (case stg => assumption); (case stf => assumption); (case ste => with_unfolding_all exact rfl))
  | (refine Kf.w_inadd ?_)
  | (refine Kf.w_dnotin ?_)
  | (refine Kf.w_dget1 ?_)
  | (refine' Kf.w_dgetS ?sth ?stg ?_; (case sth => with_unfolding_all walk_at "lk"); (case stg => with_unfolding_all exact rfl))
  | (refine Kf.w_ikeys ?_)
  | (refine Kf.w_dput ?_)
  | (refine Kf.w_dget2 ?_)
  | (refine Kf.w_dget ?_)
  | (refine Kf.w_sl ?_)
  | (refine Kf.w_nopart ?_)
  | (refine Kf.w_part ?_)
  | (refine Kf.w_bm ?_)
  | (refine Kf.w_bm0 ?_)
  | (refine' Kf.w_bmL ?sth ?_; (case sth => with_unfolding_all walk_at "lk"))
  | (refine' Kf.w_cat ?sth ?stg ?stf ?_; (case sth => with_unfolding_all walk_at "lk"); (case stg => with_unfolding_all walk_at "lk"); (case stf => with_unfolding_all walk_at "om"))
  | (refine' Kf.w_slL ?sth ?_; (case sth => with_unfolding_all walk_at "sq"))
  | (refine' Kf.w_inL ?sth ?_; (case sth => with_unfolding_all walk_at "sq"))
  | (refine' Kf.w_inT ?sth ?_; (case sth => with_unfolding_all walk_at "sq"))
  | (refine' Kf.w_ninL ?sth ?_; (case sth => with_unfolding_all walk_at "sq"))
  | (refine' Kf.w_ninT ?sth ?_; (case sth => with_unfolding_all walk_at "sq"))
  | (refine' Kf.w_listof ?sth ?_; (case sth => with_unfolding_all walk_at "sq"))
  | (refine' Kf.w_tupof ?sth ?_; (case sth => with_unfolding_all walk_at "sq"))
  | (refine Kf.w_listRev ?_)
  | (refine Kf.w_gsub ?_)
  | (refine' Kf.w_ixL ?sth ?stg ?_; (case sth => with_unfolding_all walk_at "sq"); (case stg => with_unfolding_all walk_at "at"))
  | (refine' Kf.w_ixT ?sth ?stg ?_; (case sth => with_unfolding_all walk_at "sq"); (case stg => with_unfolding_all walk_at "at"))
  | (refine' Kf.w_setL ?sth ?stg ?_; (case sth => with_unfolding_all walk_at "lk"); (case stg => with_unfolding_all walk_at "ixn"))
  | (refine' Kf.w_len ?sth ?_; (case sth => with_unfolding_all walk_at "sq"))
  | (refine' Kf.w_lenT ?sth ?_; (case sth => with_unfolding_all walk_at "sq"))
  | (refine Kf.w_int1 ?_)
  | (refine Kf.w_intb ?_)
  | (refine Kf.w_abs ?_)
  | (refine Kf.w_aug rfl ?_)
  | (refine Kf.w_par ?_)
  | (refine' Kf.w_gtup ?sth ?stg ?_; (case sth => with_unfolding_all walk_at "sq"); (case stg => with_unfolding_all exact rfl))
  | (refine' Kf.w_glst ?sth ?stg ?_; (case sth => with_unfolding_all walk_at "sq"); (case stg => with_unfolding_all exact rfl))
  | (refine Kf.w_rng2 ?_)
  | (refine Kf.w_rng3 ?_)
  | (refine' Kf.w_rng2x ?sth ?stg ?stf ?ste ?_; (case sth => with_unfolding_all walk_at "om"); (case stg => with_unfolding_all walk_at "om"); (case stf => with_unfolding_all walk_at "om"); (case ste => with_unfolding_all walk_at "om"))
  | (refine Kf.w_gcons ?_)
  | (refine Kf.w_gnil ?_)
  | (refine Kf.w_gcd ?_)
  | (refine Kf.w_bits ?_)
  | (refine Kf.w_two ?_)
  | (refine Kf.w_ipI ?_)
  | (refine L2.iteT ?_)
  | (refine L2.iteF ?_)
  | (refine Kf.iteNT ?_)
  | (refine Kf.iteNF ?_)
  | (refine' Kf.ite_decT ?sth ?_; (case sth => exact rfl))
  | (refine' Kf.ite_decF ?sth ?_; (case sth => with_unfolding_all (intro e; cases e; done)))
  | (refine' Kf.ite_ndecF ?sth ?_; (case sth => exact rfl))
  | (refine' Kf.ite_ndecT ?sth ?_; (case sth => with_unfolding_all (intro e; cases e; done)))
  | (refine' Kf.ite_viT ?sth ?_; (case sth => (with_unfolding_all walk_at "om2")))
  | (refine' Kf.ite_viF ?sth ?_; (case sth => (with_unfolding_all walk_at "om2")))
  | (refine' Kf.ite_nviT ?sth ?_; (case sth => (with_unfolding_all walk_at "om2")))
  | (refine' Kf.ite_nviF ?sth ?_; (case sth => (with_unfolding_all walk_at "om2")))
  | (refine' Kf.ite_decT ?sth ?_; (case sth => (with_unfolding_all walk_at "om2")))
  | (refine' Kf.ite_decF ?sth ?_; (case sth => (with_unfolding_all walk_at "om2")))
  | with_unfolding_all walk_at "calls")
local macro_rules | `(tactic| walk_at "go") => `(tactic| repeat walk_at "st")

namespace Kf
open PySem PySem.Spec PyProof.Rows L2
open R8 (RowsT cnt dg upTo ROk num bnds)
abbrev s__law_nodes : Stmt := topS 14
abbrev N__law_nodes : List Str := ["pool", "style", "many", "nodes", "node", "k"]
abbrev P__law_nodes : List Str := ["pool"]
theorem sc__law_nodes : FnScope N__law_nodes P__law_nodes (defScope s__law_nodes) := ⟨rfl, rfl, rfl, by decide +kernel, rfl, by decide +kernel, by decide +kernel⟩
abbrev s__law_number : Stmt := topS 15
abbrev N__law_number : List Str := ["sizes", "many", "number", "k"]
abbrev P__law_number : List Str := ["sizes", "many"]
theorem sc__law_number : FnScope N__law_number P__law_number (defScope s__law_number) := ⟨rfl, rfl, rfl, by decide +kernel, rfl, by decide +kernel, by decide +kernel⟩
abbrev s__law_bound : Stmt := topS 16
abbrev N__law_bound : List Str := ["many", "bound", "k"]
abbrev P__law_bound : List Str := ["many"]
theorem sc__law_bound : FnScope N__law_bound P__law_bound (defScope s__law_bound) := ⟨rfl, rfl, rfl, by decide +kernel, rfl, by decide +kernel, by decide +kernel⟩
section
variable {P : Program} {w : World} {K : PySem.W.Frag} {mg : Str → Option Value} {base : Heap} {H : Hp} {Q : VK} {E : XK} {C : Addr}
def spNod8 (K : PySem.W.Frag) : Sp := fun vs H Q _ => ∃ (v : V), vs = [v] ∧ PoolAt H v ∧ ∀ (p : Addr) (H' : Hp) (ns : List Int), Ext H H' → H p = none → H' p = some (.lst (ns.map V.int)) → (∀ n ∈ ns, 0 < n) → ns.Nodup → 1 ≤ ns.length → ns.length ≤ 200 → Q (.ref p) H'
theorem ok_nodes8 (D : Df K mg "_law_nodes" s__law_nodes P__law_nodes) (b_range : mg "range" = none) (p__law_take : Pr P w K mg base "_law_take" 1 P__law_take (spTake K)) (p__law_mixed : Pr P w K mg base "_law_mixed" 2 P__law_mixed (spMixed K)) : Pr P w K mg base "_law_nodes" 3 P__law_nodes (spNod8 K) := by
  refine D.ok sc__law_nodes (fun vs H Q E h => ?_) (fun f cdv A outer s H vs Q E hr h => ?_)
  · obtain ⟨v, rfl, _⟩ := h; rfl
  obtain ⟨v, rfl, hP, q⟩ := h
  have nd := sc__law_nodes.nd
  refine ⟨_, (pss_cons (ps_set (i := 1) nd rfl (Or.inl rfl) (pe_callP p__law_take hr (pa_cons (pv 0) (pa_cons pe_int pa_nil))))
      (pss_cons (ps_set (i := 2) nd rfl (Or.inl rfl) (pe_op op_add pe_int (pe_callP p__law_take hr (pa_cons (pv 0) (pa_cons pe_int pa_nil)))))
      (C8.pss_cut (ps_if (pt_cmpR op_eq (pv 1) pe_int (nomark _)) (pss_one (ps_set (i := 2) nd rfl (Or.inl rfl) pe_int)) (pss_one (ps_if (pt_cmpR op_eq (pv 1) pe_int (nomark _)) (pss_one (ps_set (i := 2) nd rfl (Or.inl rfl) (pe_op op_add pe_int (pe_callP p__law_take hr (pa_cons (pv 0) (pa_cons pe_int pa_nil)))))) pss_nil)))
      (pss_cons (ps_set (i := 3) nd rfl (Or.inl rfl) (pe_lst pa_nil))
      (pss_cons (ps_set (i := 4) nd rfl (Or.inl rfl) pe_int)
      (pss_cons (ps_for PassesOwn.never rfl (pi_range1 (by rfl) b_range (pa_cons (pv 2) pa_nil)) (pg_name (i := 5) nd rfl (Or.inl rfl)) (pss_cons (ps_set (i := 4) nd rfl (Or.inl rfl) (pe_op op_add (pe_op op_add (pv 4) pe_int) (pe_callP p__law_take hr (pa_cons (pv 0) (pa_cons (pe_ix (ix_tupK (K := K) rfl) (pe_tup (pa_cons pe_int (pa_cons pe_int (pa_cons pe_int pa_nil)))) (pe_callP p__law_take hr (pa_cons (pv 0) (pa_cons pe_int pa_nil))) (fun _ _ => rfl)) pa_nil)))))
      (pss_one (ps_expr (pe_bmK (K := K) rfl PySem.F.plainAttrs_list PySem.F.slot_list_append PySem.F.type_list_append mt_append (pv 3) (pa_cons (pv 4) pa_nil))))))
      (pss_one (ps_ret (pe_callP p__law_mixed hr (pa_cons (pv 0) (pa_cons (pv 3) pa_nil))))))))))), ?_⟩
  refine w_start (σ := [some _, none, none, none, none, none]) rfl ?_
  walk_at "go"
  rename_i st H1 hE1 s0 s1 mn H2 hE2 m0 m1
  have hP2 := (hP.ext hE1).ext hE2
  refine w_cut (fun σ' H' => ∃ many : Int, σ' = [some v, some (.int st), some (.int many), none, none, none] ∧ Ext H H' ∧ 1 ≤ many ∧ many ≤ 200) ?_ ?_
  · walk_at "go"
    refine ite_vi (fun c => ?_) (fun c => ?_)
    · walk_at "go"
      exact ⟨200, rfl, hE1.trans hE2, by decide, by decide⟩
    · walk_at "go"
      refine ite_vi (fun c2 => ?_) (fun c2 => ?_)
      · walk_at "go"
        rename_i u H3 hE3 u0 u1
        exact ⟨_, rfl, (hE1.trans hE2).trans hE3, by omega, by omega⟩
      · walk_at "go"
        exact ⟨_, rfl, hE1.trans hE2, by omega, by omega⟩
  rintro σ' H3 ⟨many, rfl, hE3, k1, k2⟩
  have hP3 := hP.ext hE3
  walk_at "go"
  intro D0 hD0
  have hnD0 := hE3.non hD0
  walk_at "go"
  refine for_range (fun i σ H' => ∃ (ns : List Int) (m : Int) (y : Option V), σ = [some v, some (.int st), some (.int many), some (.ref D0), some (.int m), y] ∧ Ext H H' ∧ H' D0 = some (.lst (ns.map V.int)) ∧ (∀ n ∈ ns, 0 < n ∧ n ≤ m) ∧ ns.Nodup ∧ 0 ≤ m ∧ ns.length = i)
    ⟨[], 0, _, rfl, hE3.newer hD0, L2.upd_same, by simp, by simp, by decide, rfl⟩ ?_ ?_
  · rintro i σ H4 hi ⟨ns, m, y, rfl, hE, hD1, hpos, hndp, hm, hl⟩
    have hP4 := hP.ext hE
    walk_at "go"
    intro p1 hp1
    have hD2 := upd_old (u := .tup [.int 1, .int 3, .int 18]) hp1 hD1
    have hP5 := hP4.ext (Ext.new (o := .tup [.int 1, .int 3, .int 18]) hp1)
    have ht2 : upd H4 p1 (.tup [.int 1, .int 3, .int 18]) p1 = some (.tup [.int 1, .int 3, .int 18]) := L2.upd_same
    have hE5 : Ext H (upd H4 p1 (.tup [.int 1, .int 3, .int 18])) := hE.newer hp1
    generalize upd H4 p1 (.tup [.int 1, .int 3, .int 18]) = H5 at *
    walk_at "go"
    rename_i t H6 hE6 t0 t1
    have ht6 := hE6.get ht2 (npl rfl)
    have hD6 := hE6.get hD2 (npl_ints _)
    have hP6 := hP5.ext hE6
    obtain ⟨z, hz, z0, z1⟩ : ∃ z, atI [V.int 1, .int 3, .int 18] t = some (.int z) ∧ 0 < z ∧ z < 1000 := by
      rcases (show t = 0 ∨ t = 1 ∨ t = 2 by omega) with rfl | rfl | rfl
      · exact ⟨1, rfl, by decide, by decide⟩
      · exact ⟨3, rfl, by decide, by decide⟩
      · exact ⟨18, rfl, by decide, by decide⟩
    refine w_ixT (SqT.of ht6) hz ?_
    walk_at "go"
    rename_i u H7 hE7 u0 u1
    have hD7 := hE7.get hD6 (npl_ints _)
    walk_at "go"
    refine w_append hD7 (small1000 (by rw [List.length_map]; omega)) ?_
    walk_at "go"
    refine ⟨ns ++ [m + 1 + u], m + 1 + u, _, rfl, ((hE5.trans hE6).trans hE7).own hnD0, ?_, ?_, ?_, by omega, by rw [List.length_append, hl]; rfl⟩
    · rw [List.map_append]; exact L2.upd_same
    · intro n hn
      rcases List.mem_append.mp hn with z | z
      · have := hpos n z; omega
      · rw [List.mem_singleton] at z; omega
    · exact List.nodup_append.mpr ⟨hndp, by simp, fun a ha b hb e => by rw [List.mem_singleton] at hb; have := hpos a ha; omega⟩
  · rintro σ H4 ⟨ns, m, y, rfl, hE, hD1, hpos, hndp, hm, hl⟩
    walk_at "go"
    refine call_mixed (hP.ext hE) (SqL.of hD1) (fun x hx b e => ?_) (by rw [List.length_map]; omega) fun ys p H5 hperm hE5 hpn hp => ?_
    · obtain ⟨n, _, rfl⟩ := List.mem_map.mp hx
      cases e
    · obtain ⟨ms, rfl⟩ : ∃ ms : List Int, ys = ms.map V.int := by
        refine ⟨ys.map fun v => match v with | .int n => n | _ => 0, ?_⟩
        rw [List.map_map]
        have : ∀ x ∈ ys, (V.int ∘ fun v => match v with | .int n => n | _ => 0) x = id x := fun x hx => by
          obtain ⟨n, _, rfl⟩ := List.mem_map.mp (hperm.mem_iff.mp hx)
          rfl
        rw [List.map_congr_left this, List.map_id]
      have hlen := hperm.length_eq
      rw [List.length_map, List.length_map] at hlen
      refine q p H5 ms (hE.trans hE5) (hE.non hpn) hp (fun n hn => ?_) ?_ (by omega) (by omega)
      · have := hperm.mem_iff.mp (List.mem_map.mpr ⟨n, hn, rfl⟩)
        obtain ⟨n', h1, h2⟩ := List.mem_map.mp this
        cases h2
        exact (hpos n h1).1
      have h2 : (ns.map V.int).Nodup := List.pairwise_map.mpr (hndp.imp fun h z => h (V.int.inj z))
      have h3 := hperm.nodup_iff.mpr h2
      exact (List.pairwise_map.mp h3).imp fun h z => h (by rw [z])
def spNum (K : PySem.W.Frag) : Sp := fun vs H Q _ => ∃ (a : Addr) (f : Nat → Nat) (l n : Nat), vs = [.ref a, .int (n : Nat)] ∧ H a = some (.lst (((List.range l).map fun i => ((f i : Nat) : Int)).map V.int)) ∧ (∀ k, l ≤ k → f k = 0) ∧ n ≤ 200 ∧ Q (.int ((R8.N f (n + 1) (n + 1) : Nat) : Int)) H
theorem ok_number (D : Df K mg "_law_number" s__law_number P__law_number) (b_range : mg "range" = none) (b_len : mg "len" = none) : Pr P w K mg base "_law_number" 1 P__law_number (spNum K) := by
  refine D.ok sc__law_number (fun vs H Q E h => ?_) (fun f cdv A outer s H vs Q E hr h => ?_)
  · obtain ⟨a, f, l, n, rfl, _⟩ := h; rfl
  obtain ⟨a, g, l, n, rfl, ha, hf, hn, q⟩ := h
  have nd := sc__law_number.nd
  have hl : (((List.range l).map fun i => ((g i : Nat) : Int)).map V.int).length = l := by simp
  refine ⟨_, (pss_cons (ps_set (i := 2) nd rfl (Or.inl rfl) pe_int)
      (pss_cons (ps_for PassesOwn.never rfl (pi_range1 (by rfl) b_range (pa_cons (pe_op op_add (pv 1) pe_int) pa_nil)) (pg_name (i := 3) nd rfl (Or.inl rfl)) (pss_cons (ps_set (i := 2) nd rfl (Or.inl rfl) (pe_op op_mul (pv 2) (pe_op op_add (pv 1) pe_int)))
      (pss_one (ps_if (pt_cmpR op_lt (pv 3) (pe_callB (call_lenK (K := K) rfl) (by rfl) b_len PySem.boot_len (pa_cons (pv 0) pa_nil)) (nomark _)) (pss_one (ps_set (i := 2) nd rfl (Or.inl rfl) (pe_op op_add (pv 2) (pe_ix (ix_listK (K := K) rfl) (pv 0) (pv 3) (fun _ _ => rfl))))) pss_nil))))
      (pss_one (ps_ret (pv 2))))), ?_⟩
  refine w_start (σ := [some _, some _, none, none]) rfl ?_
  walk_at "go"
  have en : ((n : Int) + 1).toNat = n + 1 := by omega
  rw [en]
  refine for_range (fun i σ H' => ∃ y : Option V, σ = [some (.ref a), some (.int (n : Nat)), some (.int ((R8.N g (n + 1) i : Nat) : Int)), y] ∧ H' = H) ⟨_, rfl, rfl⟩ ?_ ?_
  · rintro i σ H1 hi ⟨y, rfl, rfl⟩
    walk_at "go"
    rw [hl]
    refine ite_d (fun c => ?_) (fun c => ?_)
    · have hat : atI (((List.range l).map fun i => ((g i : Nat) : Int)).map V.int) (0 + (i : Int)) = some (.int ((g i : Nat) : Int)) := by
        rw [Int.zero_add]
        refine atI_nat ?_
        rw [List.getElem?_map, List.getElem?_map, List.getElem?_range (by omega)]; rfl
      walk_at "go"
      have e : ((R8.N g (n + 1) (i + 1) : Nat) : Int) = ((R8.N g (n + 1) i : Nat) : Int) * ((n : Int) + 1) + ((g i : Nat) : Int) := by
        show ((R8.N g (n + 1) i * (n + 1) + g i : Nat) : Int) = _
        push_cast; rfl
      rw [← e]
      exact ⟨_, rfl, rfl⟩
    · walk_at "go"
      have e : ((R8.N g (n + 1) (i + 1) : Nat) : Int) = ((R8.N g (n + 1) i : Nat) : Int) * ((n : Int) + 1) := by
        show ((R8.N g (n + 1) i * (n + 1) + g i : Nat) : Int) = _
        rw [hf i (by omega)]; push_cast; omega
      rw [← e]
      exact ⟨_, rfl, rfl⟩
  · rintro σ H1 ⟨y, rfl, rfl⟩
    walk_at "go"
    exact q
def spBnd : Sp := fun vs H Q _ => ∃ (n : Nat), vs = [.int (n : Nat)] ∧ n ≤ 200 ∧ Q (.int (((n + 1) ^ (n + 1) : Nat) : Int)) H
theorem ok_bound (D : Df K mg "_law_bound" s__law_bound P__law_bound) (b_range : mg "range" = none) : Pr P w K mg base "_law_bound" 1 P__law_bound spBnd := by
  refine D.ok sc__law_bound (fun vs H Q E h => ?_) (fun f cdv A outer s H vs Q E hr h => ?_)
  · obtain ⟨n, rfl, _⟩ := h; rfl
  obtain ⟨n, rfl, hn, q⟩ := h
  have nd := sc__law_bound.nd
  refine ⟨_, (pss_cons (ps_set (i := 1) nd rfl (Or.inl rfl) pe_int)
      (pss_cons (ps_for PassesOwn.never rfl (pi_range1 (by rfl) b_range (pa_cons (pe_op op_add (pv 0) pe_int) pa_nil)) (pg_name (i := 2) nd rfl (Or.inl rfl)) (pss_one (ps_set (i := 1) nd rfl (Or.inl rfl) (pe_op op_mul (pv 1) (pe_op op_add (pv 0) pe_int)))))
      (pss_one (ps_ret (pv 1))))), ?_⟩
  refine w_start (σ := [some _, none, none]) rfl ?_
  walk_at "go"
  have en : ((n : Int) + 1).toNat = n + 1 := by omega
  rw [en]
  refine for_range (fun i σ H' => ∃ y : Option V, σ = [some (.int (n : Nat)), some (.int (((n + 1) ^ i : Nat) : Int)), y] ∧ H' = H) ⟨_, rfl, rfl⟩ ?_ ?_
  · rintro i σ H1 hi ⟨y, rfl, rfl⟩
    walk_at "go"
    rw [← show (((n + 1) ^ (i + 1) : Nat) : Int) = (((n + 1) ^ i : Nat) : Int) * ((n : Int) + 1) from by rw [Nat.pow_succ]; push_cast; rfl]
    exact ⟨_, rfl, rfl⟩
  · rintro σ H1 ⟨y, rfl, rfl⟩
    walk_at "go"
    exact q
end
end Kf

end
section
set_option Elab.async false
set_option linter.all false
set_option maxRecDepth 100000
set_option maxHeartbeats 4000000
local macro_rules | `(tactic| walk_at "npl") => `(tactic| first | exact Kf.npl rfl | exact Kf.npl_ints _ | exact Kf.npl_one _ _ | exact Kf.npl_refs _ | assumption)
local macro_rules | `(tactic| walk_at "nn") => `(tactic| first
  | assumption
  | (refine' Kf.Ext.non ?nne ?nnh; (case nne => assumption); (case nnh => walk_at "nn")))
local macro_rules | `(tactic| walk_at "ext") => `(tactic| first
  | assumption
  | exact Kf.Ext.refl
  | (refine' Kf.Ext.newer ?exa ?exn; (case exn => assumption); (case exa => walk_at "ext"))
  | (refine' Kf.Ext.own ?exa ?exn; (case exn => walk_at "nn"); (case exa => walk_at "ext"))
  | (refine' Kf.Ext.trans ?exa ?exb; (case exb => assumption); (case exa => walk_at "ext")))
local macro_rules | `(tactic| walk_at "pool") => `(tactic| first
  | assumption
  | (refine' Kf.PoolAt.ext ?plh ?ple; (case plh => assumption); (case ple => walk_at "ext"))
  | (refine' Kf.PoolAt.upd ?plh ?plo ?pln; (case plo => assumption); (case pln => walk_at "npl"); (case plh => walk_at "pool")))
local macro_rules | `(tactic| walk_at "lk") => `(tactic| first
  | assumption
  | exact L2.upd_same
  | (refine' Kf.upd_old ?lkn ?lkh; (case lkn => assumption); (case lkh => walk_at "lk"))
  | (refine' Kf.upd_oth ?lkn ?lkh; (case lkn => (first | assumption | (apply Ne.symm; assumption))); (case lkh => walk_at "lk"))
  | (refine' Kf.Ext.get ?lke ?lkh ?lkn; (case lke => assumption); (case lkh => walk_at "lk"); (case lkn => walk_at "npl"))
  | (refine' L2.Same.at ?lke ?lkh; (case lke => assumption); (case lkh => walk_at "lk")))
local macro_rules | `(tactic| walk_at "sq") => `(tactic| first
  | assumption
  | (refine' L2.SqL.of ?sqh; (case sqh => walk_at "lk"))
  | (refine' L2.SqT.of ?sqh; (case sqh => walk_at "lk"))
  | (refine' Kf.Ext.seqL ?sqe ?sqh ?sqn; (case sqh => assumption); (case sqe => walk_at "ext"); (case sqn => walk_at "npl"))
  | (refine' Kf.Ext.seqT ?sqe ?sqh; (case sqh => assumption); (case sqe => walk_at "ext")))
local macro_rules | `(tactic| walk_at "at") => `(tactic| first | exact L2.atI_nat (j := 0) rfl | exact L2.atI_nat (j := 1) rfl | exact L2.atI_nat (j := 2) rfl | exact L2.atI_nat (j := 3) rfl | exact L2.atI_nat (j := 4) rfl | assumption)
local macro_rules | `(tactic| walk_at "ixn") => `(tactic| first | exact Kf.ixN_nat (j := 0) rfl | exact Kf.ixN_nat (j := 1) rfl | exact Kf.ixN_nat (j := 2) rfl | exact Kf.ixN_nat (j := 3) rfl | assumption)
local macro_rules | `(tactic| walk_at "set") => `(tactic| (first | (simp only [List.set_cons_succ, List.set_cons_zero]; rfl) | rfl))
local macro_rules | `(tactic| walk_at "om") => `(tactic| first | decide | omega | (simp only [List.length_map, List.length_cons, List.length_nil] at *; omega))
local macro_rules | `(tactic| walk_at "calls") => `(tactic| first
  | (with_reducible refine' Kf.call_take ?clp ?cla ?clb ?clq; (case clp => walk_at "pool"); (case cla => walk_at "om"); (case clb => walk_at "om"); intro r H' hE h0 h1)
  | (with_reducible refine' Kf.call_pool ?cls ?cla ?clq; (case cls => walk_at "sq"); (case cla => walk_at "om"); intro p H' hE hN hP)
  | (with_reducible refine' Kf.call_turn ?cls ?clp ?cla ?clq; (case cls => walk_at "sq"); (case clp => walk_at "pool"); (case cla => walk_at "om"); intro u H' hE hP))
local macro_rules | `(tactic| walk_at "side") => `(tactic| first
  | exact Kf.cmul_fmod (by decide) (by decide)
  | exact rfl
  | decide
  | omega
  | assumption
  | (refine ⟨?_, ?_⟩ <;> decide)
  | (refine ⟨?_, ?_, ?_⟩ <;> decide)
  | (refine ⟨?_, ?_⟩ <;> omega)
  | (refine Or.inl ⟨?_, ?_⟩ <;> decide)
  | (refine Or.inr ⟨?_, ?_⟩ <;> decide)
  | (refine Or.inl ⟨?_, ?_⟩ <;> omega)
  | (refine Or.inr ⟨?_, ?_⟩ <;> omega))
local macro_rules | `(tactic| walk_at "kit") => `(tactic| first | exact Kf.isi_int_int | exact Kf.isi_int_bool | exact Kf.isi_int_str | exact Kf.isi_int_list | exact Kf.isi_int_tuple | exact Kf.isi_bool_int | exact Kf.isi_bool_bool | exact Kf.isi_bool_str | exact Kf.isi_bool_list | exact Kf.isi_bool_tuple | exact Kf.isi_str_int | exact Kf.isi_str_bool | exact Kf.isi_str_str | exact Kf.isi_str_list | exact Kf.isi_str_tuple | exact Kf.isi_non_list | exact Kf.isi_non_tuple | exact Kf.isi_list_list | exact Kf.isi_list_tuple | exact Kf.isi_tuple_list | exact Kf.isi_tuple_tuple | exact Kf.isi_dict_dict)
local macro_rules | `(tactic| walk_at "ty") => `(tactic| first
  | exact L2.TyX.base (L2.TyOf.int _)
  | exact L2.TyX.base (L2.TyOf.bl _)
  | exact L2.TyX.base (L2.TyOf.str _)
  | exact L2.TyX.base L2.TyOf.non
  | (refine' L2.TyX.base (L2.TyOf.lst ?tyh); (case tyh => walk_at "lk"))
  | (refine' L2.TyX.base (L2.TyOf.tup ?tyh); (case tyh => walk_at "lk"))
  | (refine' L2.TyX.base (L2.TyOf.dK ?tyh); (case tyh => walk_at "lk")))
local macro_rules | `(tactic| walk_at "om2") => `(tactic| first | assumption | decide | omega)
local macro_rules | `(tactic| walk_at "st") => `(tactic| with_reducible first
  | (refine Kf.w_var rfl ?_)
  | (refine Kf.w_c ?_)
  | (refine Kf.w_seq ?_)
  | (refine Kf.w_asg ?_)
  | (refine' Kf.w_gname ?sth ?_; (case sth => with_unfolding_all walk_at "set"))
  | (refine Kf.w_op ?_)
  | (refine Kf.w_un ?_)
  | (refine Kf.w_rU ?_)
  | (refine Kf.w_rI0 ?_)
  | (refine' Kf.w_rI ?sth ?_; (case sth => with_unfolding_all walk_at "side"))
  | (refine' Kf.w_rEq ?sth ?_; (case sth => with_unfolding_all rfl))
  | (refine' Kf.w_rNe ?sth ?_; (case sth => with_unfolding_all rfl))
  | (refine Kf.w_tTest ?_)
  | (refine Kf.w_tB ?_)
  | (refine Kf.w_exbl ?_)
  | (refine Kf.w_exint ?_)
  | (refine Kf.w_ifS ?_)
  | (refine Kf.w_ret ?_)
  | (refine Kf.w_retN ?_)
  | (refine Kf.w_drop ?_)
  | (refine Kf.w_and ?_)
  | (refine Kf.w_or ?_)
  | (refine Kf.w_not ?_)
  | (refine Kf.w_andV ?_)
  | (refine Kf.w_orV ?_)
  | (refine Kf.w_notV ?_)
  | (refine Kf.w_if ?_)
  | (refine Kf.w_lc ?_)
  | (refine Kf.w_for ?_)
  | (refine Kf.w_rng1 ?_)
  | (refine' Kf.w_rng1x ?sth ?stg ?_; (case sth => with_unfolding_all walk_at "om"); (case stg => with_unfolding_all walk_at "om"))
  | (refine Kf.w_ilist ?_)
  | (refine Kf.w_iseq ?_)
  | (refine Kf.w_itup ?_)
  | (refine' Kf.w_ilistx ?sth ?_; (case sth => with_unfolding_all walk_at "sq"))
  | (refine' Kf.w_itupx ?sth ?_; (case sth => with_unfolding_all walk_at "sq"))
  | (refine' Kf.w_wipe ?sth ?_; (case sth => with_unfolding_all rfl))
  | (refine Kf.w_yes ?_)
  | (refine' Kf.w_isi ?sth ?stg ?_; (case sth => with_unfolding_all walk_at "ty"); (case stg => walk_at "kit"))
  | (refine Kf.w_isN ?_)
  | (refine Kf.w_notN ?_)
  | (refine Kf.w_cb ?_)
  | (refine Kf.w_nil ?_)
  | (refine Kf.w_cons ?_)
  | (refine Kf.w_tup ?_)
  | (refine Kf.w_lst ?_)
  | (refine' Kf.w_lines ?sth ?_; (case sth => with_unfolding_all rfl))
  | (refine Kf.w_call ?_)
  | (refine Kf.w_next ?_)
  | (refine Kf.w_break ?_)
  | (refine Kf.w_cont ?_)
  | (refine Kf.w_dnewK ?_)
  | (refine Kf.w_fld ?_)
  | (refine' Kf.w_fldx ?sth ?stg ?stf ?ste ?_; (case sth => with_unfolding_all walk_at "lk"); (case stg => assumption); (case stf => assumption); (case ste => with_unfolding_all exact rfl))
  | (refine Kf.w_sfld ?_)
  | (refine' Kf.w_sfldx ?sth ?stg ?stf ?ste ?_; (case sth => with_unfolding_all walk_at "lk"); (case stg => assumption); (case stf => assumption); (case ste => with_unfolding_all exact rfl))
  | (refine Kf.w_meth ?_)
  | (refine' Kf.w_methx ?sth ?stg ?_; (case sth => with_unfolding_all walk_at "lk"); (case stg => with_unfolding_all exact rfl))
  | (refine Kf.w_ddel ?_)
  | (refine Kf.w_disp ?_)
  | (refine Kf.w_pcons ?_)
  | (refine Kf.w_pnil ?_)
  | (refine Kf.w_make ?_)
  | (refine Kf.w_sfldaug ?_)
  | (refine' Kf.w_sfldaugx ?sth ?stg ?stf ?ste ?_; (case sth => with_unfolding_all walk_at "lk"); (case stg => assumption); (case stf => assumption); (case ste => with_unfolding_all exact rfl))
  | (refine Kf.w_inadd ?_)
  | (refine Kf.w_dnotin ?_)
  | (refine Kf.w_dget1 ?_)
  | (refine' Kf.w_dgetS ?sth ?stg ?_; (case sth => with_unfolding_all walk_at "lk"); (case stg => with_unfolding_all exact rfl))
  | (refine Kf.w_ikeys ?_)
  | (refine Kf.w_dput ?_)
  | (refine Kf.w_dget2 ?_)
  | (refine Kf.w_dget ?_)
  | (refine Kf.w_sl ?_)
  | (refine Kf.w_nopart ?_)
  | (refine Kf.w_part ?_)
  | (refine Kf.w_bm ?_)
  | (refine Kf.w_bm0 ?_)
  | (refine' Kf.w_bmL ?sth ?_; (case sth => with_unfolding_all walk_at "lk"))
  | (refine' Kf.w_cat ?sth ?stg ?stf ?_; (case sth => with_unfolding_all walk_at "lk"); (case stg => with_unfolding_all walk_at "lk"); (case stf => with_unfolding_all walk_at "om"))
  | (refine' Kf.w_slL ?sth ?_; (case sth => with_unfolding_all walk_at "sq"))
  | (refine' Kf.w_inL ?sth ?_; (case sth => with_unfolding_all walk_at "sq"))
  | (refine' Kf.w_inT ?sth ?_; (case sth => with_unfolding_all walk_at "sq"))
  | (refine' Kf.w_ninL ?sth ?_; (case sth => with_unfolding_all walk_at "sq"))
  | (refine' Kf.w_ninT ?sth ?_; (case sth => with_unfolding_all walk_at "sq"))
  | (refine' Kf.w_listof ?sth ?_; (case sth => with_unfolding_all walk_at "sq"))
  | (refine' Kf.w_tupof ?sth ?_; (case sth => with_unfolding_all walk_at "sq"))
  | (refine Kf.w_listRev ?_)
  | (refine Kf.w_gsub ?_)
  | (refine' Kf.w_ixL ?sth ?stg ?_; (case sth => with_unfolding_all walk_at "sq"); (case stg => with_unfolding_all walk_at "at"))
  | (refine' Kf.w_ixT ?sth ?stg ?_; (case sth => with_unfolding_all walk_at "sq"); (case stg => with_unfolding_all walk_at "at"))
  | (refine' Kf.w_setL ?sth ?stg ?_; (case sth => with_unfolding_all walk_at "lk"); (case stg => with_unfolding_all walk_at "ixn"))
  | (refine' Kf.w_len ?sth ?_; (case sth => with_unfolding_all walk_at "sq"))
  | (refine' Kf.w_lenT ?sth ?_; (case sth => with_unfolding_all walk_at "sq"))
  | (refine Kf.w_int1 ?_)
  | (refine Kf.w_intb ?_)
  | (refine Kf.w_abs ?_)
  | (refine Kf.w_aug rfl ?_)
  | (refine Kf.w_par ?_)
  | (refine' Kf.w_gtup ?sth ?stg ?_; (case sth => with_unfolding_all walk_at "sq"); (case stg => with_unfolding_all exact rfl))
  | (refine' Kf.w_glst ?sth ?stg ?_; (case sth => with_unfolding_all walk_at "sq"); (case stg => with_unfolding_all exact rfl))
  | (refine Kf.w_rng2 ?_)
  | (refine Kf.w_rng3 ?_)
  | (refine' Kf.w_rng2x ?sth ?stg ?stf ?ste ?_; (case sth => with_unfolding_all walk_at "om"); (case stg => with_unfolding_all walk_at "om"); (case stf => with_unfolding_all walk_at "om"); (case ste => with_unfolding_all walk_at "om"))
  | (refine Kf.w_gcons ?_)
  | (refine Kf.w_gnil ?_)
  | (refine Kf.w_gcd ?_)
  | (refine Kf.w_bits ?_)
  | (refine Kf.w_two ?_)
  | (refine Kf.w_ipI ?_)
  | (refine L2.iteT ?_)
  | (refine L2.iteF ?_)
  | (refine Kf.iteNT ?_)
  | (refine Kf.iteNF ?_)
  | (refine' Kf.ite_decT ?sth ?_; (case sth => exact rfl))
  | (refine' Kf.ite_decF ?sth ?_; (case sth => with_unfolding_all (intro e; cases e; done)))
  | (refine' Kf.ite_ndecF ?sth ?_; (case sth => exact rfl))
  | (refine' Kf.ite_ndecT ?sth ?_; (case sth => with_unfolding_all (intro e; cases e; done)))
  | (refine' Kf.ite_viT ?sth ?_; (case sth => (with_unfolding_all walk_at "om2")))
  | (refine' Kf.ite_viF ?sth ?_; (case sth => (with_unfolding_all walk_at "om2")))
  | (refine' Kf.ite_nviT ?sth ?_; (case sth => (with_unfolding_all walk_at "om2")))
  | (refine' Kf.ite_nviF ?sth ?_; (case sth => (with_unfolding_all walk_at "om2")))
  | (refine' Kf.ite_decT ?sth ?_; (case sth => (with_unfolding_all walk_at "om2")))
  | (refine' Kf.ite_decF ?sth ?_; (case sth => (with_unfolding_all walk_at "om2")))
  | with_unfolding_all walk_at "calls")
local macro_rules | `(tactic| walk_at "go") => `(tactic| repeat walk_at "st")

namespace Kf
open PySem PySem.Spec PyProof.Rows L2
open R8 (RowsT cnt dg upTo ROk num bnds)
abbrev s__law_sizes : Stmt := topS 17
abbrev N__law_sizes : List Str := ["seat", "sizes", "literal", "level", "k"]
abbrev P__law_sizes : List Str := ["seat"]
theorem sc__law_sizes : FnScope N__law_sizes P__law_sizes (defScope s__law_sizes) := ⟨rfl, rfl, rfl, by decide +kernel, rfl, by decide +kernel, by decide +kernel⟩
abbrev s__law_free : Stmt := topS 19
abbrev N__law_free : List Str := ["seat", "taken", "literal", "level", "node"]
abbrev P__law_free : List Str := ["seat"]
theorem sc__law_free : FnScope N__law_free P__law_free (defScope s__law_free) := ⟨rfl, rfl, rfl, by decide +kernel, rfl, by decide +kernel, by decide +kernel⟩
abbrev s__law_told : Stmt := topS 18
abbrev N__law_told : List Str := ["seat", "trail", "due", "order", "number", "turn", "told", "literals", "level", "literal", "row"]
abbrev P__law_told : List Str := ["seat"]
theorem sc__law_told : FnScope N__law_told P__law_told (defScope s__law_told) := ⟨rfl, rfl, rfl, by decide +kernel, rfl, by decide +kernel, by decide +kernel⟩
/-- the rows of a seat -/
def RwsAt (H : Hp) : List V → RowsT → Prop
  | [], [] => True
  | v :: vs, x :: rows => (∃ q, v = .ref q ∧ H q = some (.tup [.int x.1, .int (x.2 : Nat)])) ∧ RwsAt H vs rows
  | _, _ => False
theorem RwsAt.kept {H H' : Hp} (e : ∀ b xs, H b = some (.tup xs) → H' b = some (.tup xs)) : ∀ {vs : List V} {rows : RowsT}, RwsAt H vs rows → RwsAt H' vs rows
  | [], [], _ => trivial
  | _ :: _, _ :: _, h => ⟨let ⟨q, a, b⟩ := h.1; ⟨q, a, e _ _ b⟩, RwsAt.kept e h.2⟩
  | [], _ :: _, h => h.elim
  | _ :: _, [], h => h.elim
theorem RwsAt.len {H : Hp} : ∀ {vs : List V} {rows : RowsT}, RwsAt H vs rows → vs.length = rows.length
  | [], [], _ => rfl
  | _ :: _, _ :: _, h => by rw [List.length_cons, List.length_cons, RwsAt.len h.2]
  | [], _ :: _, h => h.elim
  | _ :: _, [], h => h.elim
theorem RwsAt.el {H : Hp} : ∀ {vs : List V} {rows : RowsT} {i : Nat} {v : V}, RwsAt H vs rows → vs[i]? = some v → ∃ q x, v = .ref q ∧ rows[i]? = some x ∧ H q = some (.tup [.int x.1, .int (x.2 : Nat)])
  | [], [], _, _, _, h => by simp at h
  | _ :: _, x :: _, 0, _, h, e => by
    cases e
    obtain ⟨q, a, b⟩ := h.1
    exact ⟨q, x, a, rfl, b⟩
  | _ :: _, _ :: _, i + 1, _, h, e => by
    obtain ⟨q, x, a, b, c⟩ := RwsAt.el (i := i) h.2 (by simpa using e)
    exact ⟨q, x, a, by simpa using b, c⟩
  | [], _ :: _, _, _, h, _ => h.elim
  | _ :: _, [], _, _, h, _ => h.elim
theorem RwsAt.refs {H : Hp} : ∀ {vs : List V} {rows : RowsT}, RwsAt H vs rows → ∀ v ∈ vs, ∃ q, v = .ref q
  | [], [], _ => fun _ h => nomatch h
  | _ :: _, _ :: _, h => fun v hv => by
    rcases List.mem_cons.mp hv with z | z
    · subst z; obtain ⟨q, a, _⟩ := h.1; exact ⟨q, a⟩
    · exact RwsAt.refs h.2 v z
  | [], _ :: _, h => h.elim
  | _ :: _, [], h => h.elim
theorem RwsAt.npl {H : Hp} {vs : List V} {rows : RowsT} (h : RwsAt H vs rows) : ¬ Pl (.lst vs) := npl_nobl fun x hx b e => by
  obtain ⟨q, z⟩ := h.refs x hx
  rw [z] at e; cases e
theorem RwsAt.snoc {H : Hp} {v : V} {x : Int × Nat} (hv : ∃ q, v = .ref q ∧ H q = some (.tup [.int x.1, .int (x.2 : Nat)])) : ∀ {vs : List V} {rows : RowsT}, RwsAt H vs rows → RwsAt H (vs ++ [v]) (rows ++ [x])
  | [], [], _ => ⟨hv, trivial⟩
  | _ :: _, _ :: _, h => ⟨h.1, RwsAt.snoc hv h.2⟩
  | [], _ :: _, h => h.elim
  | _ :: _, [], h => h.elim
structure SeatAt (C : Addr) (ns : List Int) (H : Hp) (sd na r p k o s t m : Addr) (rows : RowsT) (dep : Nat) (nu bn : Int) : Prop where
  fsd : H sd = some (.dK (seatD p na r (dep : Nat) nu bn))
  fna : H na = some (.lst (ns.map V.int))
  frs : ∃ vs, H r = some (.lst vs) ∧ RwsAt H vs rows
  tr : TrailAt C ns H p k o s t m rows dep
  d1 : sd ≠ k
  d2 : sd ≠ s
  r1 : r ≠ o
  r2 : r ≠ t
  r3 : r ≠ m
  r4 : r ≠ na
  a1 : na ≠ o
  a2 : na ≠ t
  a3 : na ≠ m
  pos : ∀ n ∈ ns, 0 < n
theorem SeatAt.ext {C : Addr} {ns : List Int} {H H' : Hp} {sd na r p k o s t m : Addr} {rows : RowsT} {dep : Nat} {nu bn : Int} (S : SeatAt C ns H sd na r p k o s t m rows dep nu bn) (e : Ext H H') : SeatAt C ns H' sd na r p k o s t m rows dep nu bn := by
  obtain ⟨vs, h1, h2⟩ := S.frs
  obtain ⟨dx, z, hp⟩ := S.tr.ob
  obtain ⟨kk, hk, hkk⟩ := S.tr.kn
  obtain ⟨ks, hs, hst⟩ := S.tr.st
  obtain ⟨ms, hm, hml⟩ := S.tr.mm
  have tk : ∀ b xs, H b = some (.tup xs) → H' b = some (.tup xs) := fun b xs hb => e.get hb (npl rfl)
  exact ⟨e.get S.fsd (npl rfl), e.get S.fna (npl_ints _), ⟨vs, e.get h1 h2.npl, h2.kept tk⟩, ⟨⟨dx, z, e.get hp (npl rfl)⟩, ⟨kk, e.get hk (npl rfl), hkk⟩, e.get S.tr.od (npl_ints _), ⟨ks, e.get hs (npl rfl), hst.kept tk⟩, e.get S.tr.ss (npl_ints _), ⟨ms, e.get hm (npl_ints _), hml⟩, S.tr.nk, S.tr.n1, S.tr.n2, S.tr.n3, S.tr.ok, S.tr.nl⟩,
    S.d1, S.d2, S.r1, S.r2, S.r3, S.r4, S.a1, S.a2, S.a3, S.pos⟩
/-- the nodes that are open -/
def fre (ns : List Int) (rows : RowsT) : List Int := ns.filter fun n => decide (n ∉ rows.map fun x => ((x.1.natAbs : Nat) : Int))
section
variable {P : Program} {w : World} {K : PySem.W.Frag} {mg : Str → Option Value} {base : Heap} {H : Hp} {Q : VK} {E : XK} {C : Addr}
def spSzs (C : Addr) : Sp := fun vs H Q _ => ∃ (ns : List Int) (sd na r p k o s t m : Addr) (rows : RowsT) (dep : Nat) (nu bn : Int), vs = [.ref sd] ∧ SeatAt C ns H sd na r p k o s t m rows dep nu bn ∧ ∀ a H', H a = none → Ext H H' → H' a = some (.lst (((List.range (dep + 1)).map fun i => ((dg rows i : Nat) : Int)).map V.int)) → Q (.ref a) H'
theorem set_dg {rows : RowsT} {i n : Nat} {x : Int × Nat} (e : rows[i]? = some x) (hx : x.2 < n) :
    (((List.range n).map fun j => ((dg (rows.take i) j : Nat) : Int)).map V.int).set x.2 (.int (((dg (rows.take i) x.2 : Nat) : Int) + 1)) = ((List.range n).map fun j => ((dg (rows.take (i + 1)) j : Nat) : Int)).map V.int := by
  apply List.ext_getElem?
  intro j
  have et : rows.take (i + 1) = rows.take i ++ [x] := by rw [List.take_add_one, e]; rfl
  rw [List.getElem?_set, List.getElem?_map, List.getElem?_map, List.getElem?_map, List.getElem?_map, List.length_map, List.length_map, List.length_range]
  by_cases h : x.2 = j
  · subst h
    rw [if_pos rfl, if_pos hx, List.getElem?_range hx, et]
    show some _ = some (V.int ((dg (rows.take i ++ [x]) x.2 : Nat) : Int))
    rw [R8.dg_snoc, if_pos rfl]; rfl
  · rw [if_neg h]
    by_cases hj : j < n
    · rw [List.getElem?_range hj, et]
      show some (V.int ((dg (rows.take i) j : Nat) : Int)) = some (V.int ((dg (rows.take i ++ [x]) j : Nat) : Int))
      rw [R8.dg_snoc, if_neg h]; rfl
    · rw [List.getElem?_eq_none (by simpa using hj)]; rfl
theorem ok_sizes8 (D : Df K mg "_law_sizes" s__law_sizes P__law_sizes) (b_range : mg "range" = none) : Pr P w K mg base "_law_sizes" 1 P__law_sizes (spSzs C) := by
  refine D.ok sc__law_sizes (fun vs H Q E h => ?_) (fun f cdv A outer s H vs Q E hr h => ?_)
  · obtain ⟨ns, sd, na, r, p, k, o, s, t, m, rows, dep, nu, bn, rfl, _⟩ := h; rfl
  obtain ⟨ns, sd, na, r, p, k, o, s, t, m, rows, dep, nu, bn, rfl, S, q⟩ := h
  have hsd := S.fsd
  have nl := S.tr.nl
  have rl := S.tr.ok.len
  have dl := S.tr.ok.dep_le
  have nd := sc__law_sizes.nd
  have hu := hu_of hr
  refine ⟨_, (pss_cons (ps_setLc (i := 1) (own := [("k", 4)]) rfl nd rfl rfl (sw_true rfl rfl rfl (by decide +kernel)) (pi_range1 (by rfl) b_range (pa_cons (pe_op op_add (pe_dget hu (pv 0) pe_str (fun _ _ => rfl)) pe_int) pa_nil)) (blkOk_by (N := N__law_sizes) (sc := defScope s__law_sizes) (by decide +kernel)) (fun _ _ _ _ _ => pg_name (i := 4) nd rfl (Or.inl rfl)) (fun _ _ _ _ _ => pts_nil) (fun _ _ _ _ _ => pe_int))
      (pss_cons (ps_for PassesOwn.never rfl (pi_listK (K := K) rfl (pe_dget hu (pv 0) pe_str (fun _ _ => rfl))) (pg_tup (by rfl) (pgs_cons (pg_name (i := 2) nd rfl (Or.inl rfl)) (pgs_cons (pg_name (i := 3) nd rfl (Or.inl rfl)) pgs_nil))) (pss_one (ps_asg (pe_op op_add (pe_ix (ix_listK (K := K) rfl) (pv 1) (pv 3) (fun _ _ => rfl)) pe_int) (pg_sub (pv 1) (pv 3) set_list))))
      (pss_one (ps_ret (pv 1))))), ?_⟩
  refine w_start (σ := [some _, none, none, none, none]) rfl ?_
  walk_at "go"
  have en : ((dep : Int) + 1).toNat = dep + 1 := by omega
  rw [en]
  refine lc_r (R := fun i acc Hd => acc = List.replicate i (V.int 0)) rfl (fun _ _ _ _ e h => h) ?_ ?_
  · rintro i acc D2 H1 hi hD2 hacc hE rfl
    walk_at "go"
    have npr : ¬ Pl (.lst (List.replicate i (V.int 0))) := npl_nobl fun x hx b e => by rw [List.eq_of_mem_replicate hx] at e; cases e
    refine LcP.put hD2 hacc npr hE Ext.refl (by rw [List.length_replicate]; omega) ?_
    rw [List.replicate_succ']
  rintro D2 acc H1 hD2 hacc hE rfl
  have S1 := S.ext hE
  obtain ⟨vs, hvs, hrw⟩ := S1.frs
  have hsd1 := S1.fsd
  have e0 : List.replicate (dep + 1) (V.int 0) = (((List.range (dep + 1)).map fun j => ((dg (rows.take 0) j : Nat) : Int)).map V.int) := by
    apply List.ext_getElem?
    intro j
    rw [List.getElem?_replicate, List.getElem?_map, List.getElem?_map]
    by_cases hj : j < dep + 1
    · rw [if_pos hj, List.getElem?_range hj]; rfl
    · rw [if_neg hj, List.getElem?_eq_none (by simpa using hj)]; rfl
  rw [e0] at hacc
  have hnD : r ≠ D2 := by
    obtain ⟨vs0, h0, _⟩ := S.frs
    exact ne_of_none h0 hD2
  have hnv := hrw.npl
  have vl := hrw.len
  walk_at "go"
  refine for_list (K := K) (a := r) (xs := vs) (fun i σ H' => ∃ y z : Option V, σ = [some (.ref sd), some (.ref D2), y, z, none] ∧ Ext H H' ∧ H' r = some (.lst vs) ∧ RwsAt H' vs rows ∧ H' D2 = some (.lst (((List.range (dep + 1)).map fun j => ((dg (rows.take i) j : Nat) : Int)).map V.int)))
    ⟨_, _, rfl, hE, hvs, hrw, hacc⟩ (fun i σ H' _ ⟨_, _, _, _, e, _⟩ => SqL.of e) ?_ ?_
  · rintro i v σ H2 hv ⟨y, z, rfl, hE2, hr2, hw2, hD2'⟩
    obtain ⟨q', x, rfl, ex, hq'⟩ := hw2.el hv
    have hxl := S.tr.ok.le x (List.mem_of_getElem? ex)
    have hlen : (((List.range (dep + 1)).map fun j => ((dg (rows.take i) j : Nat) : Int)).map V.int).length = dep + 1 := by simp
    have hat : atI (((List.range (dep + 1)).map fun j => ((dg (rows.take i) j : Nat) : Int)).map V.int) (x.2 : Int) = some (.int ((dg (rows.take i) x.2 : Nat) : Int)) := by
      refine atI_nat ?_
      rw [List.getElem?_map, List.getElem?_map, List.getElem?_range (by omega)]; rfl
    have hix : ixN (((List.range (dep + 1)).map fun j => ((dg (rows.take i) j : Nat) : Int)).map V.int).length (x.2 : Int) = some x.2 := by
      rw [hlen]; unfold ixN; rw [if_pos (by omega), if_pos (by omega), Int.toNat_natCast]
    walk_at "go"
    rw [set_dg ex (by omega)]
    refine ⟨_, _, rfl, hE2.own hD2, upd_oth hnD hr2, hw2.kept fun b xs hb => upd_oth (ne_tl hb hD2') hb, L2.upd_same⟩
  · rintro σ H2 ⟨y, z, rfl, hE2, hr2, hw2, hD2'⟩
    rw [vl, List.take_length] at hD2'
    walk_at "go"
    exact q D2 H2 hD2 hE2 hD2'
def spFre (C : Addr) : Sp := fun vs H Q _ => ∃ (ns : List Int) (sd na r p k o s t m : Addr) (rows : RowsT) (dep : Nat) (nu bn : Int), vs = [.ref sd] ∧ SeatAt C ns H sd na r p k o s t m rows dep nu bn ∧ ∀ a H', H a = none → Ext H H' → H' a = some (.lst ((fre ns rows).map V.int)) → Q (.ref a) H'
theorem ok_free8 (D : Df K mg "_law_free" s__law_free P__law_free) (b_abs : mg "abs" = none) : Pr P w K mg base "_law_free" 1 P__law_free (spFre C) := by
  refine D.ok sc__law_free (fun vs H Q E h => ?_) (fun f cdv A outer s H vs Q E hr h => ?_)
  · obtain ⟨ns, sd, na, r, p, k, o, s, t, m, rows, dep, nu, bn, rfl, _⟩ := h; rfl
  obtain ⟨ns, sd, na, r, p, k, o, s, t, m, rows, dep, nu, bn, rfl, S, q⟩ := h
  have hsd := S.fsd
  have nl := S.tr.nl
  have rl := S.tr.ok.len
  have nd := sc__law_free.nd
  have hu := hu_of hr
  refine ⟨_, (pss_cons (ps_set (i := 1) nd rfl (Or.inr rfl) pe_dnewK)
      (pss_cons (ps_for PassesOwn.never rfl (pi_listK (K := K) rfl (pe_dget hu (pv 0) pe_str (fun _ _ => rfl))) (pg_tup (by rfl) (pgs_cons (pg_name (i := 2) nd rfl (Or.inl rfl)) (pgs_cons (pg_name (i := 3) nd rfl (Or.inl rfl)) pgs_nil))) (pss_one (ps_dput hu (pv 1) (pe_callB call_abs (by rfl) b_abs (by decide +kernel) (pa_cons (pv 2) pa_nil)) pe_bl rfl)))
      (pss_one (ps_ret (pe_lc (own := [("node", 4)]) rfl nd (pi_listK (K := K) rfl (pe_dget hu (pv 0) pe_str (fun _ _ => rfl))) (blkOk_by (N := N__law_free) (sc := defScope s__law_free) (by decide +kernel)) (fun _ _ _ _ _ => pg_name (i := 4) nd rfl (Or.inl rfl)) (fun _ _ _ _ _ => pts_one (pt_cmp (pc_dnotin hu (pv 4) (pv 1)))) (fun _ _ _ _ _ => (pv 4))))))), ?_⟩
  refine w_start (σ := [some _, none, none, none, none]) rfl ?_
  walk_at "go"
  intro d hd
  have eE : Ext H (upd H d (.dK [])) := Ext.new hd
  have S1 := S.ext eE
  obtain ⟨vs, hvs, hrw⟩ := S1.frs
  have hsd1 := S1.fsd
  have hd1 : upd H d (.dK []) d = some (.dK []) := L2.upd_same
  have vl := hrw.len
  generalize upd H d (.dK []) = H1 at *
  walk_at "go"
  refine for_list (K := K) (a := r) (xs := vs) (fun i σ H' => ∃ (y z : Option V) (kk : List (Key × V)), σ = [some (.ref sd), some (.ref d), y, z, none] ∧ Ext H H' ∧ H' r = some (.lst vs) ∧ RwsAt H' vs rows ∧ H' d = some (.dK kk) ∧ kk.length ≤ i ∧ ∀ n : Int, (valV kk (.inl n)).isSome = decide (n ∈ (rows.take i).map fun x => ((x.1.natAbs : Nat) : Int)))
    ⟨_, _, [], rfl, eE, hvs, hrw, hd1, Nat.le_refl _, fun n => by simp [valV]⟩ (fun i σ H' _ ⟨_, _, _, _, _, e, _⟩ => SqL.of e) ?_ ?_
  · rintro i v σ H2 hv ⟨y, z, kk, rfl, hE2, hr2, hw2, hd2, hl2, hk2⟩
    obtain ⟨q', x, rfl, ex, hq'⟩ := hw2.el hv
    have il := (List.getElem?_eq_some_iff.mp hv).1
    walk_at "go"
    rw [abs_if]
    refine ⟨d, _, rfl, DPut.k (k := .inl ((x.1.natAbs : Nat) : Int)) hd2 (small1000 (by omega)), ?_⟩
    refine ⟨_, _, _, rfl, hE2.own hd, upd_oth (ne_dl hd2 hr2).symm hr2, hw2.kept fun b xs hb => upd_oth (ne_td hb hd2) hb, L2.upd_same, by have := length_putK kk (.inl ((x.1.natAbs : Nat) : Int)) (.bl true); omega, fun n => ?_⟩
    rw [valV_put, List.take_add_one, ex]
    by_cases e : n = ((x.1.natAbs : Nat) : Int)
    · rw [if_pos (by rw [e])]
      simp [e]
    · rw [if_neg (fun z => e (Sum.inl.inj z)), hk2]
      simp only [Option.toList_some, List.map_append, List.map_cons, List.map_nil, List.mem_append, List.mem_singleton, e, or_false]
  · rintro σ H2 ⟨y, z, kk, rfl, hE2, hr2, hw2, hd2, hl2, hk2⟩
    rw [vl, List.take_length] at hk2
    have S2 := S.ext hE2
    have hsd2 := S2.fsd
    have hna2 := S2.fna
    walk_at "go"
    refine lc_l (K := K) (R := fun i acc Hd => acc = ((fre (ns.take i) rows).map V.int)) (SqL.of hna2) (npl_ints _) (by rfl) (fun _ _ _ _ e h => h) ?_ ?_
    · rintro i v acc D2 H3 hv hD2 hacc hE3 rfl
      rw [List.getElem?_map] at hv
      obtain ⟨n, en, rfl⟩ := Option.map_eq_some_iff.mp hv
      have il := (List.getElem?_eq_some_iff.mp en).1
      have hd3 := hE3.get hd2 (npl rfl)
      have fl' : (fre (ns.take i) rows).length ≤ i := Nat.le_trans (List.length_filter_le _ _) (by rw [List.length_take]; omega)
      have et : ns.take (i + 1) = ns.take i ++ [n] := by rw [List.take_add_one, en]; rfl
      walk_at "go"
      refine ⟨d, _, rfl, DGet.k (k := .inl n) hd3, ?_⟩
      rw [hk2]
      by_cases hn : n ∈ rows.map fun x => ((x.1.natAbs : Nat) : Int)
      · rw [decide_eq_true hn]
        walk_at "go"
        refine LcP.skip hacc (npl_ints _) hE3 Ext.refl ?_
        rw [et]; unfold fre; rw [List.filter_append]; simp [hn]
      · rw [decide_eq_false hn]
        walk_at "go"
        refine LcP.put hD2 hacc (npl_ints _) hE3 Ext.refl (by rw [List.length_map]; omega) ?_
        rw [et]; unfold fre; rw [List.filter_append]; simp [hn]
    · rintro D2 acc H3 hD2 hacc hE3 rfl
      rw [List.length_map, List.take_length] at hacc
      exact q D2 H3 (hE2.non hD2) (hE2.trans hE3) hacc
theorem call_szs {ns : List Int} {sd na r p k o s t m : Addr} {rows : RowsT} {dep : Nat} {nu bn : Int} (S : SeatAt C ns H sd na r p k o s t m rows dep nu bn) (q : ∀ a H', H a = none → Ext H H' → H' a = some (.lst (((List.range (dep + 1)).map fun i => ((dg rows i : Nat) : Int)).map V.int)) → Q (.ref a) H') : spSzs C ([.ref sd] ++ []) H Q E := ⟨ns, sd, na, r, p, k, o, s, t, m, rows, dep, nu, bn, rfl, S, q⟩
theorem call_fre {ns : List Int} {sd na r p k o s t m : Addr} {rows : RowsT} {dep : Nat} {nu bn : Int} (S : SeatAt C ns H sd na r p k o s t m rows dep nu bn) (q : ∀ a H', H a = none → Ext H H' → H' a = some (.lst ((fre ns rows).map V.int)) → Q (.ref a) H') : spFre C ([.ref sd] ++ []) H Q E := ⟨ns, sd, na, r, p, k, o, s, t, m, rows, dep, nu, bn, rfl, S, q⟩
theorem sm_ints {ns : List Int} (h : ns.length ≤ 1000) : Sm 1 (.list (ns.map .int)) := ⟨by rw [List.length_map]; exact h, fun d hd => by
  obtain ⟨n, _, rfl⟩ := List.mem_map.mp hd
  trivial⟩
theorem dq_ints {a : Addr} {ns : List Int} (h : H a = some (.lst (ns.map V.int))) : Dq H (.ref a) (.list (ns.map .int)) := .lst h (npl_ints _) (DqAll.ints ns)
def spTol (C : Addr) : Sp := fun vs H Q _ => ∃ (ns : List Int) (sd na r p k o s t m : Addr) (rows : RowsT) (dep : Nat) (nu : Int), vs = [.ref sd] ∧ SeatAt C ns H sd na r p k o s t m rows dep nu (((ns.length + 1) ^ (ns.length + 1) : Nat) : Int) ∧ ∀ H', Ext H H' → Q (.int ((num rows ns.length : Nat) : Int)) H'
theorem ok_told8 (D : Df K mg "_law_told" s__law_told P__law_told) (T : TrC K C) (b_range : mg "range" = none) (b_len : mg "len" = none) (p__law_sizes : Pr P w K mg base "_law_sizes" 1 P__law_sizes (spSzs C)) (p_Trail_sizes : PrM P w K mg base C "sizes" 1 P_Trail_sizes (spSiz C)) (p_Trail_literals : PrM P w K mg base C "literals" 1 P_Trail_literals (spLit C)) (p_Trail_depth : PrM P w K mg base C "depth" 1 P_Trail_depth (spDep C)) (p_Trail_level_of : PrM P w K mg base C "level_of" 2 P_Trail_level_of (spLev C))
    (p__law_alike : Pr P w K mg base "_law_alike" 3 P__law_alike (spAlike 1)) (p__law_number : Pr P w K mg base "_law_number" 1 P__law_number (spNum K)) : Pr P w K mg base "_law_told" 4 P__law_told (spTol C) := by
  refine D.ok sc__law_told (fun vs H Q E h => ?_) (fun f cdv A outer s H vs Q E hr h => ?_)
  · obtain ⟨ns, sd, na, r, p, k, o, s, t, m, rows, dep, nu, rfl, _⟩ := h; rfl
  obtain ⟨ns, sd, na, r, p, k, o, s, t, m, rows, dep, nu, rfl, S, q⟩ := h
  obtain ⟨c_Trail, a1, a2, a3, a4, a5, a6⟩ := T
  have hsd := S.fsd
  have nl := S.tr.nl
  have rl := S.tr.ok.len
  have dl := S.tr.ok.dep_le
  have nd := sc__law_told.nd
  have hu := hu_of hr
  refine ⟨_, (pss_cons (ps_set (i := 1) nd rfl (Or.inl rfl) (pe_dget hu (pv 0) pe_str (fun _ _ => rfl)))
      (pss_cons (ps_set (i := 2) nd rfl (Or.inl rfl) (pe_callP p__law_sizes hr (pa_cons (pv 0) pa_nil)))
      (pss_cons (ps_setLc (i := 3) (own := [("row", 10)]) rfl nd rfl rfl (sw_true rfl rfl rfl (by decide +kernel)) (pi_listK (K := K) rfl (pe_dget hu (pv 0) pe_str (fun _ _ => rfl))) (blkOk_by (N := N__law_told) (sc := defScope s__law_told) (by decide +kernel)) (fun _ _ _ _ _ => pg_name (i := 10) nd rfl (Or.inl rfl)) (fun _ _ _ _ _ => pts_nil) (fun _ _ _ _ _ => (pe_ix (ix_tupK (K := K) rfl) (pv 10) pe_int (fun _ _ => rfl))))
      (pss_cons (ps_set (i := 4) nd rfl (Or.inl rfl) (pe_un un_neg pe_int))
      (pss_cons (ps_for PassesOwn.never rfl (pi_range1 (by rfl) b_range (pa_cons pe_int pa_nil)) (pg_name (i := 5) nd rfl (Or.inl rfl)) (pss_cons (ps_set (i := 6) nd rfl (Or.inl rfl) (pe_methP0 p_Trail_sizes c_Trail hr (pv 1)))
      (pss_cons (ps_set (i := 7) nd rfl (Or.inl rfl) (pe_methP0 p_Trail_literals c_Trail hr (pv 1)))
      (pss_cons (ps_if (PW.pt (pw_or (pt_not (pt_val (pe_callP p__law_alike hr (pa_cons (pv 6) (pa_cons (pv 2) pa_nil))))) (pw_or (pt_not (pt_val (pe_callP p__law_alike hr (pa_cons (pv 7) (pa_cons (pv 3) pa_nil))))) (pw_or1 (pt_not (pt_val (pe_callP p__law_alike hr (pa_cons (pe_methP0 p_Trail_depth c_Trail hr (pv 1)) (pa_cons (pe_dget hu (pv 0) pe_str (fun _ _ => rfl)) pa_nil))))))))) (pss_one (ps_ret (pe_un un_neg pe_int))) pss_nil)
      (pss_cons (ps_set (i := 4) nd rfl (Or.inl rfl) (pe_callP p__law_number hr (pa_cons (pv 6) (pa_cons (pe_callB (call_lenK (K := K) rfl) (by rfl) b_len PySem.boot_len (pa_cons (pe_dget hu (pv 0) pe_str (fun _ _ => rfl)) pa_nil)) pa_nil))))
      (pss_cons (ps_expr (pe_bm0 PySem.F.plainAttrs_list PySem.F.slot_list_clear PySem.F.type_list_clear mt_clear (pv 6)))
      (pss_one (ps_expr (pe_bmK (K := K) rfl PySem.F.plainAttrs_list PySem.F.slot_list_append PySem.F.type_list_append mt_append (pv 7) (pa_cons pe_int pa_nil))))))))))
      (C8.pss_cut (ps_if (pt_cmpR op_gt (pe_callB (call_lenK (K := K) rfl) (by rfl) b_len PySem.boot_len (pa_cons (pv 3) pa_nil)) pe_int (nomark _)) (pss_cons (ps_set (i := 8) nd rfl (Or.inl rfl) (pe_ix (ix_tupK (K := K) rfl) (pe_ix (ix_listK (K := K) rfl) (pe_dget hu (pv 0) pe_str (fun _ _ => rfl)) (pe_op op_sub (pe_callB (call_lenK (K := K) rfl) (by rfl) b_len PySem.boot_len (pa_cons (pv 3) pa_nil)) pe_int) (fun _ _ => rfl)) pe_int (fun _ _ => rfl)))
      (pss_one (ps_for PassesOwn.never rfl (pi_tupK (K := K) rfl (pe_tup (pa_cons (pe_ix (ix_listK (K := K) rfl) (pv 3) (pe_op op_sub (pe_callB (call_lenK (K := K) rfl) (by rfl) b_len PySem.boot_len (pa_cons (pv 3) pa_nil)) pe_int) (fun _ _ => rfl)) (pa_cons (pe_un un_neg (pe_ix (ix_listK (K := K) rfl) (pv 3) (pe_op op_sub (pe_callB (call_lenK (K := K) rfl) (by rfl) b_len PySem.boot_len (pa_cons (pv 3) pa_nil)) pe_int) (fun _ _ => rfl))) pa_nil)))) (pg_name (i := 9) nd rfl (Or.inl rfl)) (pss_one (ps_if (pt_not (pt_val (pe_callP p__law_alike hr (pa_cons (pe_methP p_Trail_level_of c_Trail hr (pv 1) (pa_cons (pv 9) pa_nil)) (pa_cons (pv 8) pa_nil))))) (pss_one (ps_ret (pe_un un_neg pe_int))) pss_nil))))) pss_nil)
      (pss_one (ps_ret (pe_ifExp (pt_cmpR op_lt (pv 4) (pe_dget hu (pv 0) pe_str (fun _ _ => rfl)) (nomark _)) (pv 4) (pe_un un_neg pe_int)))))))))), ?_⟩
  refine w_start (σ := [some _, none, none, none, none, none, none, none, none, none, none]) rfl ?_
  walk_at "go"
  refine call_szs S fun da H1 hda hE1 hdue => ?_
  have S1 := S.ext hE1
  have hsd1 := S1.fsd
  obtain ⟨vs, hvs, hrw⟩ := S1.frs
  have vl := hrw.len
  walk_at "go"
  refine lc_l (K := K) (R := fun i acc Hd => acc = (((rows.take i).map (·.1)).map V.int)) (SqL.of hvs) hrw.npl (by rfl) (fun _ _ _ _ e h => h) ?_ ?_
  · rintro i v acc D2 H2 hv hD2 hacc hE rfl
    obtain ⟨q', x, rfl, ex, hq'⟩ := hrw.el hv
    have il := (List.getElem?_eq_some_iff.mp hv).1
    have hq2 := hE.get hq' (npl rfl)
    walk_at "go"
    refine LcP.put hD2 hacc (npl_ints _) hE Ext.refl (by simp; omega) ?_
    rw [List.take_add_one, ex]; simp
  rintro oa acc H2 hoa hord hE2 rfl
  rw [vl, List.take_length] at hord
  have hE02 := hE1.trans hE2
  have hdue2 := hE2.get hdue (npl_ints _)
  have hS2 := S.ext hE02
  have hlen : (((List.range (dep + 1)).map fun i => ((dg rows i : Nat) : Int))).length = dep + 1 := by simp
  have hol : (rows.map (·.1)).length = rows.length := List.length_map _
  have hdg : ∀ k, dep + 1 ≤ k → dg rows k = 0 := fun k hk => R8.dg_none fun x hx => by have := S.tr.ok.le x hx; omega
  walk_at "go"
  refine for_range (fun i σ H' => ∃ (nn : Int) (t1 t2 t3 : Option V), σ = [some (.ref sd), some (.ref p), some (.ref da), some (.ref oa), some (.int nn), t1, t2, t3, none, none, none] ∧ Ext H2 H' ∧ (i = 2 → nn = ((num rows ns.length : Nat) : Int)))
    ⟨_, _, _, _, rfl, Ext.refl, fun h => by omega⟩ ?_ ?_
  · rintro i σ H3 hi ⟨nn, t1, t2, t3, rfl, hE3, _⟩
    have hS3 := hS2.ext hE3
    obtain ⟨dx, z, hp3⟩ := hS3.tr.ob
    walk_at "go"
    refine ⟨ns, p, k, o, s, t, m, rows, dep, rfl, hS3.tr, fun a1' H4 ha1' hE4 ha1v => ?_⟩
    have hS4 := hS3.ext hE4
    have hp4 := hE4.get hp3 (npl rfl)
    have hE24 := hE3.trans hE4
    walk_at "go"
    refine ⟨ns, p, k, o, s, t, m, rows, dep, rfl, hS4.tr, fun a2' ha2' => ?_⟩
    have e5 : Ext H4 (upd H4 a2' (.lst ((rows.map (·.1)).map V.int))) := Ext.new ha2'
    have h52 : upd H4 a2' (.lst ((rows.map (·.1)).map V.int)) a2' = some (.lst ((rows.map (·.1)).map V.int)) := L2.upd_same
    have h51 := upd_old (u := .lst ((rows.map (·.1)).map V.int)) ha2' ha1v
    have n52 : H2 a2' = none := hE24.non ha2'
    have n51 : H2 a1' = none := hE3.non ha1'
    have nel : a1' ≠ a2' := ne_of_none ha1v ha2'
    have hS5 := hS4.ext e5
    have hE25 := hE24.trans e5
    generalize upd H4 a2' (.lst ((rows.map (·.1)).map V.int)) = H5 at *
    have hdue5 := hE25.get hdue2 (npl_ints _)
    have hord5 := hE25.get hord (npl_ints _)
    walk_at "go"
    refine call_alike (dq_ints h51) (dq_ints hdue5) (sm_ints (by rw [hlen]; omega)) fun H6 hE6 => ?_
    walk_at "go"
    refine call_alike ((dq_ints h52).ext hE6) ((dq_ints hord5).ext hE6) (sm_ints (by rw [hol]; omega)) fun H7 hE7 => ?_
    have hE57 := hE6.trans hE7
    have hS7 := hS5.ext hE57
    obtain ⟨dx7, z7, hp7⟩ := hS7.tr.ob
    have hsd7 := hS7.fsd
    walk_at "go"
    refine ⟨ns, p, k, o, s, t, m, rows, dep, rfl, hS7.tr, ?_⟩
    walk_at "go"
    refine call_alike (.int (dep : Int)) (.int (dep : Int)) trivial fun H8 hE8 => ?_
    have hE58 := hE57.trans hE8
    have hS8 := hS7.ext hE8
    have hsd8 := hS8.fsd
    have hna8 := hS8.fna
    have h81 := hE58.get h51 (npl_ints _)
    have h82 := hE58.get h52 (npl_ints _)
    walk_at "go"
    rw [List.length_map]
    refine ⟨a1', fun i => dg rows i, dep + 1, ns.length, rfl, h81, hdg, nl, ?_⟩
    walk_at "go"
    refine ⟨a1', _, rfl, rfl, h81, ?_⟩
    have h92 := upd_oth (u := .lst []) nel.symm h82
    walk_at "go"
    refine w_append h92 (small1000 (by rw [List.length_map, hol]; omega)) ?_
    walk_at "go"
    exact ⟨_, _, _, _, rfl, ((hE25.trans hE58).own n51).own n52, fun _ => rfl⟩
  · rintro σ H3 ⟨nn, t1, t2, t3, rfl, hE3, hnn⟩
    have hnn := hnn rfl
    subst hnn
    have hE03 := hE02.trans hE3
    have hS3 := S.ext hE03
    have hsd3 := hS3.fsd
    have hord3 := hE3.get hord (npl_ints _)
    obtain ⟨vs3, hvs3, hrw3⟩ := hS3.frs
    have vl3 := hrw3.len
    have lt := R8.num_lt (rows := rows) rl
    have hlt : ((num rows ns.length : Nat) : Int) < (((ns.length + 1) ^ (ns.length + 1) : Nat) : Int) := by exact_mod_cast lt
    walk_at "go"
    refine w_cut (fun σ' H' => ∃ t8 t9 : Option V, σ' = [some (.ref sd), some (.ref p), some (.ref da), some (.ref oa), some (.int ((num rows ns.length : Nat) : Int)), t1, t2, t3, t8, t9, none] ∧ Ext H H') ?_ ?_
    · walk_at "go"
      refine ite_d (fun c => ?_) (fun c => ?_)
      · walk_at "go"
        have hpos : 0 < rows.length := by
          rw [List.length_map, hol] at c; omega
        obtain ⟨x, hx⟩ : ∃ x, rows[rows.length - 1]? = some x := ⟨_, List.getElem?_eq_getElem (by omega)⟩
        obtain ⟨v0, hv0⟩ : ∃ v, vs3[rows.length - 1]? = some v := ⟨_, List.getElem?_eq_getElem (by omega)⟩
        obtain ⟨q', x', rfl, ex', hq'⟩ := hrw3.el hv0
        rw [hx] at ex'; cases ex'
        have hxm := List.mem_of_getElem? hx
        have hll : ((((rows.map (·.1)).map V.int).length : Nat) : Int) - 1 = ((rows.length - 1 : Nat) : Int) := by rw [List.length_map, hol]; omega
        have hat1 : atI vs3 (((((rows.map (·.1)).map V.int).length : Nat) : Int) - 1) = some (.ref q') := by rw [hll]; exact atI_nat hv0
        have hat2 : atI ((rows.map (·.1)).map V.int) (((((rows.map (·.1)).map V.int).length : Nat) : Int) - 1) = some (.int x.1) := by
          rw [hll]; refine atI_nat ?_
          rw [List.getElem?_map, List.getElem?_map, hx]; rfl
        walk_at "go"
        intro pt hpt
        have e4 : Ext H3 (upd H3 pt (.tup [.int x.1, .int (-x.1)])) := Ext.new hpt
        have hpt4 : upd H3 pt (.tup [.int x.1, .int (-x.1)]) pt = some (.tup [.int x.1, .int (-x.1)]) := L2.upd_same
        have hS4 := hS3.ext e4
        have hE04 := hE03.trans e4
        generalize upd H3 pt (.tup [.int x.1, .int (-x.1)]) = H4 at *
        walk_at "go"
        refine for_tup (K := K) (a := pt) (xs := [.int x.1, .int (-x.1)]) (fun i σ H' => ∃ t9 : Option V, σ = [some (.ref sd), some (.ref p), some (.ref da), some (.ref oa), some (.int ((num rows ns.length : Nat) : Int)), t1, t2, t3, some (.int (x.2 : Nat)), t9, none] ∧ Ext H4 H')
          ⟨_, rfl, Ext.refl⟩ (fun i σ H' _ ⟨_, _, e⟩ => SqT.of (e.get hpt4 (npl rfl))) ?_ ?_
        · rintro i v σ H5 hv ⟨t9, rfl, e5⟩
          obtain ⟨l, rfl, hl⟩ : ∃ l : Int, v = .int l ∧ x.1.natAbs = l.natAbs := by
            match i, hv with
            | 0, hv => exact ⟨x.1, (Option.some.inj hv).symm, rfl⟩
            | 1, hv => exact ⟨-x.1, (Option.some.inj hv).symm, (Int.natAbs_neg _).symm⟩
            | n + 2, hv => simp at hv
          have hS5 := hS4.ext e5
          obtain ⟨dx, z, hp5⟩ := hS5.tr.ob
          walk_at "go"
          refine ⟨ns, p, k, o, s, t, m, rows, dep, l, x, rfl, hS5.tr, hxm, hl, ?_⟩
          walk_at "go"
          refine call_alike (.int (x.2 : Int)) (.int (x.2 : Int)) trivial fun H6 hE6 => ?_
          walk_at "go"
          exact ⟨_, rfl, e5.trans hE6⟩
        · rintro σ H5 ⟨t9, rfl, e5⟩
          exact ⟨_, _, rfl, hE04.trans e5⟩
      · walk_at "go"
        exact ⟨_, _, rfl, hE03⟩
    rintro σ' H4 ⟨t8, t9, rfl, hE4⟩
    have hsd4 := (S.ext hE4).fsd
    walk_at "go"
    exact q H4 hE4
end
end Kf

end
section
set_option Elab.async false
set_option linter.all false
set_option maxRecDepth 100000
set_option maxHeartbeats 4000000
local macro_rules | `(tactic| walk_at "npl") => `(tactic| first | exact Kf.npl rfl | exact Kf.npl_ints _ | exact Kf.npl_one _ _ | exact Kf.npl_refs _ | assumption)
local macro_rules | `(tactic| walk_at "nn") => `(tactic| first
  | assumption
  | (refine' Kf.Ext.non ?nne ?nnh; (case nne => assumption); (case nnh => walk_at "nn")))
local macro_rules | `(tactic| walk_at "ext") => `(tactic| first
  | assumption
  | exact Kf.Ext.refl
  | (refine' Kf.Ext.newer ?exa ?exn; (case exn => assumption); (case exa => walk_at "ext"))
  | (refine' Kf.Ext.own ?exa ?exn; (case exn => walk_at "nn"); (case exa => walk_at "ext"))
  | (refine' Kf.Ext.trans ?exa ?exb; (case exb => assumption); (case exa => walk_at "ext")))
local macro_rules | `(tactic| walk_at "pool") => `(tactic| first
  | assumption
  | (refine' Kf.PoolAt.ext ?plh ?ple; (case plh => assumption); (case ple => walk_at "ext"))
  | (refine' Kf.PoolAt.upd ?plh ?plo ?pln; (case plo => assumption); (case pln => walk_at "npl"); (case plh => walk_at "pool")))
local macro_rules | `(tactic| walk_at "lk") => `(tactic| first
  | assumption
  | exact L2.upd_same
  | (refine' Kf.upd_old ?lkn ?lkh; (case lkn => assumption); (case lkh => walk_at "lk"))
  | (refine' Kf.upd_oth ?lkn ?lkh; (case lkn => (first | assumption | (apply Ne.symm; assumption))); (case lkh => walk_at "lk"))
  | (refine' Kf.Ext.get ?lke ?lkh ?lkn; (case lke => assumption); (case lkh => walk_at "lk"); (case lkn => walk_at "npl"))
  | (refine' L2.Same.at ?lke ?lkh; (case lke => assumption); (case lkh => walk_at "lk")))
local macro_rules | `(tactic| walk_at "sq") => `(tactic| first
  | assumption
  | (refine' L2.SqL.of ?sqh; (case sqh => walk_at "lk"))
  | (refine' L2.SqT.of ?sqh; (case sqh => walk_at "lk"))
  | (refine' Kf.Ext.seqL ?sqe ?sqh ?sqn; (case sqh => assumption); (case sqe => walk_at "ext"); (case sqn => walk_at "npl"))
  | (refine' Kf.Ext.seqT ?sqe ?sqh; (case sqh => assumption); (case sqe => walk_at "ext")))
local macro_rules | `(tactic| walk_at "at") => `(tactic| first | exact L2.atI_nat (j := 0) rfl | exact L2.atI_nat (j := 1) rfl | exact L2.atI_nat (j := 2) rfl | exact L2.atI_nat (j := 3) rfl | exact L2.atI_nat (j := 4) rfl | assumption)
local macro_rules | `(tactic| walk_at "ixn") => `(tactic| first | exact Kf.ixN_nat (j := 0) rfl | exact Kf.ixN_nat (j := 1) rfl | exact Kf.ixN_nat (j := 2) rfl | exact Kf.ixN_nat (j := 3) rfl | assumption)
local macro_rules | `(tactic| walk_at "set") => `(tactic| (first | (simp only [List.set_cons_succ, List.set_cons_zero]; rfl) | rfl))
local macro_rules | `(tactic| walk_at "om") => `(tactic| first | decide | omega | (simp only [List.length_map, List.length_cons, List.length_nil] at *; omega))
local macro_rules | `(tactic| walk_at "calls") => `(tactic| first
  | (with_reducible refine' Kf.call_take ?clp ?cla ?clb ?clq; (case clp => walk_at "pool"); (case cla => walk_at "om"); (case clb => walk_at "om"); intro r H' hE h0 h1)
  | (with_reducible refine' Kf.call_pool ?cls ?cla ?clq; (case cls => walk_at "sq"); (case cla => walk_at "om"); intro p H' hE hN hP)
  | (with_reducible refine' Kf.call_turn ?cls ?clp ?cla ?clq; (case cls => walk_at "sq"); (case clp => walk_at "pool"); (case cla => walk_at "om"); intro u H' hE hP))
local macro_rules | `(tactic| walk_at "side") => `(tactic| first
  | exact Kf.cmul_fmod (by decide) (by decide)
  | exact rfl
  | decide
  | omega
  | assumption
  | (refine ⟨?_, ?_⟩ <;> decide)
  | (refine ⟨?_, ?_, ?_⟩ <;> decide)
  | (refine ⟨?_, ?_⟩ <;> omega)
  | (refine Or.inl ⟨?_, ?_⟩ <;> decide)
  | (refine Or.inr ⟨?_, ?_⟩ <;> decide)
  | (refine Or.inl ⟨?_, ?_⟩ <;> omega)
  | (refine Or.inr ⟨?_, ?_⟩ <;> omega))
local macro_rules | `(tactic| walk_at "kit") => `(tactic| first | exact Kf.isi_int_int | exact Kf.isi_int_bool | exact Kf.isi_int_str | exact Kf.isi_int_list | exact Kf.isi_int_tuple | exact Kf.isi_bool_int | exact Kf.isi_bool_bool | exact Kf.isi_bool_str | exact Kf.isi_bool_list | exact Kf.isi_bool_tuple | exact Kf.isi_str_int | exact Kf.isi_str_bool | exact Kf.isi_str_str | exact Kf.isi_str_list | exact Kf.isi_str_tuple | exact Kf.isi_non_list | exact Kf.isi_non_tuple | exact Kf.isi_list_list | exact Kf.isi_list_tuple | exact Kf.isi_tuple_list | exact Kf.isi_tuple_tuple | exact Kf.isi_dict_dict)
local macro_rules | `(tactic| walk_at "ty") => `(tactic| first
  | exact L2.TyX.base (L2.TyOf.int _)
  | exact L2.TyX.base (L2.TyOf.bl _)
  | exact L2.TyX.base (L2.TyOf.str _)
  | exact L2.TyX.base L2.TyOf.non
  | (refine' L2.TyX.base (L2.TyOf.lst ?tyh); (case tyh => walk_at "lk"))
  | (refine' L2.TyX.base (L2.TyOf.tup ?tyh); (case tyh => walk_at "lk"))
  | (refine' L2.TyX.base (L2.TyOf.dK ?tyh); (case tyh => walk_at "lk")))
local macro_rules | `(tactic| walk_at "om2") => `(tactic| first | assumption | decide | omega)
local macro_rules | `(tactic| walk_at "st") => `(tactic| with_reducible first
  | (refine Kf.w_var rfl ?_)
  | (refine Kf.w_c ?_)
  | (refine Kf.w_seq ?_)
  | (refine Kf.w_asg ?_)
  | (refine' Kf.w_gname ?sth ?_; (case sth => with_unfolding_all walk_at "set"))
  | (refine Kf.w_op ?_)
  | (refine Kf.w_un ?_)
  | (refine Kf.w_rU ?_)
  | (refine Kf.w_rI0 ?_)
  | (refine' Kf.w_rI ?sth ?_; (case sth => with_unfolding_all walk_at "side"))
  | (refine' Kf.w_rEq ?sth ?_; (case sth => with_unfolding_all rfl))
  | (refine' Kf.w_rNe ?sth ?_; (case sth => with_unfolding_all rfl))
  | (refine Kf.w_tTest ?_)
  | (refine Kf.w_tB ?_)
  | (refine Kf.w_exbl ?_)
  | (refine Kf.w_exint ?_)
  | (refine Kf.w_ifS ?_)
  | (refine Kf.w_ret ?_)
  | (refine Kf.w_retN ?_)
  | (refine Kf.w_drop ?_)
  | (refine Kf.w_and ?_)
  | (refine Kf.w_or ?_)
  | (refine Kf.w_not ?_)
  | (refine Kf.w_andV ?_)
  | (refine Kf.w_orV ?_)
  | (refine Kf.w_notV ?_)
  | (refine Kf.w_if ?_)
  | (refine Kf.w_lc ?_)
  | (refine Kf.w_for ?_)
  | (refine Kf.w_rng1 ?_)
  | (refine' Kf.w_rng1x ?sth ?stg ?_; (case sth => with_unfolding_all walk_at "om"); (case stg => with_unfolding_all walk_at "om"))
  | (refine Kf.w_ilist ?_)
  | (refine Kf.w_iseq ?_)
  | (refine Kf.w_itup ?_)
  | (refine' Kf.w_ilistx ?sth ?_; (case sth => with_unfolding_all walk_at "sq"))
  | (refine' Kf.w_itupx ?sth ?_; (case sth => with_unfolding_all walk_at "sq"))
  | (refine' Kf.w_wipe ?sth ?_; (case sth => with_unfolding_all rfl))
  | (refine Kf.w_yes ?_)
  | (refine' Kf.w_isi ?sth ?stg ?_; (case sth => with_unfolding_all walk_at "ty"); (case stg => walk_at "kit"))
  | (refine Kf.w_isN ?_)
  | (refine Kf.w_notN ?_)
  | (refine Kf.w_cb ?_)
  | (refine Kf.w_nil ?_)
  | (refine Kf.w_cons ?_)
  | (refine Kf.w_tup ?_)
  | (refine Kf.w_lst ?_)
  | (refine' Kf.w_lines ?sth ?_; (case sth => with_unfolding_all rfl))
  | (refine Kf.w_call ?_)
  | (refine Kf.w_next ?_)
  | (refine Kf.w_break ?_)
  | (refine Kf.w_cont ?_)
  | (refine Kf.w_dnewK ?_)
  | (refine Kf.w_fld ?_)
  | (refine' Kf.w_fldx ?sth ?stg ?stf ?ste ?_; (case sth => with_unfolding_all walk_at "lk"); (case stg => assumption); (case stf => assumption); (case ste => with_unfolding_all exact rfl))
  | (refine Kf.w_sfld ?_)
  | (refine' Kf.w_sfldx ?sth ?stg ?stf ?ste ?_; (case sth => with_unfolding_all walk_at "lk"); (case stg => assumption); (case stf => assumption); (case ste => with_unfolding_all exact rfl))
  | (refine Kf.w_meth ?_)
  | (refine' Kf.w_methx ?sth ?stg ?_; (case sth => with_unfolding_all walk_at "lk"); (case stg => with_unfolding_all exact rfl))
  | (refine Kf.w_ddel ?_)
  | (refine Kf.w_disp ?_)
  | (refine Kf.w_pcons ?_)
  | (refine Kf.w_pnil ?_)
  | (refine Kf.w_make ?_)
  | (refine Kf.w_sfldaug ?_)
  | (refine' Kf.w_sfldaugx ?sth ?stg ?stf ?ste ?_; (case sth => with_unfolding_all walk_at "lk"); (case stg => assumption); (case stf => assumption); (case ste => with_unfolding_all exact rfl))
  | (refine Kf.w_inadd ?_)
  | (refine Kf.w_dnotin ?_)
  | (refine Kf.w_dget1 ?_)
  | (refine' Kf.w_dgetS ?sth ?stg ?_; (case sth => with_unfolding_all walk_at "lk"); (case stg => with_unfolding_all exact rfl))
  | (refine Kf.w_ikeys ?_)
  | (refine Kf.w_dput ?_)
  | (refine Kf.w_dget2 ?_)
  | (refine Kf.w_dget ?_)
  | (refine Kf.w_sl ?_)
  | (refine Kf.w_nopart ?_)
  | (refine Kf.w_part ?_)
  | (refine Kf.w_bm ?_)
  | (refine Kf.w_bm0 ?_)
  | (refine' Kf.w_bmL ?sth ?_; (case sth => with_unfolding_all walk_at "lk"))
  | (refine' Kf.w_cat ?sth ?stg ?stf ?_; (case sth => with_unfolding_all walk_at "lk"); (case stg => with_unfolding_all walk_at "lk"); (case stf => with_unfolding_all walk_at "om"))
  | (refine' Kf.w_slL ?sth ?_; (case sth => with_unfolding_all walk_at "sq"))
  | (refine' Kf.w_inL ?sth ?_; (case sth => with_unfolding_all walk_at "sq"))
  | (refine' Kf.w_inT ?sth ?_; (case sth => with_unfolding_all walk_at "sq"))
  | (refine' Kf.w_ninL ?sth ?_; (case sth => with_unfolding_all walk_at "sq"))
  | (refine' Kf.w_ninT ?sth ?_; (case sth => with_unfolding_all walk_at "sq"))
  | (refine' Kf.w_listof ?sth ?_; (case sth => with_unfolding_all walk_at "sq"))
  | (refine' Kf.w_tupof ?sth ?_; (case sth => with_unfolding_all walk_at "sq"))
  | (refine Kf.w_listRev ?_)
  | (refine Kf.w_gsub ?_)
  | (refine' Kf.w_ixL ?sth ?stg ?_; (case sth => with_unfolding_all walk_at "sq"); (case stg => with_unfolding_all walk_at "at"))
  | (refine' Kf.w_ixT ?sth ?stg ?_; (case sth => with_unfolding_all walk_at "sq"); (case stg => with_unfolding_all walk_at "at"))
  | (refine' Kf.w_setL ?sth ?stg ?_; (case sth => with_unfolding_all walk_at "lk"); (case stg => with_unfolding_all walk_at "ixn"))
  | (refine' Kf.w_len ?sth ?_; (case sth => with_unfolding_all walk_at "sq"))
  | (refine' Kf.w_lenT ?sth ?_; (case sth => with_unfolding_all walk_at "sq"))
  | (refine Kf.w_int1 ?_)
  | (refine Kf.w_intb ?_)
  | (refine Kf.w_abs ?_)
  | (refine Kf.w_aug rfl ?_)
  | (refine Kf.w_par ?_)
  | (refine' Kf.w_gtup ?sth ?stg ?_; (case sth => with_unfolding_all walk_at "sq"); (case stg => with_unfolding_all exact rfl))
  | (refine' Kf.w_glst ?sth ?stg ?_; (case sth => with_unfolding_all walk_at "sq"); (case stg => with_unfolding_all exact rfl))
  | (refine Kf.w_rng2 ?_)
  | (refine Kf.w_rng3 ?_)
  | (refine' Kf.w_rng2x ?sth ?stg ?stf ?ste ?_; (case sth => with_unfolding_all walk_at "om"); (case stg => with_unfolding_all walk_at "om"); (case stf => with_unfolding_all walk_at "om"); (case ste => with_unfolding_all walk_at "om"))
  | (refine Kf.w_gcons ?_)
  | (refine Kf.w_gnil ?_)
  | (refine Kf.w_gcd ?_)
  | (refine Kf.w_bits ?_)
  | (refine Kf.w_two ?_)
  | (refine Kf.w_ipI ?_)
  | (refine L2.iteT ?_)
  | (refine L2.iteF ?_)
  | (refine Kf.iteNT ?_)
  | (refine Kf.iteNF ?_)
  | (refine' Kf.ite_decT ?sth ?_; (case sth => exact rfl))
  | (refine' Kf.ite_decF ?sth ?_; (case sth => with_unfolding_all (intro e; cases e; done)))
  | (refine' Kf.ite_ndecF ?sth ?_; (case sth => exact rfl))
  | (refine' Kf.ite_ndecT ?sth ?_; (case sth => with_unfolding_all (intro e; cases e; done)))
  | (refine' Kf.ite_viT ?sth ?_; (case sth => (with_unfolding_all walk_at "om2")))
  | (refine' Kf.ite_viF ?sth ?_; (case sth => (with_unfolding_all walk_at "om2")))
  | (refine' Kf.ite_nviT ?sth ?_; (case sth => (with_unfolding_all walk_at "om2")))
  | (refine' Kf.ite_nviF ?sth ?_; (case sth => (with_unfolding_all walk_at "om2")))
  | (refine' Kf.ite_decT ?sth ?_; (case sth => (with_unfolding_all walk_at "om2")))
  | (refine' Kf.ite_decF ?sth ?_; (case sth => (with_unfolding_all walk_at "om2")))
  | with_unfolding_all walk_at "calls")
local macro_rules | `(tactic| walk_at "go") => `(tactic| repeat walk_at "st")

namespace Kf
open PySem PySem.Spec PyProof.Rows L2
open R8 (RowsT cnt dg upTo ROk num bnds)
abbrev s__law_put : Stmt := topS 20
abbrev N__law_put : List Str := ["pool", "seat", "choosing", "free", "literal", "reason", "rows"]
abbrev P__law_put : List Str := ["pool", "seat", "choosing"]
theorem sc__law_put : FnScope N__law_put P__law_put (defScope s__law_put) := ⟨rfl, rfl, rfl, by decide +kernel, rfl, by decide +kernel, by decide +kernel⟩
abbrev s__law_backed : Stmt := topS 21
abbrev N__law_backed : List Str := ["pool", "seat", "before", "level", "number", "row"]
abbrev P__law_backed : List Str := ["pool", "seat", "before"]
theorem sc__law_backed : FnScope N__law_backed P__law_backed (defScope s__law_backed) := ⟨rfl, rfl, rfl, by decide +kernel, rfl, by decide +kernel, by decide +kernel⟩
theorem TrailAt.exc {C : Addr} {ns : List Int} {H H' : Hp} {D : List Addr} {p k o s t m : Addr} {rows : RowsT} {dep : Nat} (T : TrailAt C ns H p k o s t m rows dep) (e : Exc D H H') (hp : p ∉ D) (hk : k ∉ D) (ho : o ∉ D) (hs : s ∉ D) (ht : t ∉ D) (hm : m ∉ D) (tk : ∀ b xs, H b = some (.tup xs) → H' b = some (.tup xs)) : TrailAt C ns H' p k o s t m rows dep := by
  obtain ⟨dx, z, gp⟩ := T.ob
  obtain ⟨kk, gk, hkk⟩ := T.kn
  obtain ⟨ks, gs, hst⟩ := T.st
  obtain ⟨ms, gm, hml⟩ := T.mm
  exact ⟨⟨dx, z, e.get gp hp (npl rfl)⟩, ⟨kk, e.get gk hk (npl rfl), hkk⟩, e.get T.od ho (npl_ints _), ⟨ks, e.get gs hs (npl rfl), hst.kept tk⟩, e.get T.ss ht (npl_ints _), ⟨ms, e.get gm hm (npl_ints _), hml⟩, T.nk, T.n1, T.n2, T.n3, T.ok, T.nl⟩
theorem Exc.tups {D : List Addr} {H H' : Hp} (e : Exc D H H') (hD : ∀ b ∈ D, ∀ xs, H b ≠ some (.tup xs)) : ∀ b xs, H b = some (.tup xs) → H' b = some (.tup xs) := fun b xs hb => e.get hb (fun z => hD b z xs hb) (npl rfl)
def SeatX (C : Addr) (ns : List Int) (H : Hp) (sd na : Addr) (D : List Addr) (rows : RowsT) (dep : Nat) (nu bn : Int) : Prop := ∃ r p k o s t m, D = [sd, r, p, k, o, s, t, m] ∧ SeatAt C ns H sd na r p k o s t m rows dep nu bn
theorem SeatX.ext {C : Addr} {ns : List Int} {H H' : Hp} {sd na : Addr} {D : List Addr} {rows : RowsT} {dep : Nat} {nu bn : Int} (S : SeatX C ns H sd na D rows dep nu bn) (e : Ext H H') : SeatX C ns H' sd na D rows dep nu bn := by
  obtain ⟨r, p, k, o, s, t, m, rfl, S⟩ := S
  exact ⟨r, p, k, o, s, t, m, rfl, S.ext e⟩
/-- what stands at a seat's own objects -/
theorem SeatX.own {C : Addr} {ns : List Int} {H : Hp} {sd na : Addr} {D : List Addr} {rows : RowsT} {dep : Nat} {nu bn : Int} (S : SeatX C ns H sd na D rows dep nu bn) : ∀ b ∈ D, ∃ o, H b = some o ∧ ¬ Pl o ∧ ∀ xs, o ≠ .tup xs := by
  obtain ⟨r, p, k, o, s, t, m, rfl, S⟩ := S
  obtain ⟨vs, h1, h2⟩ := S.frs
  obtain ⟨dx, z, hp⟩ := S.tr.ob
  obtain ⟨kk, hk, hkk⟩ := S.tr.kn
  obtain ⟨ks, hs, hst⟩ := S.tr.st
  obtain ⟨ms, hm, hml⟩ := S.tr.mm
  intro b hb
  simp only [List.mem_cons, List.not_mem_nil, or_false] at hb
  rcases hb with rfl | rfl | rfl | rfl | rfl | rfl | rfl | rfl
  · exact ⟨_, S.fsd, npl rfl, fun xs z => nomatch z⟩
  · exact ⟨_, h1, h2.npl, fun xs z => nomatch z⟩
  · exact ⟨_, hp, npl rfl, fun xs z => nomatch z⟩
  · exact ⟨_, hk, npl rfl, fun xs z => nomatch z⟩
  · exact ⟨_, S.tr.od, npl_ints _, fun xs z => nomatch z⟩
  · exact ⟨_, hs, npl rfl, fun xs z => nomatch z⟩
  · exact ⟨_, S.tr.ss, npl_ints _, fun xs z => nomatch z⟩
  · exact ⟨_, hm, npl_ints _, fun xs z => nomatch z⟩
theorem SeatX.notup {C : Addr} {ns : List Int} {H : Hp} {sd na : Addr} {D : List Addr} {rows : RowsT} {dep : Nat} {nu bn : Int} (S : SeatX C ns H sd na D rows dep nu bn) : ∀ b ∈ D, ∀ xs, H b ≠ some (.tup xs) := fun b hb xs z => by
  obtain ⟨o, h1, _, h3⟩ := S.own b hb
  rw [h1] at z; cases z
  exact h3 xs rfl
theorem SeatX.pool {C : Addr} {ns : List Int} {H H' : Hp} {sd na : Addr} {D : List Addr} {rows : RowsT} {dep : Nat} {nu bn : Int} {v : V} (S : SeatX C ns H sd na D rows dep nu bn) (h : PoolAt H v) (e : Exc D H H') : PoolAt H' v := h.exc e fun b hb o ho => by
  obtain ⟨o', h1, h2, _⟩ := S.own b hb
  rw [h1] at ho; cases ho
  exact h2
/-- another seat's deed leaves this one as it is -/
theorem SeatX.exc {C : Addr} {ns : List Int} {H H' : Hp} {sd na : Addr} {D E : List Addr} {rows : RowsT} {dep : Nat} {nu bn : Int} (S : SeatX C ns H sd na E rows dep nu bn) (e : Exc D H H') (dis : ∀ b ∈ E, b ∉ D) (hna : na ∉ D) (nt : ∀ b ∈ D, ∀ xs, H b ≠ some (.tup xs)) : SeatX C ns H' sd na E rows dep nu bn := by
  obtain ⟨r, p, k, o, s, t, m, rfl, S⟩ := S
  have tk := e.tups nt
  obtain ⟨vs, h1, h2⟩ := S.frs
  refine ⟨r, p, k, o, s, t, m, rfl, ⟨e.get S.fsd (dis _ (by simp)) (npl rfl), e.get S.fna hna (npl_ints _), ⟨vs, e.get h1 (dis _ (by simp)) h2.npl, h2.kept tk⟩, S.tr.exc e (dis _ (by simp)) (dis _ (by simp)) (dis _ (by simp)) (dis _ (by simp)) (dis _ (by simp)) (dis _ (by simp)) tk, S.d1, S.d2, S.r1, S.r2, S.r3, S.r4, S.a1, S.a2, S.a3, S.pos⟩⟩
theorem fre_mem {ns : List Int} {rows : RowsT} {n : Int} : n ∈ fre ns rows ↔ n ∈ ns ∧ n ∉ rows.map fun x => ((x.1.natAbs : Nat) : Int) := by
  unfold fre; rw [List.mem_filter, decide_eq_true_eq]
theorem sd_dep' {p na r : Addr} {d n b d' : Int} : putK (seatD p na r d n b) (.inr "depth") (V.int d') = seatD p na r d' n b := rfl
theorem sd_rows' {p na r r' : Addr} {d n b : Int} : putK (seatD p na r d n b) (.inr "rows") (V.ref r') = seatD p na r' d n b := rfl
theorem sd_num' {p na r : Addr} {d n b n' : Int} : putK (seatD p na r d n b) (.inr "number") (V.int n') = seatD p na r d n' b := rfl
section
variable {P : Program} {w : World} {K : PySem.W.Frag} {mg : Str → Option Value} {base : Heap} {H : Hp} {Q : VK} {E : XK} {C : Addr}
def spPut8 (C : Addr) : Sp := fun vs H Q _ => ∃ (ns : List Int) (v : V) (sd na : Addr) (D : List Addr) (rows : RowsT) (dep : Nat) (nu bn : Int) (ch : Bool), vs = [v, .ref sd, .bl ch] ∧ PoolAt H v ∧ SeatX C ns H sd na D rows dep nu bn ∧ fre ns rows ≠ [] ∧
  ∀ H' lit d, d = (if ch = true then dep + 1 else dep) → ((lit.natAbs : Nat) : Int) ∈ fre ns rows → Exc D H H' → SeatX C ns H' sd na D (rows ++ [(lit, d)]) d nu bn → Q (.bl true) H'
theorem ok_put8 (D : Df K mg "_law_put" s__law_put P__law_put) (T : TrC K C) (p__law_take : Pr P w K mg base "_law_take" 1 P__law_take (spTake K)) (p__law_pick : Pr P w K mg base "_law_pick" 2 P__law_pick (spPick K)) (p__law_free : Pr P w K mg base "_law_free" 1 P__law_free (spFre C)) (p_Trail_choose : PrM P w K mg base C "choose" 3 P_Trail_choose (spCho C)) (p_Trail_force : PrM P w K mg base C "force" 3 P_Trail_force (spFor C)) : Pr P w K mg base "_law_put" 4 P__law_put (spPut8 C) := by
  refine D.ok sc__law_put (fun vs H Q E h => ?_) (fun f cdv A outer s H vs Q E hr h => ?_)
  · obtain ⟨ns, v, sd, na, D, rows, dep, nu, bn, ch, rfl, _⟩ := h; rfl
  obtain ⟨ns, v, sd, na, D, rows, dep, nu, bn, ch, rfl, hP, ⟨r, p, k, o, s, t, m, rfl, S⟩, hf0, q⟩ := h
  obtain ⟨c_Trail, a1, a2, a3, a4, a5, a6⟩ := T
  have nl := S.tr.nl
  have rl := S.tr.ok.len
  have dl := S.tr.ok.dep_le
  have nd := sc__law_put.nd
  have hu := hu_of hr
  have frl : (fre ns rows).length ≤ ns.length := List.length_filter_le _ _
  refine ⟨_, (pss_cons (ps_set (i := 3) nd rfl (Or.inl rfl) (pe_callP p__law_free hr (pa_cons (pv 1) pa_nil)))
      (pss_cons (ps_set (i := 4) nd rfl (Or.inl rfl) (pe_op op_mul (pe_callP p__law_pick hr (pa_cons (pv 0) (pa_cons (pv 3) pa_nil))) (pe_op op_sub pe_int (pe_op op_mul pe_int (pe_callP p__law_take hr (pa_cons (pv 0) (pa_cons pe_int pa_nil)))))))
      (pss_cons (ps_set (i := 5) nd rfl (Or.inl rfl) (pe_callP p__law_take hr (pa_cons (pv 0) (pa_cons (pe_ix (ix_tupK (K := K) rfl) (pe_tup (pa_cons pe_int (pa_cons pe_int (pa_cons pe_int pa_nil)))) (pe_callP p__law_take hr (pa_cons (pv 0) (pa_cons pe_int pa_nil))) (fun _ _ => rfl)) pa_nil))))
      (pss_cons (ps_set (i := 6) nd rfl (Or.inl rfl) (pe_dget hu (pv 1) pe_str (fun _ _ => rfl)))
      (pss_cons (ps_if (pt_val (pv 2)) (pss_cons (ps_dput hu (pv 1) pe_str (pe_op op_add (pe_dget hu (pv 1) pe_str (fun _ _ => rfl)) pe_int) rfl)
      (pss_cons (ps_expr (pe_bmK (K := K) rfl PySem.F.plainAttrs_list PySem.F.slot_list_append PySem.F.type_list_append mt_append (pv 6) (pa_cons (pe_tup (pa_cons (pv 4) (pa_cons (pe_dget hu (pv 1) pe_str (fun _ _ => rfl)) pa_nil))) pa_nil)))
      (pss_one (ps_ret (pe_cmp (pc_isN (pe_methP p_Trail_choose c_Trail hr (pe_dget hu (pv 1) pe_str (fun _ _ => rfl)) (pa_cons (pv 4) pa_nil)))))))) pss_nil)
      (pss_cons (ps_expr (pe_bmK (K := K) rfl PySem.F.plainAttrs_list PySem.F.slot_list_append PySem.F.type_list_append mt_append (pv 6) (pa_cons (pe_tup (pa_cons (pv 4) (pa_cons (pe_dget hu (pv 1) pe_str (fun _ _ => rfl)) pa_nil))) pa_nil)))
      (pss_one (ps_ret (pe_cmp (pc_isN (pe_methP p_Trail_force c_Trail hr (pe_dget hu (pv 1) pe_str (fun _ _ => rfl)) (pa_cons (pv 4) (pa_cons (pv 5) pa_nil))))))))))))), ?_⟩
  refine w_start (σ := [some _, some _, some _, none, none, none, none]) rfl ?_
  walk_at "go"
  refine call_fre S fun fa H1 hfa hE1 hfv => ?_
  have hP1 := hP.ext hE1
  walk_at "go"
  refine call_pick hP1 (SqL.of hfv) (npl_ints _) (by simpa using hf0) (by rw [List.length_map]; omega) fun v1 H2 hv1 hE2 => ?_
  obtain ⟨n, hn, rfl⟩ := List.mem_map.mp hv1
  have hE02 := hE1.trans hE2
  have hP2 := hP.ext hE02
  have hnp := S.pos n (fre_mem.mp hn).1
  walk_at "go"
  rename_i tt H3 hE3 tt0 tt1
  have hE03 := hE02.trans hE3
  have hP3 := hP.ext hE03
  obtain ⟨lit, elit, hlit⟩ : ∃ lit : Int, lit = n * (1 - 2 * tt) ∧ ((lit.natAbs : Nat) : Int) = n := by
    refine ⟨_, rfl, ?_⟩
    rcases (show tt = 0 ∨ tt = 1 by omega) with rfl | rfl
    · simp; omega
    · rw [Int.natAbs_mul]; simp; omega
  rw [← elit]
  rw [← hlit] at hn
  walk_at "go"
  intro p3 hp3
  have e4 : Ext H3 (upd H3 p3 (.tup [.int 1, .int 5, .int 5000])) := Ext.new hp3
  have ht4 : upd H3 p3 (.tup [.int 1, .int 5, .int 5000]) p3 = some (.tup [.int 1, .int 5, .int 5000]) := L2.upd_same
  have hP4 := hP3.ext e4
  have hE04 := hE03.trans e4
  generalize upd H3 p3 (.tup [.int 1, .int 5, .int 5000]) = H4 at *
  walk_at "go"
  rename_i u H5 hE5 u0 u1
  have ht5 := hE5.get ht4 (npl rfl)
  have hP5 := hP4.ext hE5
  obtain ⟨z, hz, z0, z1⟩ : ∃ z, atI [V.int 1, .int 5, .int 5000] u = some (.int z) ∧ 0 < z ∧ z < 10000 := by
    rcases (show u = 0 ∨ u = 1 ∨ u = 2 by omega) with rfl | rfl | rfl
    · exact ⟨1, rfl, by decide, by decide⟩
    · exact ⟨5, rfl, by decide, by decide⟩
    · exact ⟨5000, rfl, by decide, by decide⟩
  refine w_ixT (SqT.of ht5) hz ?_
  walk_at "go"
  rename_i rs H6 hE6 rs0 rs1
  have hE06 := (hE04.trans hE5).trans hE6
  have S6 := S.ext hE06
  have hsd6 := S6.fsd
  obtain ⟨vs, hvs, hrw⟩ := S6.frs
  have vl := hrw.len
  obtain ⟨dx, zz, hp6⟩ := S6.tr.ob
  obtain ⟨kk, hk6, hkk⟩ := S6.tr.kn
  obtain ⟨ks, hs6, hst⟩ := S6.tr.st
  obtain ⟨ms, hm6, hml⟩ := S6.tr.mm
  have ho6 := S6.tr.od
  have ht6 := S6.tr.ss
  have hna6 := S6.fna
  have nsr := ne_dl hsd6 hvs
  have npsd := ne_id hp6 hsd6
  have npr := ne_il hp6 hvs
  have nkr := ne_dl hk6 hvs
  have nsr' := ne_dl hs6 hvs
  have nso := ne_dl hsd6 ho6
  have nst := ne_dl hsd6 ht6
  have nsm := ne_dl hsd6 hm6
  have npna := ne_il hp6 hna6
  have nsdna := ne_dl hsd6 hna6
  have nsna := ne_dl hs6 hna6
  have nkna := ne_dl hk6 hna6
  have inN := (fre_mem.mp hn)
  clear hE1 hE2 hE02 hE3 hE03 hE04 e4 hE5 hE6 ht4 ht5 hfv hv1 hP1 hP2 hP3 hP4 hP5
  walk_at "go"
  cases ch with
  | true =>
    walk_at "go"
    refine ⟨sd, _, rfl, DPut.k (k := .inr "depth") hsd6 (small1000 (by show 6 ≤ 1000; decide)), ?_⟩
    rw [sd_dep']
    have hsd7 : upd H6 sd (.dK (seatD p na r ((dep : Int) + 1) nu bn)) sd = _ := L2.upd_same
    have hr7 := upd_oth (u := .dK (seatD p na r ((dep : Int) + 1) nu bn)) nsr.symm hvs
    have e7 : Exc [sd, r] H6 (upd H6 sd (.dK (seatD p na r ((dep : Int) + 1) nu bn))) := Exc.refl.upd (by simp)
    generalize upd H6 sd (.dK (seatD p na r ((dep : Int) + 1) nu bn)) = H7 at *
    walk_at "go"
    intro q1 hq1
    have hr8 := upd_old (u := .tup [.int lit, .int ((dep : Int) + 1)]) hq1 hr7
    walk_at "go"
    refine w_append hr8 (small1000 (by omega)) ?_
    have nqr : q1 ≠ r := (ne_of_none hr7 hq1).symm
    have e9 : Exc [sd, r] H6 (upd (upd H7 q1 (.tup [.int lit, .int ((dep : Int) + 1)])) r (.lst (vs ++ [.ref q1]))) := (e7.new hq1).upd (by simp)
    have hsd9 : upd (upd H7 q1 (.tup [.int lit, .int ((dep : Int) + 1)])) r (.lst (vs ++ [.ref q1])) sd = some (.dK (seatD p na r ((dep : Int) + 1) nu bn)) := upd_oth nsr (upd_old hq1 hsd7)
    have hr9 : upd (upd H7 q1 (.tup [.int lit, .int ((dep : Int) + 1)])) r (.lst (vs ++ [.ref q1])) r = some (.lst (vs ++ [.ref q1])) := L2.upd_same
    have hq9 : upd (upd H7 q1 (.tup [.int lit, .int ((dep : Int) + 1)])) r (.lst (vs ++ [.ref q1])) q1 = some (.tup [.int lit, .int ((dep : Int) + 1)]) := upd_oth nqr L2.upd_same
    generalize upd (upd H7 q1 (.tup [.int lit, .int ((dep : Int) + 1)])) r (.lst (vs ++ [.ref q1])) = H9 at *
    have tk9 := e9.tups (fun b hb xs z => by
      simp only [List.mem_cons, List.not_mem_nil, or_false] at hb
      rcases hb with rfl | rfl
      · rw [hsd6] at z; cases z
      · rw [hvs] at z; cases z)
    have T9 : TrailAt C ns H9 p k o s t m rows dep := S6.tr.exc e9 (by simp [npsd, npr]) (by simp [S.d1.symm, nkr]) (by simp [nso.symm, S.r1.symm]) (by simp [S.d2.symm, nsr']) (by simp [nst.symm, S.r2.symm]) (by simp [nsm.symm, S.r3.symm]) tk9
    obtain ⟨dx9, zz9, hp9⟩ := T9.ob
    walk_at "go"
    refine ⟨ns, p, k, o, s, t, m, rows, dep, lit, rfl, T9, inN.1, inN.2, fun H10 e10 T10 => ?_⟩
    show Q (V.bl (decide (V.non = V.non))) H10
    rw [decide_eq_true rfl]
    have nD : ∀ b ∈ [p, o, s, t, m], ∀ xs, H9 b ≠ some (.tup xs) := fun b hb xs z => by
      simp only [List.mem_cons, List.not_mem_nil, or_false] at hb
      obtain ⟨ks9, hs9, _⟩ := T9.st
      obtain ⟨ms9, hm9, _⟩ := T9.mm
      have ho9 := T9.od
      have ht9 := T9.ss
      rcases hb with rfl | rfl | rfl | rfl | rfl
      · rw [hp9] at z; cases z
      · rw [ho9] at z; cases z
      · rw [hs9] at z; cases z
      · rw [ht9] at z; cases z
      · rw [hm9] at z; cases z
    have tk10 := e10.tups nD
    have hrw9 : RwsAt H9 (vs ++ [.ref q1]) (rows ++ [(lit, dep + 1)]) := (hrw.kept tk9).snoc ⟨q1, rfl, by rw [hq9]; rfl⟩
    refine q H10 lit (dep + 1) rfl hn ?_ ⟨r, p, k, o, s, t, m, rfl, ?_⟩
    · exact (Exc.of hE06).trans ((e9.mono (by simp)).trans (e10.mono (by simp)))
    · have hna9 := e9.get hna6 (by simp [nsdna.symm, S.r4.symm]) (npl_ints _)
      exact ⟨by rw [e10.get hsd9 (by simp [npsd.symm, nso, S.d2, nst, nsm]) (npl rfl)]; rfl, e10.get hna9 (by simp [npna.symm, S.a1, nsna.symm, S.a2, S.a3]) (npl_ints _), ⟨_, e10.get hr9 (by simp [npr.symm, S.r1, nsr'.symm, S.r2, S.r3]) hrw9.npl, hrw9.kept tk10⟩, T10, S.d1, S.d2, S.r1, S.r2, S.r3, S.r4, S.a1, S.a2, S.a3, S.pos⟩
  | false =>
    have hr7 := hvs
    have hsd7 := hsd6
    have e7 : Exc [sd, r] H6 H6 := Exc.refl
    walk_at "go"
    intro q1 hq1
    have hr8 := upd_old (u := .tup [.int lit, .int (dep : Int)]) hq1 hr7
    walk_at "go"
    refine w_append hr8 (small1000 (by omega)) ?_
    have nqr : q1 ≠ r := (ne_of_none hvs hq1).symm
    have e9 : Exc [sd, r] H6 (upd (upd H6 q1 (.tup [.int lit, .int (dep : Int)])) r (.lst (vs ++ [.ref q1]))) := (e7.new hq1).upd (by simp)
    have hsd9 : upd (upd H6 q1 (.tup [.int lit, .int (dep : Int)])) r (.lst (vs ++ [.ref q1])) sd = some (.dK (seatD p na r (dep : Int) nu bn)) := upd_oth nsr (upd_old hq1 hsd7)
    have hr9 : upd (upd H6 q1 (.tup [.int lit, .int (dep : Int)])) r (.lst (vs ++ [.ref q1])) r = some (.lst (vs ++ [.ref q1])) := L2.upd_same
    have hq9 : upd (upd H6 q1 (.tup [.int lit, .int (dep : Int)])) r (.lst (vs ++ [.ref q1])) q1 = some (.tup [.int lit, .int (dep : Int)]) := upd_oth nqr L2.upd_same
    generalize upd (upd H6 q1 (.tup [.int lit, .int (dep : Int)])) r (.lst (vs ++ [.ref q1])) = H9 at *
    have tk9 := e9.tups (fun b hb xs z => by
      simp only [List.mem_cons, List.not_mem_nil, or_false] at hb
      rcases hb with rfl | rfl
      · rw [hsd6] at z; cases z
      · rw [hvs] at z; cases z)
    have T9 : TrailAt C ns H9 p k o s t m rows dep := S6.tr.exc e9 (by simp [npsd, npr]) (by simp [S.d1.symm, nkr]) (by simp [nso.symm, S.r1.symm]) (by simp [S.d2.symm, nsr']) (by simp [nst.symm, S.r2.symm]) (by simp [nsm.symm, S.r3.symm]) tk9
    obtain ⟨dx9, zz9, hp9⟩ := T9.ob
    walk_at "go"
    refine ⟨ns, p, k, o, s, t, m, rows, dep, lit, .int rs, rfl, T9, inN.1, inN.2, fun H10 e10 T10 => ?_⟩
    show Q (V.bl (decide (V.non = V.non))) H10
    rw [decide_eq_true rfl]
    have nD : ∀ b ∈ [p, o, s, t, m], ∀ xs, H9 b ≠ some (.tup xs) := fun b hb xs z => by
      simp only [List.mem_cons, List.not_mem_nil, or_false] at hb
      obtain ⟨ks9, hs9, _⟩ := T9.st
      obtain ⟨ms9, hm9, _⟩ := T9.mm
      have ho9 := T9.od
      have ht9 := T9.ss
      rcases hb with rfl | rfl | rfl | rfl | rfl
      · rw [hp9] at z; cases z
      · rw [ho9] at z; cases z
      · rw [hs9] at z; cases z
      · rw [ht9] at z; cases z
      · rw [hm9] at z; cases z
    have tk10 := e10.tups nD
    have hrw9 : RwsAt H9 (vs ++ [.ref q1]) (rows ++ [(lit, dep)]) := (hrw.kept tk9).snoc ⟨q1, rfl, hq9⟩
    refine q H10 lit (dep) rfl hn ?_ ⟨r, p, k, o, s, t, m, rfl, ?_⟩
    · exact (Exc.of hE06).trans ((e9.mono (by simp)).trans (e10.mono (by simp)))
    · have hna9 := e9.get hna6 (by simp [nsdna.symm, S.r4.symm]) (npl_ints _)
      exact ⟨by rw [e10.get hsd9 (by simp [npsd.symm, nso, S.d2, nst, nsm]) (npl rfl)], e10.get hna9 (by simp [npna.symm, S.a1, nsna.symm, S.a2, S.a3]) (npl_ints _), ⟨_, e10.get hr9 (by simp [npr.symm, S.r1, nsr'.symm, S.r2, S.r3]) hrw9.npl, hrw9.kept tk10⟩, T10, S.d1, S.d2, S.r1, S.r2, S.r3, S.r4, S.a1, S.a2, S.a3, S.pos⟩
theorem upTo_snoc {rows : RowsT} {x : Int × Nat} {l : Nat} : upTo (rows ++ [x]) l = upTo rows l ++ (if x.2 ≤ l then [x] else []) := by
  unfold R8.upTo
  rw [List.filter_append, List.filter_cons]
  by_cases h : x.2 ≤ l
  · rw [if_pos (decide_eq_true h), if_pos h]; rfl
  · rw [if_neg (by simpa using h), if_neg h]; rfl
def spBkd (C : Addr) : Sp := fun vs H Q _ => ∃ (ns : List Int) (v : V) (sd na : Addr) (D : List Addr) (rows : RowsT) (dep : Nat) (nu : Int), vs = [v, .ref sd, .int ((num rows ns.length : Nat) : Int)] ∧ PoolAt H v ∧ SeatX C ns H sd na D rows dep nu (((ns.length + 1) ^ (ns.length + 1) : Nat) : Int) ∧ 0 < dep ∧
  ∀ H' l D', l < dep → Exc D H H' → (∀ b ∈ D', b ∈ D ∨ H b = none) → SeatX C ns H' sd na D' (upTo rows l) l nu (((ns.length + 1) ^ (ns.length + 1) : Nat) : Int) → Q (.int ((num (upTo rows l) ns.length : Nat) : Int)) H'
theorem ok_backed8 (D : Df K mg "_law_backed" s__law_backed P__law_backed) (T : TrC K C) (p__law_take : Pr P w K mg base "_law_take" 1 P__law_take (spTake K)) (p_Trail_back : PrM P w K mg base C "back" 1 P_Trail_back (spBack C)) (p__law_told : Pr P w K mg base "_law_told" 4 P__law_told (spTol C)) : Pr P w K mg base "_law_backed" 5 P__law_backed (spBkd C) := by
  refine D.ok sc__law_backed (fun vs H Q E h => ?_) (fun f cdv A outer s H vs Q E hr h => ?_)
  · obtain ⟨ns, v, sd, na, D, rows, dep, nu, rfl, _⟩ := h; rfl
  obtain ⟨ns, v, sd, na, D, rows, dep, nu, rfl, hP, ⟨r, p, k, o, s, t, m, rfl, S⟩, hd0, q⟩ := h
  obtain ⟨c_Trail, a1, a2, a3, a4, a5, a6⟩ := T
  have nl := S.tr.nl
  have rl := S.tr.ok.len
  have dl := S.tr.ok.dep_le
  have nd := sc__law_backed.nd
  have hu := hu_of hr
  have hsd := S.fsd
  refine ⟨_, (pss_cons (ps_set (i := 3) nd rfl (Or.inr rfl) (pe_callP p__law_take hr (pa_cons (pv 0) (pa_cons (pe_dget hu (pv 1) pe_str (fun _ _ => rfl)) pa_nil))))
      (pss_cons (ps_dput hu (pv 1) pe_str (pe_lc (own := [("row", 5)]) rfl nd (pi_listK (K := K) rfl (pe_dget hu (pv 1) pe_str (fun _ _ => rfl))) (blkOk_by (N := N__law_backed) (sc := defScope s__law_backed) (by decide +kernel)) (fun _ _ _ _ _ => pg_name (i := 5) nd rfl (Or.inl rfl)) (fun _ _ _ _ _ => pts_one (pt_cmpR op_le (pe_ix (ix_tupK (K := K) rfl) (pv 5) pe_int (fun _ _ => rfl)) (pv 3) (nomark _))) (fun _ _ _ _ _ => (pv 5))) rfl)
      (pss_cons (ps_dput hu (pv 1) pe_str (pv 3) rfl)
      (pss_cons (ps_if (pt_cmp (pc_notN (pe_methP p_Trail_back c_Trail hr (pe_dget hu (pv 1) pe_str (fun _ _ => rfl)) (pa_cons (pv 3) pa_nil)))) (pss_one (ps_ret (pe_un un_neg pe_int))) pss_nil)
      (pss_cons (ps_set (i := 4) nd rfl (Or.inl rfl) (pe_callP p__law_told hr (pa_cons (pv 1) pa_nil)))
      (pss_one (ps_ret (pe_ifExp (pt_cmpR op_lt (pv 4) (pv 2) (nomark _)) (pv 4) (pe_un un_neg pe_int))))))))), ?_⟩
  refine w_start (σ := [some _, some _, some _, none, none, none]) rfl ?_
  walk_at "go"
  rename_i lv H1 hE1 l0 l1
  obtain ⟨l, rfl⟩ : ∃ l : Nat, lv = (l : Int) := ⟨lv.toNat, by omega⟩
  have hl : l < dep := by omega
  have S1 := S.ext hE1
  have hsd1 := S1.fsd
  obtain ⟨vs, hvs, hrw⟩ := S1.frs
  have vl := hrw.len
  walk_at "go"
  refine lc_l (K := K) (R := fun i acc Hd => RwsAt Hd acc (upTo (rows.take i) l) ∧ acc.length ≤ i) (SqL.of hvs) hrw.npl ⟨trivial, Nat.le_refl _⟩ (fun _ _ _ _ e h => ⟨h.1.kept fun b xs hb => e.get hb (npl rfl), h.2⟩) ?_ ?_
  · rintro i v0 acc D2 H2 hv hD2 hacc hE ⟨hra, hal⟩
    obtain ⟨q', x, rfl, ex, hq'⟩ := hrw.el hv
    have il := (List.getElem?_eq_some_iff.mp hv).1
    have hq2 := hE.get hq' (npl rfl)
    have et : rows.take (i + 1) = rows.take i ++ [x] := by rw [List.take_add_one, ex]; rfl
    walk_at "go"
    refine ite_d (fun c => ?_) (fun c => ?_)
    · walk_at "go"
      refine LcP.put hD2 hacc hra.npl hE Ext.refl (by omega) ⟨?_, by rw [List.length_append]; simp; omega⟩
      rw [et, upTo_snoc, if_pos (by omega)]
      exact hra.snoc ⟨q', rfl, del_at hq2 (ne_tl hq2 hacc)⟩
    · walk_at "go"
      refine LcP.skip hacc hra.npl hE Ext.refl ⟨?_, by omega⟩
      rw [et, upTo_snoc, if_neg (by omega), List.append_nil]
      exact hra
  rintro r' ws H2 hr' hws hE2 ⟨hrw2, hwl⟩
  rw [vl, List.take_length] at hrw2
  have hE02 := hE1.trans hE2
  have S2 := S.ext hE02
  have hsd2 := S2.fsd
  obtain ⟨dx, zz, hp2⟩ := S2.tr.ob
  obtain ⟨kk, hk2, hkk⟩ := S2.tr.kn
  obtain ⟨ks, hs2, hst⟩ := S2.tr.st
  obtain ⟨ms, hm2, hml⟩ := S2.tr.mm
  have ho2 := S2.tr.od
  have ht2 := S2.tr.ss
  have hna2 := S2.fna
  have npsd := ne_id hp2 hsd2
  have nso := ne_dl hsd2 ho2
  have nst := ne_dl hsd2 ht2
  have nsm := ne_dl hsd2 hm2
  have nsdna := ne_dl hsd2 hna2
  have npna := ne_il hp2 hna2
  have nsna := ne_dl hs2 hna2
  have npr' := ne_il hp2 hws
  have nsdr' := ne_dl hsd2 hws
  have nsr' := ne_dl hs2 hws
  have hnr' : H r' = none := hE1.non hr'
  have nr'o : r' ≠ o := (ne_of_none S.tr.od hnr').symm
  have nr't : r' ≠ t := (ne_of_none S.tr.ss hnr').symm
  have nr'm : r' ≠ m := by obtain ⟨ms0, hm0, _⟩ := S.tr.mm; exact (ne_of_none hm0 hnr').symm
  have nr'na : r' ≠ na := (ne_of_none S.fna hnr').symm
  walk_at "go"
  refine ⟨sd, _, rfl, DPut.k (k := .inr "rows") hsd2 (small1000 (by show 6 ≤ 1000; decide)), ?_⟩
  rw [sd_rows']
  have hsd3 : upd H2 sd (.dK (seatD p na r' (dep : Nat) nu (((ns.length + 1) ^ (ns.length + 1) : Nat) : Int))) sd = _ := L2.upd_same
  have e3 : Exc [sd] H2 (upd H2 sd (.dK (seatD p na r' (dep : Nat) nu (((ns.length + 1) ^ (ns.length + 1) : Nat) : Int)))) := Exc.refl.upd (by simp)
  generalize upd H2 sd (.dK (seatD p na r' (dep : Nat) nu (((ns.length + 1) ^ (ns.length + 1) : Nat) : Int))) = H3 at *
  walk_at "go"
  refine ⟨sd, _, rfl, DPut.k (k := .inr "depth") hsd3 (small1000 (by show 6 ≤ 1000; decide)), ?_⟩
  rw [sd_dep']
  have hsd4 : upd H3 sd (.dK (seatD p na r' (l : Nat) nu (((ns.length + 1) ^ (ns.length + 1) : Nat) : Int))) sd = _ := L2.upd_same
  have e4 : Exc [sd] H2 (upd H3 sd (.dK (seatD p na r' (l : Nat) nu (((ns.length + 1) ^ (ns.length + 1) : Nat) : Int)))) := e3.upd (by simp)
  generalize upd H3 sd (.dK (seatD p na r' (l : Nat) nu (((ns.length + 1) ^ (ns.length + 1) : Nat) : Int))) = H4 at *
  have tk4 := e4.tups (fun b hb xs z => by
    rw [List.mem_singleton] at hb; subst hb
    rw [hsd2] at z; cases z)
  have T4 : TrailAt C ns H4 p k o s t m rows dep := S2.tr.exc e4 (by simp [npsd]) (by simp [S.d1.symm]) (by simp [nso.symm]) (by simp [S.d2.symm]) (by simp [nst.symm]) (by simp [nsm.symm]) tk4
  have hws4 := e4.get hws (by simp [nsdr'.symm]) hrw2.npl
  have hna4 := e4.get hna2 (by simp [nsdna.symm]) (npl_ints _)
  have hrw4 := hrw2.kept tk4
  obtain ⟨dx4, zz4, hp4⟩ := T4.ob
  walk_at "go"
  refine ⟨ns, p, k, o, s, t, m, rows, dep, l, rfl, T4, hl, fun H5 o' t' m' ho' ht' hm' e5 T5 => ?_⟩
  have nD : ∀ b ∈ [p, o, s, t, m], ∀ xs, H4 b ≠ some (.tup xs) := fun b hb xs z => by
    simp only [List.mem_cons, List.not_mem_nil, or_false] at hb
    obtain ⟨ks9, hs9, _⟩ := T4.st
    obtain ⟨ms9, hm9, _⟩ := T4.mm
    have ho9 := T4.od
    have ht9 := T4.ss
    rcases hb with rfl | rfl | rfl | rfl | rfl
    · rw [hp4] at z; cases z
    · rw [ho9] at z; cases z
    · rw [hs9] at z; cases z
    · rw [ht9] at z; cases z
    · rw [hm9] at z; cases z
  have tk5 := e5.tups nD
  have nr'o' : r' ≠ o' := ne_of_none hws4 ho'
  have nr't' : r' ≠ t' := ne_of_none hws4 ht'
  have nr'm' : r' ≠ m' := ne_of_none hws4 hm'
  have nnao' : na ≠ o' := ne_of_none hna4 ho'
  have nnat' : na ≠ t' := ne_of_none hna4 ht'
  have nnam' : na ≠ m' := ne_of_none hna4 hm'
  have hsd5 := e5.get hsd4 (by simp [npsd.symm, nso, S.d2, nst, nsm]) (npl rfl)
  have S5 : SeatAt C ns H5 sd na r' p k o' s t' m' (upTo rows l) l nu (((ns.length + 1) ^ (ns.length + 1) : Nat) : Int) :=
    ⟨hsd5, e5.get hna4 (by simp [npna.symm, S.a1, nsna.symm, S.a2, S.a3]) (npl_ints _), ⟨ws, e5.get hws4 (by simp [npr'.symm, nr'o, nsr'.symm, nr't, nr'm]) hrw4.npl, hrw4.kept tk5⟩, T5, S.d1, S.d2, nr'o', nr't', nr'm', nr'na, nnao', nnat', nnam', S.pos⟩
  have e24 : Exc [sd, r, p, k, o, s, t, m] H H5 := (Exc.of hE02).trans ((e4.mono (by simp)).trans (e5.mono (by simp)))
  have n4 : ∀ b, H4 b = none → H b = none := fun b hb => by
    have hbs : b ≠ sd := fun z => by subst z; rw [hsd4] at hb; cases hb
    exact hE02.non (e4.non (by simpa using hbs) hb)
  walk_at "go"
  refine ⟨ns, sd, na, r', p, k, o', s, t', m', upTo rows l, l, nu, rfl, S5, fun H6 hE6 => ?_⟩
  have lt := R8.num_back (n := ns.length) S.tr.ok rl hl
  have hlt : ((num (upTo rows l) ns.length : Nat) : Int) < ((num rows ns.length : Nat) : Int) := by exact_mod_cast lt
  walk_at "go"
  refine q H6 l [sd, r', p, k, o', s, t', m'] hl (e24.trans (Exc.of hE6)) (fun b hb => ?_) ⟨r', p, k, o', s, t', m', rfl, S5.ext hE6⟩
  simp only [List.mem_cons, List.not_mem_nil, or_false] at hb
  rcases hb with rfl | rfl | rfl | rfl | rfl | rfl | rfl | rfl
  · simp
  · exact .inr hnr'
  · simp
  · simp
  · exact .inr (n4 _ ho')
  · simp
  · exact .inr (n4 _ ht')
  · exact .inr (n4 _ hm')
end
end Kf

end
section
set_option Elab.async false
set_option linter.all false
set_option maxRecDepth 100000
set_option maxHeartbeats 4000000
local macro_rules | `(tactic| walk_at "npl") => `(tactic| first | exact Kf.npl rfl | exact Kf.npl_ints _ | exact Kf.npl_one _ _ | exact Kf.npl_refs _ | assumption)
local macro_rules | `(tactic| walk_at "nn") => `(tactic| first
  | assumption
  | (refine' Kf.Ext.non ?nne ?nnh; (case nne => assumption); (case nnh => walk_at "nn")))
local macro_rules | `(tactic| walk_at "ext") => `(tactic| first
  | assumption
  | exact Kf.Ext.refl
  | (refine' Kf.Ext.newer ?exa ?exn; (case exn => assumption); (case exa => walk_at "ext"))
  | (refine' Kf.Ext.own ?exa ?exn; (case exn => walk_at "nn"); (case exa => walk_at "ext"))
  | (refine' Kf.Ext.trans ?exa ?exb; (case exb => assumption); (case exa => walk_at "ext")))
local macro_rules | `(tactic| walk_at "pool") => `(tactic| first
  | assumption
  | (refine' Kf.PoolAt.ext ?plh ?ple; (case plh => assumption); (case ple => walk_at "ext"))
  | (refine' Kf.PoolAt.upd ?plh ?plo ?pln; (case plo => assumption); (case pln => walk_at "npl"); (case plh => walk_at "pool")))
local macro_rules | `(tactic| walk_at "lk") => `(tactic| first
  | assumption
  | exact L2.upd_same
  | (refine' Kf.upd_old ?lkn ?lkh; (case lkn => assumption); (case lkh => walk_at "lk"))
  | (refine' Kf.upd_oth ?lkn ?lkh; (case lkn => (first | assumption | (apply Ne.symm; assumption))); (case lkh => walk_at "lk"))
  | (refine' Kf.Ext.get ?lke ?lkh ?lkn; (case lke => assumption); (case lkh => walk_at "lk"); (case lkn => walk_at "npl"))
  | (refine' L2.Same.at ?lke ?lkh; (case lke => assumption); (case lkh => walk_at "lk")))
local macro_rules | `(tactic| walk_at "sq") => `(tactic| first
  | assumption
  | (refine' L2.SqL.of ?sqh; (case sqh => walk_at "lk"))
  | (refine' L2.SqT.of ?sqh; (case sqh => walk_at "lk"))
  | (refine' Kf.Ext.seqL ?sqe ?sqh ?sqn; (case sqh => assumption); (case sqe => walk_at "ext"); (case sqn => walk_at "npl"))
  | (refine' Kf.Ext.seqT ?sqe ?sqh; (case sqh => assumption); (case sqe => walk_at "ext")))
local macro_rules | `(tactic| walk_at "at") => `(tactic| first | exact L2.atI_nat (j := 0) rfl | exact L2.atI_nat (j := 1) rfl | exact L2.atI_nat (j := 2) rfl | exact L2.atI_nat (j := 3) rfl | exact L2.atI_nat (j := 4) rfl | assumption)
local macro_rules | `(tactic| walk_at "ixn") => `(tactic| first | exact Kf.ixN_nat (j := 0) rfl | exact Kf.ixN_nat (j := 1) rfl | exact Kf.ixN_nat (j := 2) rfl | exact Kf.ixN_nat (j := 3) rfl | assumption)
local macro_rules | `(tactic| walk_at "set") => `(tactic| (first | (simp only [List.set_cons_succ, List.set_cons_zero]; rfl) | rfl))
local macro_rules | `(tactic| walk_at "om") => `(tactic| first | decide | omega | (simp only [List.length_map, List.length_cons, List.length_nil] at *; omega))
local macro_rules | `(tactic| walk_at "calls") => `(tactic| first
  | (with_reducible refine' Kf.call_take ?clp ?cla ?clb ?clq; (case clp => walk_at "pool"); (case cla => walk_at "om"); (case clb => walk_at "om"); intro r H' hE h0 h1)
  | (with_reducible refine' Kf.call_pool ?cls ?cla ?clq; (case cls => walk_at "sq"); (case cla => walk_at "om"); intro p H' hE hN hP)
  | (with_reducible refine' Kf.call_turn ?cls ?clp ?cla ?clq; (case cls => walk_at "sq"); (case clp => walk_at "pool"); (case cla => walk_at "om"); intro u H' hE hP))
local macro_rules | `(tactic| walk_at "side") => `(tactic| first
  | exact Kf.cmul_fmod (by decide) (by decide)
  | exact rfl
  | decide
  | omega
  | assumption
  | (refine ⟨?_, ?_⟩ <;> decide)
  | (refine ⟨?_, ?_, ?_⟩ <;> decide)
  | (refine ⟨?_, ?_⟩ <;> omega)
  | (refine Or.inl ⟨?_, ?_⟩ <;> decide)
  | (refine Or.inr ⟨?_, ?_⟩ <;> decide)
  | (refine Or.inl ⟨?_, ?_⟩ <;> omega)
  | (refine Or.inr ⟨?_, ?_⟩ <;> omega))
local macro_rules | `(tactic| walk_at "kit") => `(tactic| first | exact Kf.isi_int_int | exact Kf.isi_int_bool | exact Kf.isi_int_str | exact Kf.isi_int_list | exact Kf.isi_int_tuple | exact Kf.isi_bool_int | exact Kf.isi_bool_bool | exact Kf.isi_bool_str | exact Kf.isi_bool_list | exact Kf.isi_bool_tuple | exact Kf.isi_str_int | exact Kf.isi_str_bool | exact Kf.isi_str_str | exact Kf.isi_str_list | exact Kf.isi_str_tuple | exact Kf.isi_non_list | exact Kf.isi_non_tuple | exact Kf.isi_list_list | exact Kf.isi_list_tuple | exact Kf.isi_tuple_list | exact Kf.isi_tuple_tuple | exact Kf.isi_dict_dict)
local macro_rules | `(tactic| walk_at "ty") => `(tactic| first
  | exact L2.TyX.base (L2.TyOf.int _)
  | exact L2.TyX.base (L2.TyOf.bl _)
  | exact L2.TyX.base (L2.TyOf.str _)
  | exact L2.TyX.base L2.TyOf.non
  | (refine' L2.TyX.base (L2.TyOf.lst ?tyh); (case tyh => walk_at "lk"))
  | (refine' L2.TyX.base (L2.TyOf.tup ?tyh); (case tyh => walk_at "lk"))
  | (refine' L2.TyX.base (L2.TyOf.dK ?tyh); (case tyh => walk_at "lk")))
local macro_rules | `(tactic| walk_at "om2") => `(tactic| first | assumption | decide | omega)
local macro_rules | `(tactic| walk_at "st") => `(tactic| with_reducible first
  | (refine Kf.w_var rfl ?_)
  | (refine Kf.w_c ?_)
  | (refine Kf.w_seq ?_)
  | (refine Kf.w_asg ?_)
  | (refine' Kf.w_gname ?sth ?_; (case sth => with_unfolding_all walk_at "set"))
  | (refine Kf.w_op ?_)
  | (refine Kf.w_un ?_)
  | (refine Kf.w_rU ?_)
  | (refine Kf.w_rI0 ?_)
  | (refine' Kf.w_rI ?sth ?_; (case sth => with_unfolding_all walk_at "side"))
  | (refine' Kf.w_rEq ?sth ?_; (case sth => with_unfolding_all rfl))
  | (refine' Kf.w_rNe ?sth ?_; (case sth => with_unfolding_all rfl))
  | (refine Kf.w_tTest ?_)
  | (refine Kf.w_tB ?_)
  | (refine Kf.w_exbl ?_)
  | (refine Kf.w_exint ?_)
  | (refine Kf.w_ifS ?_)
  | (refine Kf.w_ret ?_)
  | (refine Kf.w_retN ?_)
  | (refine Kf.w_drop ?_)
  | (refine Kf.w_and ?_)
  | (refine Kf.w_or ?_)
  | (refine Kf.w_not ?_)
  | (refine Kf.w_andV ?_)
  | (refine Kf.w_orV ?_)
  | (refine Kf.w_notV ?_)
  | (refine Kf.w_if ?_)
  | (refine Kf.w_lc ?_)
  | (refine Kf.w_for ?_)
  | (refine Kf.w_rng1 ?_)
  | (refine' Kf.w_rng1x ?sth ?stg ?_; (case sth => with_unfolding_all walk_at "om"); (case stg => with_unfolding_all walk_at "om"))
  | (refine Kf.w_ilist ?_)
  | (refine Kf.w_iseq ?_)
  | (refine Kf.w_itup ?_)
  | (refine' Kf.w_ilistx ?sth ?_; (case sth => with_unfolding_all walk_at "sq"))
  | (refine' Kf.w_itupx ?sth ?_; (case sth => with_unfolding_all walk_at "sq"))
  | (refine' Kf.w_wipe ?sth ?_; (case sth => with_unfolding_all rfl))
  | (refine Kf.w_yes ?_)
  | (refine' Kf.w_isi ?sth ?stg ?_; (case sth => with_unfolding_all walk_at "ty"); (case stg => walk_at "kit"))
  | (refine Kf.w_isN ?_)
  | (refine Kf.w_notN ?_)
  | (refine Kf.w_cb ?_)
  | (refine Kf.w_nil ?_)
  | (refine Kf.w_cons ?_)
  | (refine Kf.w_tup ?_)
  | (refine Kf.w_lst ?_)
  | (refine' Kf.w_lines ?sth ?_; (case sth => with_unfolding_all rfl))
  | (refine Kf.w_call ?_)
  | (refine Kf.w_next ?_)
  | (refine Kf.w_break ?_)
  | (refine Kf.w_cont ?_)
  | (refine Kf.w_dnewK ?_)
  | (refine Kf.w_fld ?_)
  | (refine' Kf.w_fldx ?sth ?stg ?stf ?ste ?_; (case sth => with_unfolding_all walk_at "lk"); (case stg => assumption); (case stf => assumption); (case ste => with_unfolding_all exact rfl))
  | (refine Kf.w_sfld ?_)
  | (refine' Kf.w_sfldx ?sth ?stg ?stf ?ste ?_; (case sth => with_unfolding_all walk_at "lk"); (case stg => assumption); (case stf => assumption); (case ste => with_unfolding_all exact rfl))
  | (refine Kf.w_meth ?_)
  | (refine' Kf.w_methx ?sth ?stg ?_; (case sth => with_unfolding_all walk_at "lk"); (case stg => with_unfolding_all exact rfl))
  | (refine Kf.w_ddel ?_)
  | (refine Kf.w_disp ?_)
  | (refine Kf.w_pcons ?_)
  | (refine Kf.w_pnil ?_)
  | (refine Kf.w_make ?_)
  | (refine Kf.w_sfldaug ?_)
  | (refine' Kf.w_sfldaugx ?sth ?stg ?stf ?ste ?_; (case sth => with_unfolding_all walk_at "lk"); (case stg => assumption); (case stf => assumption); (case ste => with_unfolding_all exact rfl))
  | (refine Kf.w_inadd ?_)
  | (refine Kf.w_dnotin ?_)
  | (refine Kf.w_dget1 ?_)
  | (refine' Kf.w_dgetS ?sth ?stg ?_; (case sth => with_unfolding_all walk_at "lk"); (case stg => with_unfolding_all exact rfl))
  | (refine Kf.w_ikeys ?_)
  | (refine Kf.w_dput ?_)
  | (refine Kf.w_dget2 ?_)
  | (refine Kf.w_dget ?_)
  | (refine Kf.w_sl ?_)
  | (refine Kf.w_nopart ?_)
  | (refine Kf.w_part ?_)
  | (refine Kf.w_bm ?_)
  | (refine Kf.w_bm0 ?_)
  | (refine' Kf.w_bmL ?sth ?_; (case sth => with_unfolding_all walk_at "lk"))
  | (refine' Kf.w_cat ?sth ?stg ?stf ?_; (case sth => with_unfolding_all walk_at "lk"); (case stg => with_unfolding_all walk_at "lk"); (case stf => with_unfolding_all walk_at "om"))
  | (refine' Kf.w_slL ?sth ?_; (case sth => with_unfolding_all walk_at "sq"))
  | (refine' Kf.w_inL ?sth ?_; (case sth => with_unfolding_all walk_at "sq"))
  | (refine' Kf.w_inT ?sth ?_; (case sth => with_unfolding_all walk_at "sq"))
  | (refine' Kf.w_ninL ?sth ?_; (case sth => with_unfolding_all walk_at "sq"))
  | (refine' Kf.w_ninT ?sth ?_; (case sth => with_unfolding_all walk_at "sq"))
  | (refine' Kf.w_listof ?sth ?_; (case sth => with_unfolding_all walk_at "sq"))
  | (refine' Kf.w_tupof ?sth ?_; (case sth => with_unfolding_all walk_at "sq"))
  | (refine Kf.w_listRev ?_)
  | (refine Kf.w_gsub ?_)
  | (refine' Kf.w_ixL ?sth ?stg ?_; (case sth => with_unfolding_all walk_at "sq"); (case stg => with_unfolding_all walk_at "at"))
  | (refine' Kf.w_ixT ?sth ?stg ?_; (case sth => with_unfolding_all walk_at "sq"); (case stg => with_unfolding_all walk_at "at"))
  | (refine' Kf.w_setL ?sth ?stg ?_; (case sth => with_unfolding_all walk_at "lk"); (case stg => with_unfolding_all walk_at "ixn"))
  | (refine' Kf.w_len ?sth ?_; (case sth => with_unfolding_all walk_at "sq"))
  | (refine' Kf.w_lenT ?sth ?_; (case sth => with_unfolding_all walk_at "sq"))
  | (refine Kf.w_int1 ?_)
  | (refine Kf.w_intb ?_)
  | (refine Kf.w_abs ?_)
  | (refine Kf.w_aug rfl ?_)
  | (refine Kf.w_par ?_)
  | (refine' Kf.w_gtup ?sth ?stg ?_; (case sth => with_unfolding_all walk_at "sq"); (case stg => with_unfolding_all exact rfl))
  | (refine' Kf.w_glst ?sth ?stg ?_; (case sth => with_unfolding_all walk_at "sq"); (case stg => with_unfolding_all exact rfl))
  | (refine Kf.w_rng2 ?_)
  | (refine Kf.w_rng3 ?_)
  | (refine' Kf.w_rng2x ?sth ?stg ?stf ?ste ?_; (case sth => with_unfolding_all walk_at "om"); (case stg => with_unfolding_all walk_at "om"); (case stf => with_unfolding_all walk_at "om"); (case ste => with_unfolding_all walk_at "om"))
  | (refine Kf.w_gcons ?_)
  | (refine Kf.w_gnil ?_)
  | (refine Kf.w_gcd ?_)
  | (refine Kf.w_bits ?_)
  | (refine Kf.w_two ?_)
  | (refine Kf.w_ipI ?_)
  | (refine L2.iteT ?_)
  | (refine L2.iteF ?_)
  | (refine Kf.iteNT ?_)
  | (refine Kf.iteNF ?_)
  | (refine' Kf.ite_decT ?sth ?_; (case sth => exact rfl))
  | (refine' Kf.ite_decF ?sth ?_; (case sth => with_unfolding_all (intro e; cases e; done)))
  | (refine' Kf.ite_ndecF ?sth ?_; (case sth => exact rfl))
  | (refine' Kf.ite_ndecT ?sth ?_; (case sth => with_unfolding_all (intro e; cases e; done)))
  | (refine' Kf.ite_viT ?sth ?_; (case sth => (with_unfolding_all walk_at "om2")))
  | (refine' Kf.ite_viF ?sth ?_; (case sth => (with_unfolding_all walk_at "om2")))
  | (refine' Kf.ite_nviT ?sth ?_; (case sth => (with_unfolding_all walk_at "om2")))
  | (refine' Kf.ite_nviF ?sth ?_; (case sth => (with_unfolding_all walk_at "om2")))
  | (refine' Kf.ite_decT ?sth ?_; (case sth => (with_unfolding_all walk_at "om2")))
  | (refine' Kf.ite_decF ?sth ?_; (case sth => (with_unfolding_all walk_at "om2")))
  | with_unfolding_all walk_at "calls")
local macro_rules | `(tactic| walk_at "go") => `(tactic| repeat walk_at "st")

namespace Kf
open PySem PySem.Spec PyProof.Rows L2
open R8 (RowsT cnt dg upTo ROk num bnds)
abbrev s__law_deed : Stmt := topS 22
abbrev N__law_deed : List Str := ["pool", "seat", "pick", "before"]
abbrev P__law_deed : List Str := ["pool", "seat"]
theorem sc__law_deed : FnScope N__law_deed P__law_deed (defScope s__law_deed) := ⟨rfl, rfl, rfl, by decide +kernel, rfl, by decide +kernel, by decide +kernel⟩
theorem SeatX.ok {C : Addr} {ns : List Int} {H : Hp} {sd na : Addr} {D : List Addr} {rows : RowsT} {dep : Nat} {nu bn : Int} (S : SeatX C ns H sd na D rows dep nu bn) : ROk ns rows dep ∧ ns.length ≤ 200 ∧ ∀ n ∈ ns, 0 < n := by
  obtain ⟨r, p, k, o, s, t, m, rfl, S⟩ := S
  exact ⟨S.tr.ok, S.tr.nl, S.pos⟩
theorem SeatX.sdat {C : Addr} {ns : List Int} {H : Hp} {sd na : Addr} {D : List Addr} {rows : RowsT} {dep : Nat} {nu bn : Int} (S : SeatX C ns H sd na D rows dep nu bn) : ∃ p r, H sd = some (.dK (seatD p na r (dep : Nat) nu bn)) ∧ sd ∈ D := by
  obtain ⟨r, p, k, o, s, t, m, rfl, S⟩ := S
  exact ⟨p, r, S.fsd, by simp⟩
theorem SeatX.number {C : Addr} {ns : List Int} {H : Hp} {sd na p r : Addr} {D : List Addr} {rows : RowsT} {dep : Nat} {nu nu' bn : Int} (S : SeatX C ns H sd na D rows dep nu bn) (e : H sd = some (.dK (seatD p na r (dep : Nat) nu bn))) : SeatX C ns (upd H sd (.dK (seatD p na r (dep : Nat) nu' bn))) sd na D rows dep nu' bn := by
  obtain ⟨r0, p0, k, o, s, t, m, rfl, S⟩ := S
  have e0 := S.fsd
  rw [e] at e0
  obtain ⟨rfl, rfl⟩ : p = p0 ∧ r = r0 := by
    have h := HO.dK.inj (Option.some.inj e0)
    simp only [seatD, List.cons.injEq, Prod.mk.injEq, V.ref.injEq] at h
    exact ⟨h.1.2, h.2.2.1.2⟩
  obtain ⟨vs, hvs, hrw⟩ := S.frs
  obtain ⟨dx, z, hp⟩ := S.tr.ob
  obtain ⟨ks, hs, _⟩ := S.tr.st
  obtain ⟨ms, hm, _⟩ := S.tr.mm
  have e2 : Exc [sd] H (upd H sd (.dK (seatD p na r (dep : Nat) nu' bn))) := Exc.refl.upd (by simp)
  have tk := e2.tups (fun b hb xs z => by
    rw [List.mem_singleton] at hb; subst hb
    rw [e] at z; cases z)
  refine ⟨r, p, k, o, s, t, m, rfl, ⟨L2.upd_same, e2.get S.fna (by simp [(ne_dl e S.fna).symm]) (npl_ints _), ⟨vs, e2.get hvs (by simp [(ne_dl e hvs).symm]) hrw.npl, hrw.kept tk⟩,
    S.tr.exc e2 (by simp [ne_id hp e]) (by simp [S.d1.symm]) (by simp [(ne_dl e S.tr.od).symm]) (by simp [S.d2.symm]) (by simp [(ne_dl e S.tr.ss).symm]) (by simp [(ne_dl e hm).symm]) tk, S.d1, S.d2, S.r1, S.r2, S.r3, S.r4, S.a1, S.a2, S.a3, S.pos⟩⟩
theorem w_chain {r r' : R2} {ta tb tc : TE} {σ : L2.St} {H : Hp} {Q : VK} (h : ta σ H fun x H1 => tb σ H1 fun y H2 => r x y H2 fun z H3 => ∃ k, z = .bl k ∧ if k = true then tc σ H3 fun c H4 => r' y c H4 Q else Q (.bl false) H3) : tChain r r' ta tb tc σ H Q := h
abbrev bnd (ns : List Int) : Int := (((ns.length + 1) ^ (ns.length + 1) : Nat) : Int)
section
variable {P : Program} {w : World} {K : PySem.W.Frag} {mg : Str → Option Value} {base : Heap} {H : Hp} {Q : VK} {E : XK} {C : Addr}
theorem call_freX {ns : List Int} {sd na : Addr} {D : List Addr} {rows : RowsT} {dep : Nat} {nu bn : Int} (S : SeatX C ns H sd na D rows dep nu bn) (q : ∀ a H', H a = none → Ext H H' → H' a = some (.lst ((fre ns rows).map V.int)) → Q (.ref a) H') : spFre C ([.ref sd] ++ []) H Q E := by
  obtain ⟨r, p, k, o, s, t, m, rfl, S⟩ := S
  exact call_fre S q
theorem call_tolX {ns : List Int} {sd na : Addr} {D : List Addr} {rows : RowsT} {dep : Nat} {nu : Int} (S : SeatX C ns H sd na D rows dep nu (bnd ns)) (q : ∀ H', Ext H H' → Q (.int ((num rows ns.length : Nat) : Int)) H') : spTol C ([.ref sd] ++ []) H Q E := by
  obtain ⟨r, p, k, o, s, t, m, rfl, S⟩ := S
  exact ⟨ns, sd, na, r, p, k, o, s, t, m, rows, dep, nu, rfl, S, q⟩
theorem call_put8 {ns : List Int} {v : V} {sd na : Addr} {D : List Addr} {rows : RowsT} {dep : Nat} {nu bn : Int} {ch : Bool} (hP : PoolAt H v) (S : SeatX C ns H sd na D rows dep nu bn) (hf : fre ns rows ≠ [])
    (q : ∀ H' lit d, d = (if ch = true then dep + 1 else dep) → ((lit.natAbs : Nat) : Int) ∈ fre ns rows → Exc D H H' → SeatX C ns H' sd na D (rows ++ [(lit, d)]) d nu bn → Q (.bl true) H') : spPut8 C ([v, .ref sd, .bl ch] ++ []) H Q E := ⟨ns, v, sd, na, D, rows, dep, nu, bn, ch, rfl, hP, S, hf, q⟩
def spDee (C : Addr) : Sp := fun vs H Q _ => ∃ (ns : List Int) (v : V) (sd na : Addr) (D : List Addr) (rows : RowsT) (dep : Nat), vs = [v, .ref sd] ∧ PoolAt H v ∧ SeatX C ns H sd na D rows dep ((num rows ns.length : Nat) : Int) (bnd ns) ∧
  ∀ H' D' rows' dep', Exc D H H' → (∀ b ∈ D', b ∈ D ∨ H b = none) → SeatX C ns H' sd na D' rows' dep' ((num rows' ns.length : Nat) : Int) (bnd ns) → Q (.bl true) H'
theorem ok_deed (D : Df K mg "_law_deed" s__law_deed P__law_deed) (b_len : mg "len" = none) (p__law_take : Pr P w K mg base "_law_take" 1 P__law_take (spTake K)) (p__law_free : Pr P w K mg base "_law_free" 1 P__law_free (spFre C)) (p__law_backed : Pr P w K mg base "_law_backed" 5 P__law_backed (spBkd C)) (p__law_put : Pr P w K mg base "_law_put" 4 P__law_put (spPut8 C)) (p__law_told : Pr P w K mg base "_law_told" 4 P__law_told (spTol C)) : Pr P w K mg base "_law_deed" 6 P__law_deed (spDee C) := by
  refine D.ok sc__law_deed (fun vs H Q E h => ?_) (fun f cdv A outer s H vs Q E hr h => ?_)
  · obtain ⟨ns, v, sd, na, D, rows, dep, rfl, _⟩ := h; rfl
  obtain ⟨ns, v, sd, na, D, rows, dep, rfl, hP, S, q⟩ := h
  obtain ⟨ok, nl, pos⟩ := S.ok
  have rl := ok.len
  have nd := sc__law_deed.nd
  have hu := hu_of hr
  refine ⟨_, (pss_cons (ps_set (i := 2) nd rfl (Or.inl rfl) (pe_callP p__law_take hr (pa_cons (pv 0) (pa_cons pe_int pa_nil))))
      (pss_cons (ps_set (i := 3) nd rfl (Or.inl rfl) (pe_dget hu (pv 1) pe_str (fun _ _ => rfl)))
      (C8.pss_cut (ps_if (pt_cmpR op_eq (pe_callB (call_lenK (K := K) rfl) (by rfl) b_len PySem.boot_len (pa_cons (pe_callP p__law_free hr (pa_cons (pv 1) pa_nil)) pa_nil)) pe_int (nomark _)) (pss_one (ps_set (i := 2) nd rfl (Or.inl rfl) pe_int)) pss_nil)
      (pss_cons (ps_if (PW.pt (pw_and (pt_cmpR op_gt (pv 2) pe_int (nomark _)) (pw_and1 (pt_cmpR op_gt (pe_dget hu (pv 1) pe_str (fun _ _ => rfl)) pe_int (nomark _))))) (pss_cons (ps_if (PW.pt (pw_or (pt_cmpR op_lt (pe_callP p__law_backed hr (pa_cons (pv 0) (pa_cons (pv 1) (pa_cons (pv 3) pa_nil)))) pe_int (nomark _)) (pw_or1 (pt_not (pt_val (pe_callP p__law_put hr (pa_cons (pv 0) (pa_cons (pv 1) (pa_cons (pe_cmpR op_eq (pv 2) pe_int (nomark _)) pa_nil))))))))) (pss_one (ps_ret pe_bl)) pss_nil)
      (pss_cons (ps_dput hu (pv 1) pe_str (pe_callP p__law_told hr (pa_cons (pv 1) pa_nil)) rfl)
      (pss_one (ps_ret (pe_ifExp (pt_cmpR op_eq (pv 2) pe_int (nomark _)) (pe_chain op_le op_le pe_int (pe_dget hu (pv 1) pe_str (fun _ _ => rfl)) (pv 3)) (pe_cmpR op_gt (pe_dget hu (pv 1) pe_str (fun _ _ => rfl)) (pv 3) (nomark _))))))) pss_nil)
      (pss_cons (ps_if (pt_cmpR op_eq (pe_callB (call_lenK (K := K) rfl) (by rfl) b_len PySem.boot_len (pa_cons (pe_callP p__law_free hr (pa_cons (pv 1) pa_nil)) pa_nil)) pe_int (nomark _)) (pss_one (ps_ret (pe_cmpR op_eq (pe_callP p__law_told hr (pa_cons (pv 1) pa_nil)) (pv 3) (nomark _)))) pss_nil)
      (pss_cons (ps_if (pt_not (pt_val (pe_callP p__law_put hr (pa_cons (pv 0) (pa_cons (pv 1) (pa_cons (pe_or (pe_cmpR (op_in_seqK (K := K) rfl) (pv 2) (pe_tup (pa_cons pe_int (pa_cons pe_int (pa_cons pe_int pa_nil)))) (by rfl)) (pe_one (pe_and (pe_cmpR op_eq (pe_dget hu (pv 1) pe_str (fun _ _ => rfl)) pe_int (nomark _)) (pe_one (pe_cmpR op_ne (pv 2) pe_int (nomark _)))))) pa_nil)))))) (pss_one (ps_ret pe_bl)) pss_nil)
      (pss_cons (ps_dput hu (pv 1) pe_str (pe_callP p__law_told hr (pa_cons (pv 1) pa_nil)) rfl)
      (pss_one (ps_ret (pe_cmpR op_gt (pe_dget hu (pv 1) pe_str (fun _ _ => rfl)) (pv 3) (nomark _))))))))))), ?_⟩
  refine w_start (σ := [some _, some _, none, none]) rfl ?_
  walk_at "go"
  rename_i pk H1 hE1 pk0 pk1
  have S1 := S.ext hE1
  have hP1 := hP.ext hE1
  obtain ⟨p1, r1, hsd1, hsdD⟩ := S1.sdat
  walk_at "go"
  refine w_cut (fun σ' H' => ∃ pk' : Int, σ' = [some v, some (.ref sd), some (.int pk'), some (.int ((num rows ns.length : Nat) : Int))] ∧ Ext H H' ∧ 0 ≤ pk' ∧ pk' < 8 ∧ (fre ns rows = [] → pk' = 6)) ?_ ?_
  · walk_at "go"
    refine call_freX S1 fun fa H2 hfa hE2 hfv => ?_
    walk_at "go"
    refine ite_vi (fun c => ?_) (fun c => ?_)
    · walk_at "go"
      exact ⟨6, rfl, hE1.trans hE2, by decide, by decide, fun _ => rfl⟩
    · walk_at "go"
      exact ⟨pk, rfl, hE1.trans hE2, pk0, pk1, fun z => absurd (by rw [z]; rfl) c⟩
  rintro σ' H2 ⟨pk', rfl, hE2, k0, k1, hk6⟩
  have S2 := S.ext hE2
  have hP2 := hP.ext hE2
  obtain ⟨p2, r2, hsd2, _⟩ := S2.sdat
  by_cases cb : pk' > 5 ∧ 0 < dep
  · obtain ⟨c1, c2⟩ := cb
    walk_at "go"
    refine ⟨ns, v, sd, na, D, rows, dep, _, rfl, hP2, S2, c2, fun H3 l D3 hl e3 hD3 S3 => ?_⟩
    have hP3 := S2.pool hP2 e3
    have hfree : fre ns (upTo rows l) ≠ [] := fun z => by
      obtain ⟨n, hn, hn2⟩ := R8.upTo_free ok hl
      have := fre_mem.mpr ⟨hn, hn2⟩
      rw [z] at this; cases this
    walk_at "go"
    refine call_put8 hP3 S3 hfree fun H4 lit d hd hlit e4 S4 => ?_
    have e24 : Exc D H2 H4 := fun b ob hb hob => by
      have hb3 : b ∉ D3 := fun z => by
        rcases hD3 b z with u | u
        · exact hb u
        · rw [u] at hob; cases hob
      by_cases hPl : Pl ob
      · obtain ⟨o', po, ho'⟩ := (e3 b ob hb hob).2 hPl
        obtain ⟨o'', po', ho''⟩ := (e4 b o' hb3 ho').2 po
        exact ⟨fun n => absurd hPl n, fun _ => ⟨_, po', ho''⟩⟩
      · exact ⟨fun _ => (e4 b ob hb3 ((e3 b ob hb hob).1 hPl)).1 hPl, fun z => absurd z hPl⟩
    walk_at "go"
    refine call_tolX S4 fun H5 hE5 => ?_
    have S5 := S4.ext hE5
    obtain ⟨p5, r5, hsd5, hsdD5⟩ := S5.sdat
    walk_at "go"
    refine ⟨sd, _, rfl, DPut.k (k := .inr "number") hsd5 (small1000 (by show 6 ≤ 1000; decide)), ?_⟩
    rw [sd_num']
    have S6 := S5.number (nu' := ((num (upTo rows l ++ [(lit, d)]) ns.length : Nat) : Int)) hsd5
    have e6 : Exc D H (upd H5 sd (.dK (seatD p5 na r5 (d : Nat) ((num (upTo rows l ++ [(lit, d)]) ns.length : Nat) : Int) (bnd ns)))) := ((((Exc.of hE2).trans e24).trans (Exc.of hE5)).upd hsdD)
    have fin := q _ D3 _ _ e6 (fun b hb => by
      rcases hD3 b hb with u | u
      · exact .inl u
      · exact .inr (hE2.non u)) S6
    have hsd6 : upd H5 sd (.dK (seatD p5 na r5 (d : Nat) ((num (upTo rows l ++ [(lit, d)]) ns.length : Nat) : Int) (bnd ns))) sd = _ := L2.upd_same
    generalize upd H5 sd (.dK (seatD p5 na r5 (d : Nat) ((num (upTo rows l ++ [(lit, d)]) ns.length : Nat) : Int) (bnd ns))) = H6 at *
    by_cases c7 : pk' = 7
    · subst c7
      have hd' : d = l + 1 := hd
      subst hd'
      have hle := R8.num_back_choose (n := ns.length) (lit := lit) ok hl
      have hle' : ((num (upTo rows l ++ [(lit, l + 1)]) ns.length : Nat) : Int) ≤ ((num rows ns.length : Nat) : Int) := by exact_mod_cast hle
      walk_at "go"
      refine w_chain ?_
      have h0 : (0 : Int) ≤ ((num (upTo rows l ++ [(lit, l + 1)]) ns.length : Nat) : Int) := Int.natCast_nonneg _
      walk_at "go"
      rw [decide_eq_true hle']
      exact fin
    · have hd' : d = l := by rw [hd, if_neg (by simp; exact fun z => c7 z)]
      subst hd'
      have hlt := R8.num_back_force (n := ns.length) (lit := lit) ok rl hl
      have hlt' : ((num rows ns.length : Nat) : Int) < ((num (upTo rows d ++ [(lit, d)]) ns.length : Nat) : Int) := by exact_mod_cast hlt
      walk_at "go"
      rw [decide_eq_true hlt']
      exact fin
  · have fin2 : ∀ H', Ext H2 H' → SeatX C ns H' sd na D rows dep ((num rows ns.length : Nat) : Int) (bnd ns) → Q (.bl true) H' := fun H' e S' => q H' D rows dep (Exc.of (hE2.trans e)) (fun b hb => .inl hb) S'
    have hpush : ∀ (lit : Int) (d : Nat), ((lit.natAbs : Nat) : Int) ∈ fre ns rows → (d = dep ∨ d = dep + 1) → ((num rows ns.length : Nat) : Int) < ((num (rows ++ [(lit, d)]) ns.length : Nat) : Int) := fun lit d hlit hd => by
      have hm := fre_mem.mp hlit
      have hll := ok.len_lt hm.1 hm.2
      have dl := ok.dep_le
      have := R8.num_push (n := ns.length) (x := (lit, d)) rl (by
        show d ≤ ns.length
        omega)
      exact_mod_cast this
    have c2 : 5 < pk' → ¬ (0 : Int) < (dep : Int) := fun c1 z => cb ⟨c1, by omega⟩
    by_cases c1 : 5 < pk'
    all_goals
      (first | have c2' := c2 c1 | skip)
      walk_at "go"
      refine call_freX S2 fun fa H3 hfa hE3 hfv => ?_
      have S3 := S2.ext hE3
      walk_at "go"
      refine ite_vi (fun c => ?_) (fun c => ?_)
      · walk_at "go"
        refine call_tolX S3 fun H4 hE4 => ?_
        walk_at "go"
        rw [decide_eq_true rfl]
        exact fin2 _ (hE3.trans hE4) (S3.ext hE4)
      · have hf0 : fre ns rows ≠ [] := fun z => c (by rw [z]; rfl)
        walk_at "go"
        intro p3 hp3
        have e4 : Ext H2 (upd H3 p3 (.tup [.int 0, .int 1, .int 2])) := hE3.newer hp3
        refine w_inT (ns := [0, 1, 2]) (SqT.of L2.upd_same) ?_
        generalize upd H3 p3 (.tup [.int 0, .int 1, .int 2]) = H4 at *
        have S4 := S2.ext e4
        obtain ⟨p4, r4, hsd4, _⟩ := S4.sdat
        walk_at "go"
        refine ite_d (fun c3 => ?_) (fun c3 => ?_)
        · walk_at "go"
          refine call_put8 (hP2.ext e4) (S2.ext e4) hf0 fun H5 lit d hd hlit e5 S5 => ?_
          have hlt := hpush lit d hlit (by first | exact .inr hd | exact .inl hd)
          walk_at "go"
          refine call_tolX S5 fun H6 hE6 => ?_
          have S6 := S5.ext hE6
          obtain ⟨p6, r6, hsd6, hsdD6⟩ := S6.sdat
          walk_at "go"
          refine ⟨sd, _, rfl, DPut.k (k := .inr "number") hsd6 (small1000 (by show 6 ≤ 1000; decide)), ?_⟩
          rw [sd_num']
          have S7 := S6.number (nu' := ((num (rows ++ [(lit, d)]) ns.length : Nat) : Int)) hsd6
          have e7 : Exc D H (upd H6 sd (.dK (seatD p6 na r6 (d : Nat) ((num (rows ++ [(lit, d)]) ns.length : Nat) : Int) (bnd ns)))) := ((((Exc.of (hE2.trans e4)).trans e5).trans (Exc.of hE6)).upd hsdD6)
          have fin := q _ D _ _ e7 (fun b hb => .inl hb) S7
          have hsd7 : upd H6 sd (.dK (seatD p6 na r6 (d : Nat) ((num (rows ++ [(lit, d)]) ns.length : Nat) : Int) (bnd ns))) sd = _ := L2.upd_same
          generalize upd H6 sd (.dK (seatD p6 na r6 (d : Nat) ((num (rows ++ [(lit, d)]) ns.length : Nat) : Int) (bnd ns))) = H7 at *
          walk_at "go"
          rw [decide_eq_true hlt]
          exact fin
        · by_cases c4 : dep = 0
          · walk_at "go"
            by_cases c5 : pk' = 5
            · rw [show (!decide (V.int pk' = V.int 5)) = false from by rw [c5]; rfl]
              refine call_put8 (hP2.ext e4) (S2.ext e4) hf0 fun H5 lit d hd hlit e5 S5 => ?_
              have hlt := hpush lit d hlit (by first | exact .inr hd | exact .inl hd)
              walk_at "go"
              refine call_tolX S5 fun H6 hE6 => ?_
              have S6 := S5.ext hE6
              obtain ⟨p6, r6, hsd6, hsdD6⟩ := S6.sdat
              walk_at "go"
              refine ⟨sd, _, rfl, DPut.k (k := .inr "number") hsd6 (small1000 (by show 6 ≤ 1000; decide)), ?_⟩
              rw [sd_num']
              have S7 := S6.number (nu' := ((num (rows ++ [(lit, d)]) ns.length : Nat) : Int)) hsd6
              have e7 : Exc D H (upd H6 sd (.dK (seatD p6 na r6 (d : Nat) ((num (rows ++ [(lit, d)]) ns.length : Nat) : Int) (bnd ns)))) := ((((Exc.of (hE2.trans e4)).trans e5).trans (Exc.of hE6)).upd hsdD6)
              have fin := q _ D _ _ e7 (fun b hb => .inl hb) S7
              have hsd7 : upd H6 sd (.dK (seatD p6 na r6 (d : Nat) ((num (rows ++ [(lit, d)]) ns.length : Nat) : Int) (bnd ns))) sd = _ := L2.upd_same
              generalize upd H6 sd (.dK (seatD p6 na r6 (d : Nat) ((num (rows ++ [(lit, d)]) ns.length : Nat) : Int) (bnd ns))) = H7 at *
              walk_at "go"
              rw [decide_eq_true hlt]
              exact fin
            · rw [show (!decide (V.int pk' = V.int 5)) = true from by rw [decide_eq_false fun z => c5 (V.int.inj z)]; rfl]
              refine call_put8 (hP2.ext e4) (S2.ext e4) hf0 fun H5 lit d hd hlit e5 S5 => ?_
              have hlt := hpush lit d hlit (by first | exact .inr hd | exact .inl hd)
              walk_at "go"
              refine call_tolX S5 fun H6 hE6 => ?_
              have S6 := S5.ext hE6
              obtain ⟨p6, r6, hsd6, hsdD6⟩ := S6.sdat
              walk_at "go"
              refine ⟨sd, _, rfl, DPut.k (k := .inr "number") hsd6 (small1000 (by show 6 ≤ 1000; decide)), ?_⟩
              rw [sd_num']
              have S7 := S6.number (nu' := ((num (rows ++ [(lit, d)]) ns.length : Nat) : Int)) hsd6
              have e7 : Exc D H (upd H6 sd (.dK (seatD p6 na r6 (d : Nat) ((num (rows ++ [(lit, d)]) ns.length : Nat) : Int) (bnd ns)))) := ((((Exc.of (hE2.trans e4)).trans e5).trans (Exc.of hE6)).upd hsdD6)
              have fin := q _ D _ _ e7 (fun b hb => .inl hb) S7
              have hsd7 : upd H6 sd (.dK (seatD p6 na r6 (d : Nat) ((num (rows ++ [(lit, d)]) ns.length : Nat) : Int) (bnd ns))) sd = _ := L2.upd_same
              generalize upd H6 sd (.dK (seatD p6 na r6 (d : Nat) ((num (rows ++ [(lit, d)]) ns.length : Nat) : Int) (bnd ns))) = H7 at *
              walk_at "go"
              rw [decide_eq_true hlt]
              exact fin
          · first
            | (exfalso; omega)
            | (walk_at "go"
               refine call_put8 (hP2.ext e4) (S2.ext e4) hf0 fun H5 lit d hd hlit e5 S5 => ?_
               have hlt := hpush lit d hlit (by first | exact .inr hd | exact .inl hd)
               walk_at "go"
               refine call_tolX S5 fun H6 hE6 => ?_
               have S6 := S5.ext hE6
               obtain ⟨p6, r6, hsd6, hsdD6⟩ := S6.sdat
               walk_at "go"
               refine ⟨sd, _, rfl, DPut.k (k := .inr "number") hsd6 (small1000 (by show 6 ≤ 1000; decide)), ?_⟩
               rw [sd_num']
               have S7 := S6.number (nu' := ((num (rows ++ [(lit, d)]) ns.length : Nat) : Int)) hsd6
               have e7 : Exc D H (upd H6 sd (.dK (seatD p6 na r6 (d : Nat) ((num (rows ++ [(lit, d)]) ns.length : Nat) : Int) (bnd ns)))) := ((((Exc.of (hE2.trans e4)).trans e5).trans (Exc.of hE6)).upd hsdD6)
               have fin := q _ D _ _ e7 (fun b hb => .inl hb) S7
               have hsd7 : upd H6 sd (.dK (seatD p6 na r6 (d : Nat) ((num (rows ++ [(lit, d)]) ns.length : Nat) : Int) (bnd ns))) sd = _ := L2.upd_same
               generalize upd H6 sd (.dK (seatD p6 na r6 (d : Nat) ((num (rows ++ [(lit, d)]) ns.length : Nat) : Int) (bnd ns))) = H7 at *
               walk_at "go"
               rw [decide_eq_true hlt]
               exact fin)
end
end Kf

end
section
set_option Elab.async false
set_option linter.all false
set_option maxRecDepth 100000
set_option maxHeartbeats 4000000
local macro_rules | `(tactic| walk_at "npl") => `(tactic| first | exact Kf.npl rfl | exact Kf.npl_ints _ | exact Kf.npl_one _ _ | exact Kf.npl_refs _ | assumption)
local macro_rules | `(tactic| walk_at "nn") => `(tactic| first
  | assumption
  | (refine' Kf.Ext.non ?nne ?nnh; (case nne => assumption); (case nnh => walk_at "nn")))
local macro_rules | `(tactic| walk_at "ext") => `(tactic| first
  | assumption
  | exact Kf.Ext.refl
  | (refine' Kf.Ext.newer ?exa ?exn; (case exn => assumption); (case exa => walk_at "ext"))
  | (refine' Kf.Ext.own ?exa ?exn; (case exn => walk_at "nn"); (case exa => walk_at "ext"))
  | (refine' Kf.Ext.trans ?exa ?exb; (case exb => assumption); (case exa => walk_at "ext")))
local macro_rules | `(tactic| walk_at "pool") => `(tactic| first
  | assumption
  | (refine' Kf.PoolAt.ext ?plh ?ple; (case plh => assumption); (case ple => walk_at "ext"))
  | (refine' Kf.PoolAt.upd ?plh ?plo ?pln; (case plo => assumption); (case pln => walk_at "npl"); (case plh => walk_at "pool")))
local macro_rules | `(tactic| walk_at "lk") => `(tactic| first
  | assumption
  | exact L2.upd_same
  | (refine' Kf.upd_old ?lkn ?lkh; (case lkn => assumption); (case lkh => walk_at "lk"))
  | (refine' Kf.upd_oth ?lkn ?lkh; (case lkn => (first | assumption | (apply Ne.symm; assumption))); (case lkh => walk_at "lk"))
  | (refine' Kf.Ext.get ?lke ?lkh ?lkn; (case lke => assumption); (case lkh => walk_at "lk"); (case lkn => walk_at "npl"))
  | (refine' L2.Same.at ?lke ?lkh; (case lke => assumption); (case lkh => walk_at "lk")))
local macro_rules | `(tactic| walk_at "sq") => `(tactic| first
  | assumption
  | (refine' L2.SqL.of ?sqh; (case sqh => walk_at "lk"))
  | (refine' L2.SqT.of ?sqh; (case sqh => walk_at "lk"))
  | (refine' Kf.Ext.seqL ?sqe ?sqh ?sqn; (case sqh => assumption); (case sqe => walk_at "ext"); (case sqn => walk_at "npl"))
  | (refine' Kf.Ext.seqT ?sqe ?sqh; (case sqh => assumption); (case sqe => walk_at "ext")))
local macro_rules | `(tactic| walk_at "at") => `(tactic| first | exact L2.atI_nat (j := 0) rfl | exact L2.atI_nat (j := 1) rfl | exact L2.atI_nat (j := 2) rfl | exact L2.atI_nat (j := 3) rfl | exact L2.atI_nat (j := 4) rfl | assumption)
local macro_rules | `(tactic| walk_at "ixn") => `(tactic| first | exact Kf.ixN_nat (j := 0) rfl | exact Kf.ixN_nat (j := 1) rfl | exact Kf.ixN_nat (j := 2) rfl | exact Kf.ixN_nat (j := 3) rfl | assumption)
local macro_rules | `(tactic| walk_at "set") => `(tactic| (first | (simp only [List.set_cons_succ, List.set_cons_zero]; rfl) | rfl))
local macro_rules | `(tactic| walk_at "om") => `(tactic| first | decide | omega | (simp only [List.length_map, List.length_cons, List.length_nil] at *; omega))
local macro_rules | `(tactic| walk_at "calls") => `(tactic| first
  | (with_reducible refine' Kf.call_take ?clp ?cla ?clb ?clq; (case clp => walk_at "pool"); (case cla => walk_at "om"); (case clb => walk_at "om"); intro r H' hE h0 h1)
  | (with_reducible refine' Kf.call_pool ?cls ?cla ?clq; (case cls => walk_at "sq"); (case cla => walk_at "om"); intro p H' hE hN hP)
  | (with_reducible refine' Kf.call_turn ?cls ?clp ?cla ?clq; (case cls => walk_at "sq"); (case clp => walk_at "pool"); (case cla => walk_at "om"); intro u H' hE hP))
local macro_rules | `(tactic| walk_at "side") => `(tactic| first
  | exact Kf.cmul_fmod (by decide) (by decide)
  | exact rfl
  | decide
  | omega
  | assumption
  | (refine ⟨?_, ?_⟩ <;> decide)
  | (refine ⟨?_, ?_, ?_⟩ <;> decide)
  | (refine ⟨?_, ?_⟩ <;> omega)
  | (refine Or.inl ⟨?_, ?_⟩ <;> decide)
  | (refine Or.inr ⟨?_, ?_⟩ <;> decide)
  | (refine Or.inl ⟨?_, ?_⟩ <;> omega)
  | (refine Or.inr ⟨?_, ?_⟩ <;> omega))
local macro_rules | `(tactic| walk_at "kit") => `(tactic| first | exact Kf.isi_int_int | exact Kf.isi_int_bool | exact Kf.isi_int_str | exact Kf.isi_int_list | exact Kf.isi_int_tuple | exact Kf.isi_bool_int | exact Kf.isi_bool_bool | exact Kf.isi_bool_str | exact Kf.isi_bool_list | exact Kf.isi_bool_tuple | exact Kf.isi_str_int | exact Kf.isi_str_bool | exact Kf.isi_str_str | exact Kf.isi_str_list | exact Kf.isi_str_tuple | exact Kf.isi_non_list | exact Kf.isi_non_tuple | exact Kf.isi_list_list | exact Kf.isi_list_tuple | exact Kf.isi_tuple_list | exact Kf.isi_tuple_tuple | exact Kf.isi_dict_dict)
local macro_rules | `(tactic| walk_at "ty") => `(tactic| first
  | exact L2.TyX.base (L2.TyOf.int _)
  | exact L2.TyX.base (L2.TyOf.bl _)
  | exact L2.TyX.base (L2.TyOf.str _)
  | exact L2.TyX.base L2.TyOf.non
  | (refine' L2.TyX.base (L2.TyOf.lst ?tyh); (case tyh => walk_at "lk"))
  | (refine' L2.TyX.base (L2.TyOf.tup ?tyh); (case tyh => walk_at "lk"))
  | (refine' L2.TyX.base (L2.TyOf.dK ?tyh); (case tyh => walk_at "lk")))
local macro_rules | `(tactic| walk_at "om2") => `(tactic| first | assumption | decide | omega)
local macro_rules | `(tactic| walk_at "st") => `(tactic| with_reducible first
  | (refine Kf.w_var rfl ?_)
  | (refine Kf.w_c ?_)
  | (refine Kf.w_seq ?_)
  | (refine Kf.w_asg ?_)
  | (refine' Kf.w_gname ?sth ?_; (case sth => with_unfolding_all walk_at "set"))
  | (refine Kf.w_op ?_)
  | (refine Kf.w_un ?_)
  | (refine Kf.w_rU ?_)
  | (refine Kf.w_rI0 ?_)
  | (refine' Kf.w_rI ?sth ?_; (case sth => with_unfolding_all walk_at "side"))
  | (refine' Kf.w_rEq ?sth ?_; (case sth => with_unfolding_all rfl))
  | (refine' Kf.w_rNe ?sth ?_; (case sth => with_unfolding_all rfl))
  | (refine Kf.w_tTest ?_)
  | (refine Kf.w_tB ?_)
  | (refine Kf.w_exbl ?_)
  | (refine Kf.w_exint ?_)
  | (refine Kf.w_ifS ?_)
  | (refine Kf.w_ret ?_)
  | (refine Kf.w_retN ?_)
  | (refine Kf.w_drop ?_)
  | (refine Kf.w_and ?_)
  | (refine Kf.w_or ?_)
  | (refine Kf.w_not ?_)
  | (refine Kf.w_andV ?_)
  | (refine Kf.w_orV ?_)
  | (refine Kf.w_notV ?_)
  | (refine Kf.w_if ?_)
  | (refine Kf.w_lc ?_)
  | (refine Kf.w_for ?_)
  | (refine Kf.w_rng1 ?_)
  | (refine' Kf.w_rng1x ?sth ?stg ?_; (case sth => with_unfolding_all walk_at "om"); (case stg => with_unfolding_all walk_at "om"))
  | (refine Kf.w_ilist ?_)
  | (refine Kf.w_iseq ?_)
  | (refine Kf.w_itup ?_)
  | (refine' Kf.w_ilistx ?sth ?_; (case sth => with_unfolding_all walk_at "sq"))
  | (refine' Kf.w_itupx ?sth ?_; (case sth => with_unfolding_all walk_at "sq"))
  | (refine' Kf.w_wipe ?sth ?_; (case sth => with_unfolding_all rfl))
  | (refine Kf.w_yes ?_)
  | (refine' Kf.w_isi ?sth ?stg ?_; (case sth => with_unfolding_all walk_at "ty"); (case stg => walk_at "kit"))
  | (refine Kf.w_isN ?_)
  | (refine Kf.w_notN ?_)
  | (refine Kf.w_cb ?_)
  | (refine Kf.w_nil ?_)
  | (refine Kf.w_cons ?_)
  | (refine Kf.w_tup ?_)
  | (refine Kf.w_lst ?_)
  | (refine' Kf.w_lines ?sth ?_; (case sth => with_unfolding_all rfl))
  | (refine Kf.w_call ?_)
  | (refine Kf.w_next ?_)
  | (refine Kf.w_break ?_)
  | (refine Kf.w_cont ?_)
  | (refine Kf.w_dnewK ?_)
  | (refine Kf.w_fld ?_)
  | (refine' Kf.w_fldx ?sth ?stg ?stf ?ste ?_; (case sth => with_unfolding_all walk_at "lk"); (case stg => assumption); (case stf => assumption); (case ste => with_unfolding_all exact rfl))
  | (refine Kf.w_sfld ?_)
  | (refine' Kf.w_sfldx ?sth ?stg ?stf ?ste ?_; (case sth => with_unfolding_all walk_at "lk"); (case stg => assumption); (case stf => assumption); (case ste => with_unfolding_all exact rfl))
  | (refine Kf.w_meth ?_)
  | (refine' Kf.w_methx ?sth ?stg ?_; (case sth => with_unfolding_all walk_at "lk"); (case stg => with_unfolding_all exact rfl))
  | (refine Kf.w_ddel ?_)
  | (refine Kf.w_disp ?_)
  | (refine Kf.w_pcons ?_)
  | (refine Kf.w_pnil ?_)
  | (refine Kf.w_make ?_)
  | (refine Kf.w_sfldaug ?_)
  | (refine' Kf.w_sfldaugx ?sth ?stg ?stf ?ste ?_; (case sth => with_unfolding_all walk_at "lk"); (case stg => assumption); (case stf => assumption); (case ste => with_unfolding_all exact rfl))
  | (refine Kf.w_inadd ?_)
  | (refine Kf.w_dnotin ?_)
  | (refine Kf.w_dget1 ?_)
  | (refine' Kf.w_dgetS ?sth ?stg ?_; (case sth => with_unfolding_all walk_at "lk"); (case stg => with_unfolding_all exact rfl))
  | (refine Kf.w_ikeys ?_)
  | (refine Kf.w_dput ?_)
  | (refine Kf.w_dget2 ?_)
  | (refine Kf.w_dget ?_)
  | (refine Kf.w_sl ?_)
  | (refine Kf.w_nopart ?_)
  | (refine Kf.w_part ?_)
  | (refine Kf.w_bm ?_)
  | (refine Kf.w_bm0 ?_)
  | (refine' Kf.w_bmL ?sth ?_; (case sth => with_unfolding_all walk_at "lk"))
  | (refine' Kf.w_cat ?sth ?stg ?stf ?_; (case sth => with_unfolding_all walk_at "lk"); (case stg => with_unfolding_all walk_at "lk"); (case stf => with_unfolding_all walk_at "om"))
  | (refine' Kf.w_slL ?sth ?_; (case sth => with_unfolding_all walk_at "sq"))
  | (refine' Kf.w_inL ?sth ?_; (case sth => with_unfolding_all walk_at "sq"))
  | (refine' Kf.w_inT ?sth ?_; (case sth => with_unfolding_all walk_at "sq"))
  | (refine' Kf.w_ninL ?sth ?_; (case sth => with_unfolding_all walk_at "sq"))
  | (refine' Kf.w_ninT ?sth ?_; (case sth => with_unfolding_all walk_at "sq"))
  | (refine' Kf.w_listof ?sth ?_; (case sth => with_unfolding_all walk_at "sq"))
  | (refine' Kf.w_tupof ?sth ?_; (case sth => with_unfolding_all walk_at "sq"))
  | (refine Kf.w_listRev ?_)
  | (refine Kf.w_gsub ?_)
  | (refine' Kf.w_ixL ?sth ?stg ?_; (case sth => with_unfolding_all walk_at "sq"); (case stg => with_unfolding_all walk_at "at"))
  | (refine' Kf.w_ixT ?sth ?stg ?_; (case sth => with_unfolding_all walk_at "sq"); (case stg => with_unfolding_all walk_at "at"))
  | (refine' Kf.w_setL ?sth ?stg ?_; (case sth => with_unfolding_all walk_at "lk"); (case stg => with_unfolding_all walk_at "ixn"))
  | (refine' Kf.w_len ?sth ?_; (case sth => with_unfolding_all walk_at "sq"))
  | (refine' Kf.w_lenT ?sth ?_; (case sth => with_unfolding_all walk_at "sq"))
  | (refine Kf.w_int1 ?_)
  | (refine Kf.w_intb ?_)
  | (refine Kf.w_abs ?_)
  | (refine Kf.w_aug rfl ?_)
  | (refine Kf.w_par ?_)
  | (refine' Kf.w_gtup ?sth ?stg ?_; (case sth => with_unfolding_all walk_at "sq"); (case stg => with_unfolding_all exact rfl))
  | (refine' Kf.w_glst ?sth ?stg ?_; (case sth => with_unfolding_all walk_at "sq"); (case stg => with_unfolding_all exact rfl))
  | (refine Kf.w_rng2 ?_)
  | (refine Kf.w_rng3 ?_)
  | (refine' Kf.w_rng2x ?sth ?stg ?stf ?ste ?_; (case sth => with_unfolding_all walk_at "om"); (case stg => with_unfolding_all walk_at "om"); (case stf => with_unfolding_all walk_at "om"); (case ste => with_unfolding_all walk_at "om"))
  | (refine Kf.w_gcons ?_)
  | (refine Kf.w_gnil ?_)
  | (refine Kf.w_gcd ?_)
  | (refine Kf.w_bits ?_)
  | (refine Kf.w_two ?_)
  | (refine Kf.w_ipI ?_)
  | (refine L2.iteT ?_)
  | (refine L2.iteF ?_)
  | (refine Kf.iteNT ?_)
  | (refine Kf.iteNF ?_)
  | (refine' Kf.ite_decT ?sth ?_; (case sth => exact rfl))
  | (refine' Kf.ite_decF ?sth ?_; (case sth => with_unfolding_all (intro e; cases e; done)))
  | (refine' Kf.ite_ndecF ?sth ?_; (case sth => exact rfl))
  | (refine' Kf.ite_ndecT ?sth ?_; (case sth => with_unfolding_all (intro e; cases e; done)))
  | (refine' Kf.ite_viT ?sth ?_; (case sth => (with_unfolding_all walk_at "om2")))
  | (refine' Kf.ite_viF ?sth ?_; (case sth => (with_unfolding_all walk_at "om2")))
  | (refine' Kf.ite_nviT ?sth ?_; (case sth => (with_unfolding_all walk_at "om2")))
  | (refine' Kf.ite_nviF ?sth ?_; (case sth => (with_unfolding_all walk_at "om2")))
  | (refine' Kf.ite_decT ?sth ?_; (case sth => (with_unfolding_all walk_at "om2")))
  | (refine' Kf.ite_decF ?sth ?_; (case sth => (with_unfolding_all walk_at "om2")))
  | with_unfolding_all walk_at "calls")
local macro_rules | `(tactic| walk_at "go") => `(tactic| repeat walk_at "st")

namespace Kf
open PySem PySem.Spec PyProof.Rows L2
open R8 (RowsT cnt dg upTo ROk num bnds)
abbrev s__law_seat : Stmt := topS 23
abbrev N__law_seat : List Str := ["pool", "nodes", "handed", "trail", "seat", "k"]
abbrev P__law_seat : List Str := ["pool", "nodes"]
theorem sc__law_seat : FnScope N__law_seat P__law_seat (defScope s__law_seat) := ⟨rfl, rfl, rfl, by decide +kernel, rfl, by decide +kernel, by decide +kernel⟩
theorem fre_ne {ns : List Int} {rows : RowsT} (nd : ns.Nodup) (h : rows.length < ns.length) : fre ns rows ≠ [] := fun z => by
  have := R8.len_le (a := ns) (b := rows.map fun x => ((x.1.natAbs : Nat) : Int)) nd fun n hn => by
    refine Decidable.byContradiction fun hc => ?_
    have := fre_mem.mpr ⟨hn, hc⟩
    rw [z] at this; cases this
  rw [List.length_map] at this
  omega
section
variable {P : Program} {w : World} {K : PySem.W.Frag} {mg : Str → Option Value} {base : Heap} {H : Hp} {Q : VK} {E : XK} {C : Addr}
def spSea (C : Addr) : Sp := fun vs H Q _ => ∃ (ns : List Int) (v : V) (na : Addr), vs = [v, .ref na] ∧ PoolAt H v ∧ H na = some (.lst (ns.map V.int)) ∧ (∀ n ∈ ns, 0 < n) ∧ ns.Nodup ∧ ns.length ≤ 200 ∧
  ∀ H' sd D rows dep, (∀ b ∈ D, H b = none) → Ext H H' → SeatX C ns H' sd na D rows dep 0 (bnd ns) → Q (.ref sd) H'
theorem ok_seat (D : Df K mg "_law_seat" s__law_seat P__law_seat) (b_list : mg "list" = none) (b_len : mg "len" = none) (b_int : mg "int" = none) (b_range : mg "range" = none) (p_Trail : PrI P w K mg base C "Trail" 1 P_Trail___init__ (spInit C)) (p__law_bound : Pr P w K mg base "_law_bound" 1 P__law_bound spBnd) (p__law_take : Pr P w K mg base "_law_take" 1 P__law_take (spTake K)) (p__law_put : Pr P w K mg base "_law_put" 4 P__law_put (spPut8 C)) : Pr P w K mg base "_law_seat" 5 P__law_seat (spSea C) := by
  refine D.ok sc__law_seat (fun vs H Q E h => ?_) (fun f cdv A outer s H vs Q E hr h => ?_)
  · obtain ⟨ns, v, na, rfl, _⟩ := h; rfl
  obtain ⟨ns, v, na, rfl, hP, hna, hpos, hnd, hl, q⟩ := h
  have nd := sc__law_seat.nd
  have hu := hu_of hr
  refine ⟨_, (pss_cons (ps_set (i := 2) nd rfl (Or.inl rfl) (pe_callTy (call_list_ofK (K := K) rfl) (by rfl) b_list (by decide +kernel) (pa_cons (pv 1) pa_nil)))
      (pss_cons (ps_set (i := 3) nd rfl (Or.inl rfl) (pe_makeP p_Trail hr (pa_cons (pv 2) pa_nil)))
      (pss_cons (ps_expr (pe_bm0 PySem.F.plainAttrs_list PySem.F.slot_list_reverse PySem.F.type_list_reverse mt_reverse (pv 2)))
      (pss_cons (ps_expr (pe_bmK (K := K) rfl PySem.F.plainAttrs_list PySem.F.slot_list_append PySem.F.type_list_append mt_append (pv 2) (pa_cons pe_int pa_nil)))
      (pss_cons (ps_set (i := 4) nd rfl (Or.inl rfl) (pe_disp (pps_cons pe_str (pv 3) (pps_cons pe_str (pv 1) (pps_cons pe_str (pe_lst pa_nil) (pps_cons pe_str pe_int (pps_cons pe_str pe_int (pps_cons pe_str (pe_callP p__law_bound hr (pa_cons (pe_callB (call_lenK (K := K) rfl) (by rfl) b_len PySem.boot_len (pa_cons (pv 1) pa_nil)) pa_nil)) pps_nil)))))) (by rfl) (by rfl) (fun z => by cases z) (by decide)))
      (pss_cons (ps_for PassesOwn.never rfl (pi_range1 (by rfl) b_range (pa_cons (pe_op op_mul (pe_callP p__law_take hr (pa_cons (pv 0) (pa_cons pe_int pa_nil))) (pe_callTy call_int1 (by rfl) b_int (by decide +kernel) (pa_cons (pe_cmpR op_eq (pe_callB (call_lenK (K := K) rfl) (by rfl) b_len PySem.boot_len (pa_cons (pv 1) pa_nil)) pe_int (nomark _)) pa_nil))) pa_nil)) (pg_name (i := 5) nd rfl (Or.inl rfl)) (pss_one (ps_if (pt_not (pt_val (pe_callP p__law_put hr (pa_cons (pv 0) (pa_cons (pv 4) (pa_cons (pe_cmpR op_eq (pe_callP p__law_take hr (pa_cons (pv 0) (pa_cons pe_int pa_nil))) pe_int (nomark _)) pa_nil)))))) (pss_one (ps_dput hu (pv 4) pe_str pe_int rfl)) pss_nil)))
      (pss_one (ps_ret (pv 4))))))))), ?_⟩
  refine w_start (σ := [some _, some _, none, none, none, none]) rfl ?_
  walk_at "go"
  intro ha hha
  have e1 : Ext H (upd H ha (.lst (ns.map V.int))) := Ext.new hha
  have h1a : upd H ha (.lst (ns.map V.int)) ha = some (.lst (ns.map V.int)) := L2.upd_same
  have hna1 := upd_old (u := .lst (ns.map V.int)) hha hna
  generalize upd H ha (.lst (ns.map V.int)) = H1 at *
  walk_at "go"
  intro p dx hp hdx hne
  have e2 : Ext H (upd (upd H1 dx (.own p)) p (.ins C dx [])) := (e1.newer hdx).own (e1.non hp)
  have e12 : Ext H1 (upd (upd H1 dx (.own p)) p (.ins C dx [])) := (Ext.new hdx).own hp
  have h2p : upd (upd H1 dx (.own p)) p (.ins C dx []) p = some (.ins C dx []) := L2.upd_same
  have h2a := e12.get h1a (npl_ints _)
  have hna2 := e12.get hna1 (npl_ints _)
  have hp0 := e1.non hp
  generalize upd (upd H1 dx (.own p)) p (.ins C dx []) = H2 at *
  refine ⟨ns, p, dx, ha, rfl, h2p, h2a, hl, fun H3 k o s t m hk ho hs ht hm e3 T3 => ⟨rfl, ?_⟩⟩
  have npa := ne_il h2p h2a
  have npna := ne_il h2p hna2
  have h3a := e3.get h2a (by simpa using npa.symm) (npl_ints _)
  have hna3 := e3.get hna2 (by simpa using npna.symm) (npl_ints _)
  have nao := ne_of_none h2a ho
  have nat := ne_of_none h2a ht
  have nam := ne_of_none h2a hm
  have nnao := ne_of_none hna2 ho
  have nnat := ne_of_none hna2 ht
  have nnam := ne_of_none hna2 hm
  have nana : ha ≠ na := (ne_of_none hna hha).symm
  have e03 : Ext H H3 := e2.exc e3 (fun b hb => by rw [List.mem_singleton] at hb; subst hb; exact hp0)
  have fk := e2.non hk
  have fo := e2.non ho
  have fs := e2.non hs
  have ft := e2.non ht
  have fm := e2.non hm
  walk_at "go"
  refine ⟨ha, _, rfl, rfl, h3a, ?_⟩
  have h4a : upd H3 ha (.lst (ns.map V.int).reverse) ha = some (.lst (ns.map V.int).reverse) := L2.upd_same
  have e4 : Exc [ha] H3 (upd H3 ha (.lst (ns.map V.int).reverse)) := Exc.refl.upd (by simp)
  have e04 : Ext H (upd H3 ha (.lst (ns.map V.int).reverse)) := e03.own hha
  generalize upd H3 ha (.lst (ns.map V.int).reverse) = H4 at *
  walk_at "go"
  refine w_append h4a (small1000 (by simp; omega)) ?_
  have e5 : Exc [ha] H3 (upd H4 ha (.lst ((ns.map V.int).reverse ++ [.int 3999]))) := e4.upd (by simp)
  have e05 : Ext H (upd H4 ha (.lst ((ns.map V.int).reverse ++ [.int 3999]))) := e04.own hha
  generalize upd H4 ha (.lst ((ns.map V.int).reverse ++ [.int 3999])) = H5 at *
  obtain ⟨dx3, z3, hp3⟩ := T3.ob
  obtain ⟨kk3, hk3, _⟩ := T3.kn
  obtain ⟨ks3, hs3, _⟩ := T3.st
  have tk5 := e5.tups (fun b hb xs z => by
    rw [List.mem_singleton] at hb; subst hb
    rw [h3a] at z; cases z)
  have T5 : TrailAt C ns H5 p k o s t m [] 0 := T3.exc e5 (by simpa using ne_il hp3 h3a) (by simpa using ne_dl hk3 h3a) (by simpa using nao.symm) (by simpa using ne_dl hs3 h3a) (by simpa using nat.symm) (by simpa using nam.symm) tk5
  have hna5 := e5.get hna3 (by simpa using nana.symm) (npl_ints _)
  have hP5 := hP.ext e05
  clear e4 e5 e04 e03 e2 e1 e12 h4a tk5 T3 hp3 hk3 hs3
  walk_at "go"
  intro sd hsd
  have e6 : Ext H5 (upd H5 sd (.dK [])) := Ext.new hsd
  walk_at "go"
  intro r hrn
  have e7 : Ext H5 (upd (upd H5 sd (.dK [])) r (.lst [])) := e6.newer hrn
  have h7r : upd (upd H5 sd (.dK [])) r (.lst []) r = some (.lst []) := L2.upd_same
  have h7s : upd (upd H5 sd (.dK [])) r (.lst []) sd = some (.dK []) := upd_old hrn L2.upd_same
  have hna7 := e7.get hna5 (npl_ints _)
  have frn := e6.non hrn
  generalize upd (upd H5 sd (.dK [])) r (.lst []) = H7 at *
  walk_at "go"
  rw [List.length_map]
  refine ⟨ns.length, rfl, hl, ?_⟩
  walk_at "go"
  refine ⟨h7s, [(.inr "trail", .ref p), (.inr "nodes", .ref na), (.inr "rows", .ref r), (.inr "depth", .int 0), (.inr "number", .int 0), (.inr "bound", .int (bnd ns))], rfl, by show 6 ≤ 15; decide, ?_⟩
  rw [show mergeK [] [((.inr "trail" : Key), V.ref p), (.inr "nodes", .ref na), (.inr "rows", .ref r), (.inr "depth", .int 0), (.inr "number", .int 0), (.inr "bound", .int (bnd ns))] = seatD p na r 0 0 (bnd ns) from rfl]
  have T7 := T5.exc (D := []) (Exc.of e7) (by simp) (by simp) (by simp) (by simp) (by simp) (by simp) (fun b xs hb => e7.get hb (npl rfl))
  obtain ⟨dx7, z7, hp7⟩ := T7.ob
  obtain ⟨kk7, hk7, _⟩ := T7.kn
  obtain ⟨ks7, hs7, _⟩ := T7.st
  obtain ⟨ms7, hm7, _⟩ := T7.mm
  have ho7 := T7.od
  have ht7 := T7.ss
  obtain ⟨dx5, z5, hp5⟩ := T5.ob
  obtain ⟨kk5, hk5, _⟩ := T5.kn
  obtain ⟨ks5, hs5, _⟩ := T5.st
  obtain ⟨ms5, hm5, _⟩ := T5.mm
  have nsk : sd ≠ k := (ne_of_none hk5 hsd).symm
  have nss : sd ≠ s := (ne_of_none hs5 hsd).symm
  have nro : r ≠ o := (ne_of_none T5.od frn).symm
  have nrt : r ≠ t := (ne_of_none T5.ss frn).symm
  have nrm : r ≠ m := (ne_of_none hm5 frn).symm
  have nrna : r ≠ na := (ne_of_none hna5 frn).symm
  have e8 : Exc [sd] H7 (upd H7 sd (.dK (seatD p na r 0 0 (bnd ns)))) := Exc.refl.upd (by simp)
  have tk8 := e8.tups (fun b hb xs z => by
    rw [List.mem_singleton] at hb; subst hb
    rw [h7s] at z; cases z)
  have S8 : SeatAt C ns (upd H7 sd (.dK (seatD p na r 0 0 (bnd ns)))) sd na r p k o s t m [] 0 0 (bnd ns) :=
    ⟨L2.upd_same, e8.get hna7 (by simpa using (ne_dl h7s hna7).symm) (npl_ints _), ⟨[], e8.get h7r (by simpa using (ne_dl h7s h7r).symm) npl_nil, trivial⟩,
      T7.exc e8 (by simpa using ne_id hp7 h7s) (by simpa using nsk.symm) (by simpa using (ne_dl h7s ho7).symm) (by simpa using nss.symm) (by simpa using (ne_dl h7s ht7).symm) (by simpa using (ne_dl h7s hm7).symm) tk8, nsk, nss, nro, nrt, nrm, nrna, nnao, nnat, nnam, hpos⟩
  have e08 : Ext H (upd H7 sd (.dK (seatD p na r 0 0 (bnd ns)))) := (e05.trans e7).own (e05.non hsd)
  have fsd := e05.non hsd
  have fr := e05.non frn
  have X8 : SeatX C ns (upd H7 sd (.dK (seatD p na r 0 0 (bnd ns)))) sd na [sd, r, p, k, o, s, t, m] [] 0 0 (bnd ns) := ⟨r, p, k, o, s, t, m, rfl, S8⟩
  have hD : ∀ b ∈ [sd, r, p, k, o, s, t, m], H b = none := fun b hb => by
    simp only [List.mem_cons, List.not_mem_nil, or_false] at hb
    rcases hb with rfl | rfl | rfl | rfl | rfl | rfl | rfl | rfl <;> assumption
  generalize upd H7 sd (.dK (seatD p na r 0 0 (bnd ns))) = H8 at *
  generalize [sd, r, p, k, o, s, t, m] = DD at *
  clear S8 tk8 e8 T7 T5
  have hna8 := e08.get hna (npl_ints _)
  have hP8 := hP.ext e08
  walk_at "go"
  rename_i tk H9 hE9 t0 t1
  obtain ⟨c, hc, c0, c1, c2⟩ : ∃ c : Int, (tk * if decide (V.int (((ns.map V.int).length : Nat) : Int) = V.int 200) = true then 1 else 0) = c ∧ 0 ≤ c ∧ c ≤ 200 ∧ (0 < c → ns.length = 200) := by
    refine ⟨_, rfl, ?_⟩
    by_cases z : ns.length = 200
    · rw [if_pos (decide_eq_true (by rw [List.length_map, z]; rfl))]
      exact ⟨by omega, by omega, fun _ => z⟩
    · rw [if_neg (by simp; omega)]
      exact ⟨by omega, by omega, fun h => by omega⟩
  rw [hc]
  refine ⟨by omega, by omega, ?_⟩
  have X9 := X8.ext hE9
  have e09 := e08.trans hE9
  refine for_range (fun i σ H' => ∃ (rows : RowsT) (dep : Nat) (y : Option V), σ = [some v, some (.ref na), some (.ref ha), some (.ref p), some (.ref sd), y] ∧ SeatX C ns H' sd na DD rows dep 0 (bnd ns) ∧ Ext H H' ∧ rows.length = i) ⟨[], 0, _, rfl, X9, e09, rfl⟩ ?_ ?_
  · rintro i σ H10 hi ⟨rows, dep, y, rfl, X10, e10, hrl⟩
    have hns := c2 (by omega)
    have hf0 : fre ns rows ≠ [] := fre_ne hnd (by omega)
    have hP10 := hP.ext e10
    walk_at "go"
    rename_i u H11 hE11 u0 u1
    refine call_put8 (hP10.ext hE11) (X10.ext hE11) hf0 fun H12 lit d hd hlit e12 X12 => ?_
    walk_at "go"
    exact ⟨_, d, _, rfl, X12, (e10.trans hE11).exc e12 hD, by rw [List.length_append, hrl]; rfl⟩
  · rintro σ H10 ⟨rows, dep, y, rfl, X10, e10, hrl⟩
    walk_at "go"
    exact q H10 sd DD rows dep hD e10 X10
end
end Kf

end
section
set_option Elab.async false
set_option linter.all false
set_option maxRecDepth 100000
set_option maxHeartbeats 4000000
local macro_rules | `(tactic| walk_at "npl") => `(tactic| first | exact Kf.npl rfl | exact Kf.npl_ints _ | exact Kf.npl_one _ _ | exact Kf.npl_refs _ | assumption)
local macro_rules | `(tactic| walk_at "nn") => `(tactic| first
  | assumption
  | (refine' Kf.Ext.non ?nne ?nnh; (case nne => assumption); (case nnh => walk_at "nn")))
local macro_rules | `(tactic| walk_at "ext") => `(tactic| first
  | assumption
  | exact Kf.Ext.refl
  | (refine' Kf.Ext.newer ?exa ?exn; (case exn => assumption); (case exa => walk_at "ext"))
  | (refine' Kf.Ext.own ?exa ?exn; (case exn => walk_at "nn"); (case exa => walk_at "ext"))
  | (refine' Kf.Ext.trans ?exa ?exb; (case exb => assumption); (case exa => walk_at "ext")))
local macro_rules | `(tactic| walk_at "pool") => `(tactic| first
  | assumption
  | (refine' Kf.PoolAt.ext ?plh ?ple; (case plh => assumption); (case ple => walk_at "ext"))
  | (refine' Kf.PoolAt.upd ?plh ?plo ?pln; (case plo => assumption); (case pln => walk_at "npl"); (case plh => walk_at "pool")))
local macro_rules | `(tactic| walk_at "lk") => `(tactic| first
  | assumption
  | exact L2.upd_same
  | (refine' Kf.upd_old ?lkn ?lkh; (case lkn => assumption); (case lkh => walk_at "lk"))
  | (refine' Kf.upd_oth ?lkn ?lkh; (case lkn => (first | assumption | (apply Ne.symm; assumption))); (case lkh => walk_at "lk"))
  | (refine' Kf.Ext.get ?lke ?lkh ?lkn; (case lke => assumption); (case lkh => walk_at "lk"); (case lkn => walk_at "npl"))
  | (refine' L2.Same.at ?lke ?lkh; (case lke => assumption); (case lkh => walk_at "lk")))
local macro_rules | `(tactic| walk_at "sq") => `(tactic| first
  | assumption
  | (refine' L2.SqL.of ?sqh; (case sqh => walk_at "lk"))
  | (refine' L2.SqT.of ?sqh; (case sqh => walk_at "lk"))
  | (refine' Kf.Ext.seqL ?sqe ?sqh ?sqn; (case sqh => assumption); (case sqe => walk_at "ext"); (case sqn => walk_at "npl"))
  | (refine' Kf.Ext.seqT ?sqe ?sqh; (case sqh => assumption); (case sqe => walk_at "ext")))
local macro_rules | `(tactic| walk_at "at") => `(tactic| first | exact L2.atI_nat (j := 0) rfl | exact L2.atI_nat (j := 1) rfl | exact L2.atI_nat (j := 2) rfl | exact L2.atI_nat (j := 3) rfl | exact L2.atI_nat (j := 4) rfl | assumption)
local macro_rules | `(tactic| walk_at "ixn") => `(tactic| first | exact Kf.ixN_nat (j := 0) rfl | exact Kf.ixN_nat (j := 1) rfl | exact Kf.ixN_nat (j := 2) rfl | exact Kf.ixN_nat (j := 3) rfl | assumption)
local macro_rules | `(tactic| walk_at "set") => `(tactic| (first | (simp only [List.set_cons_succ, List.set_cons_zero]; rfl) | rfl))
local macro_rules | `(tactic| walk_at "om") => `(tactic| first | decide | omega | (simp only [List.length_map, List.length_cons, List.length_nil] at *; omega))
local macro_rules | `(tactic| walk_at "calls") => `(tactic| first
  | (with_reducible refine' Kf.call_take ?clp ?cla ?clb ?clq; (case clp => walk_at "pool"); (case cla => walk_at "om"); (case clb => walk_at "om"); intro r H' hE h0 h1)
  | (with_reducible refine' Kf.call_pool ?cls ?cla ?clq; (case cls => walk_at "sq"); (case cla => walk_at "om"); intro p H' hE hN hP)
  | (with_reducible refine' Kf.call_turn ?cls ?clp ?cla ?clq; (case cls => walk_at "sq"); (case clp => walk_at "pool"); (case cla => walk_at "om"); intro u H' hE hP))
local macro_rules | `(tactic| walk_at "side") => `(tactic| first
  | exact Kf.cmul_fmod (by decide) (by decide)
  | exact rfl
  | decide
  | omega
  | assumption
  | (refine ⟨?_, ?_⟩ <;> decide)
  | (refine ⟨?_, ?_, ?_⟩ <;> decide)
  | (refine ⟨?_, ?_⟩ <;> omega)
  | (refine Or.inl ⟨?_, ?_⟩ <;> decide)
  | (refine Or.inr ⟨?_, ?_⟩ <;> decide)
  | (refine Or.inl ⟨?_, ?_⟩ <;> omega)
  | (refine Or.inr ⟨?_, ?_⟩ <;> omega))
local macro_rules | `(tactic| walk_at "kit") => `(tactic| first | exact Kf.isi_int_int | exact Kf.isi_int_bool | exact Kf.isi_int_str | exact Kf.isi_int_list | exact Kf.isi_int_tuple | exact Kf.isi_bool_int | exact Kf.isi_bool_bool | exact Kf.isi_bool_str | exact Kf.isi_bool_list | exact Kf.isi_bool_tuple | exact Kf.isi_str_int | exact Kf.isi_str_bool | exact Kf.isi_str_str | exact Kf.isi_str_list | exact Kf.isi_str_tuple | exact Kf.isi_non_list | exact Kf.isi_non_tuple | exact Kf.isi_list_list | exact Kf.isi_list_tuple | exact Kf.isi_tuple_list | exact Kf.isi_tuple_tuple | exact Kf.isi_dict_dict)
local macro_rules | `(tactic| walk_at "ty") => `(tactic| first
  | exact L2.TyX.base (L2.TyOf.int _)
  | exact L2.TyX.base (L2.TyOf.bl _)
  | exact L2.TyX.base (L2.TyOf.str _)
  | exact L2.TyX.base L2.TyOf.non
  | (refine' L2.TyX.base (L2.TyOf.lst ?tyh); (case tyh => walk_at "lk"))
  | (refine' L2.TyX.base (L2.TyOf.tup ?tyh); (case tyh => walk_at "lk"))
  | (refine' L2.TyX.base (L2.TyOf.dK ?tyh); (case tyh => walk_at "lk")))
local macro_rules | `(tactic| walk_at "om2") => `(tactic| first | assumption | decide | omega)
local macro_rules | `(tactic| walk_at "st") => `(tactic| with_reducible first
  | (refine Kf.w_var rfl ?_)
  | (refine Kf.w_c ?_)
  | (refine Kf.w_seq ?_)
  | (refine Kf.w_asg ?_)
  | (refine' Kf.w_gname ?sth ?_; (case sth => with_unfolding_all walk_at "set"))
  | (refine Kf.w_op ?_)
  | (refine Kf.w_un ?_)
  | (refine Kf.w_rU ?_)
  | (refine Kf.w_rI0 ?_)
  | (refine' Kf.w_rI ?sth ?_; (case sth => with_unfolding_all walk_at "side"))
  | (refine' Kf.w_rEq ?sth ?_; (case sth => with_unfolding_all rfl))
  | (refine' Kf.w_rNe ?sth ?_; (case sth => with_unfolding_all rfl))
  | (refine Kf.w_tTest ?_)
  | (refine Kf.w_tB ?_)
  | (refine Kf.w_exbl ?_)
  | (refine Kf.w_exint ?_)
  | (refine Kf.w_ifS ?_)
  | (refine Kf.w_ret ?_)
  | (refine Kf.w_retN ?_)
  | (refine Kf.w_drop ?_)
  | (refine Kf.w_and ?_)
  | (refine Kf.w_or ?_)
  | (refine Kf.w_not ?_)
  | (refine Kf.w_andV ?_)
  | (refine Kf.w_orV ?_)
  | (refine Kf.w_notV ?_)
  | (refine Kf.w_if ?_)
  | (refine Kf.w_lc ?_)
  | (refine Kf.w_for ?_)
  | (refine Kf.w_rng1 ?_)
  | (refine' Kf.w_rng1x ?sth ?stg ?_; (case sth => with_unfolding_all walk_at "om"); (case stg => with_unfolding_all walk_at "om"))
  | (refine Kf.w_ilist ?_)
  | (refine Kf.w_iseq ?_)
  | (refine Kf.w_itup ?_)
  | (refine' Kf.w_ilistx ?sth ?_; (case sth => with_unfolding_all walk_at "sq"))
  | (refine' Kf.w_itupx ?sth ?_; (case sth => with_unfolding_all walk_at "sq"))
  | (refine' Kf.w_wipe ?sth ?_; (case sth => with_unfolding_all rfl))
  | (refine Kf.w_yes ?_)
  | (refine' Kf.w_isi ?sth ?stg ?_; (case sth => with_unfolding_all walk_at "ty"); (case stg => walk_at "kit"))
  | (refine Kf.w_isN ?_)
  | (refine Kf.w_notN ?_)
  | (refine Kf.w_cb ?_)
  | (refine Kf.w_nil ?_)
  | (refine Kf.w_cons ?_)
  | (refine Kf.w_tup ?_)
  | (refine Kf.w_lst ?_)
  | (refine' Kf.w_lines ?sth ?_; (case sth => with_unfolding_all rfl))
  | (refine Kf.w_call ?_)
  | (refine Kf.w_next ?_)
  | (refine Kf.w_break ?_)
  | (refine Kf.w_cont ?_)
  | (refine Kf.w_dnewK ?_)
  | (refine Kf.w_fld ?_)
  | (refine' Kf.w_fldx ?sth ?stg ?stf ?ste ?_; (case sth => with_unfolding_all walk_at "lk"); (case stg => assumption); (case stf => assumption); (case ste => with_unfolding_all exact rfl))
  | (refine Kf.w_sfld ?_)
  | (refine' Kf.w_sfldx ?sth ?stg ?stf ?ste ?_; (case sth => with_unfolding_all walk_at "lk"); (case stg => assumption); (case stf => assumption); (case ste => with_unfolding_all exact rfl))
  | (refine Kf.w_meth ?_)
  | (refine' Kf.w_methx ?sth ?stg ?_; (case sth => with_unfolding_all walk_at "lk"); (case stg => with_unfolding_all exact rfl))
  | (refine Kf.w_ddel ?_)
  | (refine Kf.w_disp ?_)
  | (refine Kf.w_pcons ?_)
  | (refine Kf.w_pnil ?_)
  | (refine Kf.w_make ?_)
  | (refine Kf.w_sfldaug ?_)
  | (refine' Kf.w_sfldaugx ?sth ?stg ?stf ?ste ?_; (case sth => with_unfolding_all walk_at "lk"); (case stg => assumption); (case stf => assumption); (case ste => with_unfolding_all exact rfl))
  | (refine Kf.w_inadd ?_)
  | (refine Kf.w_dnotin ?_)
  | (refine Kf.w_dget1 ?_)
  | (refine' Kf.w_dgetS ?sth ?stg ?_; (case sth => with_unfolding_all walk_at "lk"); (case stg => with_unfolding_all exact rfl))
  | (refine Kf.w_ikeys ?_)
  | (refine Kf.w_dput ?_)
  | (refine Kf.w_dget2 ?_)
  | (refine Kf.w_dget ?_)
  | (refine Kf.w_sl ?_)
  | (refine Kf.w_nopart ?_)
  | (refine Kf.w_part ?_)
  | (refine Kf.w_bm ?_)
  | (refine Kf.w_bm0 ?_)
  | (refine' Kf.w_bmL ?sth ?_; (case sth => with_unfolding_all walk_at "lk"))
  | (refine' Kf.w_cat ?sth ?stg ?stf ?_; (case sth => with_unfolding_all walk_at "lk"); (case stg => with_unfolding_all walk_at "lk"); (case stf => with_unfolding_all walk_at "om"))
  | (refine' Kf.w_slL ?sth ?_; (case sth => with_unfolding_all walk_at "sq"))
  | (refine' Kf.w_inL ?sth ?_; (case sth => with_unfolding_all walk_at "sq"))
  | (refine' Kf.w_inT ?sth ?_; (case sth => with_unfolding_all walk_at "sq"))
  | (refine' Kf.w_ninL ?sth ?_; (case sth => with_unfolding_all walk_at "sq"))
  | (refine' Kf.w_ninT ?sth ?_; (case sth => with_unfolding_all walk_at "sq"))
  | (refine' Kf.w_listof ?sth ?_; (case sth => with_unfolding_all walk_at "sq"))
  | (refine' Kf.w_tupof ?sth ?_; (case sth => with_unfolding_all walk_at "sq"))
  | (refine Kf.w_listRev ?_)
  | (refine Kf.w_gsub ?_)
  | (refine' Kf.w_ixL ?sth ?stg ?_; (case sth => with_unfolding_all walk_at "sq"); (case stg => with_unfolding_all walk_at "at"))
  | (refine' Kf.w_ixT ?sth ?stg ?_; (case sth => with_unfolding_all walk_at "sq"); (case stg => with_unfolding_all walk_at "at"))
  | (refine' Kf.w_setL ?sth ?stg ?_; (case sth => with_unfolding_all walk_at "lk"); (case stg => with_unfolding_all walk_at "ixn"))
  | (refine' Kf.w_len ?sth ?_; (case sth => with_unfolding_all walk_at "sq"))
  | (refine' Kf.w_lenT ?sth ?_; (case sth => with_unfolding_all walk_at "sq"))
  | (refine Kf.w_int1 ?_)
  | (refine Kf.w_intb ?_)
  | (refine Kf.w_abs ?_)
  | (refine Kf.w_aug rfl ?_)
  | (refine Kf.w_par ?_)
  | (refine' Kf.w_gtup ?sth ?stg ?_; (case sth => with_unfolding_all walk_at "sq"); (case stg => with_unfolding_all exact rfl))
  | (refine' Kf.w_glst ?sth ?stg ?_; (case sth => with_unfolding_all walk_at "sq"); (case stg => with_unfolding_all exact rfl))
  | (refine Kf.w_rng2 ?_)
  | (refine Kf.w_rng3 ?_)
  | (refine' Kf.w_rng2x ?sth ?stg ?stf ?ste ?_; (case sth => with_unfolding_all walk_at "om"); (case stg => with_unfolding_all walk_at "om"); (case stf => with_unfolding_all walk_at "om"); (case ste => with_unfolding_all walk_at "om"))
  | (refine Kf.w_gcons ?_)
  | (refine Kf.w_gnil ?_)
  | (refine Kf.w_gcd ?_)
  | (refine Kf.w_bits ?_)
  | (refine Kf.w_two ?_)
  | (refine Kf.w_ipI ?_)
  | (refine L2.iteT ?_)
  | (refine L2.iteF ?_)
  | (refine Kf.iteNT ?_)
  | (refine Kf.iteNF ?_)
  | (refine' Kf.ite_decT ?sth ?_; (case sth => exact rfl))
  | (refine' Kf.ite_decF ?sth ?_; (case sth => with_unfolding_all (intro e; cases e; done)))
  | (refine' Kf.ite_ndecF ?sth ?_; (case sth => exact rfl))
  | (refine' Kf.ite_ndecT ?sth ?_; (case sth => with_unfolding_all (intro e; cases e; done)))
  | (refine' Kf.ite_viT ?sth ?_; (case sth => (with_unfolding_all walk_at "om2")))
  | (refine' Kf.ite_viF ?sth ?_; (case sth => (with_unfolding_all walk_at "om2")))
  | (refine' Kf.ite_nviT ?sth ?_; (case sth => (with_unfolding_all walk_at "om2")))
  | (refine' Kf.ite_nviF ?sth ?_; (case sth => (with_unfolding_all walk_at "om2")))
  | (refine' Kf.ite_decT ?sth ?_; (case sth => (with_unfolding_all walk_at "om2")))
  | (refine' Kf.ite_decF ?sth ?_; (case sth => (with_unfolding_all walk_at "om2")))
  | with_unfolding_all walk_at "calls")
local macro_rules | `(tactic| walk_at "go") => `(tactic| repeat walk_at "st")

namespace Kf
open PySem PySem.Spec PyProof.Rows L2
open R8 (RowsT cnt dg upTo ROk num bnds)
abbrev s_law : Stmt := topS 24
abbrev N_law : List Str := ["script", "pool", "nodes", "other", "seats", "k", "seat", "turn"]
abbrev P_law : List Str := ["script"]
theorem sc_law : FnScope N_law P_law (defScope s_law) := ⟨rfl, rfl, rfl, by decide +kernel, rfl, by decide +kernel, by decide +kernel⟩
/-- the two seats -/
structure Two (C : Addr) (H0 H : Hp) (q na1 na2 : Addr) (ns1 ns2 : List Int) (sd1 sd2 : Addr) (D1 D2 : List Addr) (rows1 : RowsT) (dep1 : Nat) (nu1 : Int) (rows2 : RowsT) (dep2 : Nat) (nu2 : Int) : Prop where
  s1 : SeatX C ns1 H sd1 na1 D1 rows1 dep1 nu1 (bnd ns1)
  s2 : SeatX C ns2 H sd2 na2 D2 rows2 dep2 nu2 (bnd ns2)
  dis : ∀ b ∈ D1, b ∉ D2
  f1 : ∀ b ∈ D1, H0 b = none
  f2 : ∀ b ∈ D2, H0 b = none
  ex : Ext H0 H
  hq : H q = some (.lst [.ref sd1, .ref sd2])
  q1 : q ∉ D1
  q2 : q ∉ D2
  n1 : ∃ o, H0 na1 = some o
  n2 : ∃ o, H0 na2 = some o
theorem npl_two (a b : Addr) : ¬ Pl (.lst [.ref a, .ref b]) := npl_refs [a, b]
section
variable {C : Addr} {H0 H H' : Hp} {q na1 na2 : Addr} {ns1 ns2 : List Int} {sd1 sd2 : Addr} {D1 D2 D' : List Addr} {rows1 rows2 : RowsT} {dep1 dep2 : Nat} {nu1 nu2 : Int} {rows' : RowsT} {dep' : Nat} {nu' : Int}
theorem Two.ext (T : Two C H0 H q na1 na2 ns1 ns2 sd1 sd2 D1 D2 rows1 dep1 nu1 rows2 dep2 nu2) (e : Ext H H') : Two C H0 H' q na1 na2 ns1 ns2 sd1 sd2 D1 D2 rows1 dep1 nu1 rows2 dep2 nu2 :=
  ⟨T.s1.ext e, T.s2.ext e, T.dis, T.f1, T.f2, T.ex.trans e, e.get T.hq (npl_two _ _), T.q1, T.q2, T.n1, T.n2⟩
theorem Two.left (T : Two C H0 H q na1 na2 ns1 ns2 sd1 sd2 D1 D2 rows1 dep1 nu1 rows2 dep2 nu2) (e : Exc D1 H H') (hD : ∀ b ∈ D', b ∈ D1 ∨ H b = none) (S : SeatX C ns1 H' sd1 na1 D' rows' dep' nu' (bnd ns1)) : Two C H0 H' q na1 na2 ns1 ns2 sd1 sd2 D' D2 rows' dep' nu' rows2 dep2 nu2 := by
  refine ⟨S, T.s2.exc e (fun b hb z => T.dis b z hb) (fun z => ?_) T.s1.notup, fun b hb z => ?_, fun b hb => ?_, T.f2, T.ex.exc e T.f1, e.get T.hq T.q1 (npl_two _ _), fun z => ?_, T.q2, T.n1, T.n2⟩
  · obtain ⟨o, ho⟩ := T.n2
    rw [T.f1 _ z] at ho; cases ho
  · rcases hD b hb with u | u
    · exact T.dis b u z
    · obtain ⟨o, ho, _⟩ := T.s2.own b z
      rw [u] at ho; cases ho
  · rcases hD b hb with u | u
    · exact T.f1 b u
    · exact T.ex.non u
  · rcases hD q z with u | u
    · exact T.q1 u
    · have := T.hq
      rw [u] at this; cases this
theorem Two.right (T : Two C H0 H q na1 na2 ns1 ns2 sd1 sd2 D1 D2 rows1 dep1 nu1 rows2 dep2 nu2) (e : Exc D2 H H') (hD : ∀ b ∈ D', b ∈ D2 ∨ H b = none) (S : SeatX C ns2 H' sd2 na2 D' rows' dep' nu' (bnd ns2)) : Two C H0 H' q na1 na2 ns1 ns2 sd1 sd2 D1 D' rows1 dep1 nu1 rows' dep' nu' := by
  refine ⟨T.s1.exc e (fun b hb z => T.dis b hb z) (fun z => ?_) T.s2.notup, S, fun b hb z => ?_, T.f1, fun b hb => ?_, T.ex.exc e T.f2, e.get T.hq T.q2 (npl_two _ _), T.q1, fun z => ?_, T.n1, T.n2⟩
  · obtain ⟨o, ho⟩ := T.n1
    rw [T.f2 _ z] at ho; cases ho
  · rcases hD b z with u | u
    · exact T.dis b hb u
    · obtain ⟨o, ho, _⟩ := T.s1.own b hb
      rw [u] at ho; cases ho
  · rcases hD b hb with u | u
    · exact T.f2 b u
    · exact T.ex.non u
  · rcases hD q z with u | u
    · exact T.q2 u
    · have := T.hq
      rw [u] at this; cases this
end
section
variable {P : Program} {w : World} {K : PySem.W.Frag} {mg : Str → Option Value} {base : Heap} {H : Hp} {Q : VK} {E : XK} {C : Addr}
def spLaw (K : PySem.W.Frag) : Sp := fun vs H Q _ => ∃ (a : Addr) (ns : List Int), vs = [.ref a] ∧ SqL K H a (ns.map V.int) ∧ ns.length ≤ 63 ∧ ∀ H', Q (.bl true) H'
theorem ok_law (D : Df K mg "law" s_law P_law) (b_range : mg "range" = none) (b_list : mg "list" = none) (b_int : mg "int" = none) (p__law_pool : Pr P w K mg base "_law_pool" 1 P__law_pool (spPool K)) (p__law_take : Pr P w K mg base "_law_take" 1 P__law_take (spTake K)) (p__law_turn : Pr P w K mg base "_law_turn" 2 P__law_turn (spTurn K)) (p__law_nodes : Pr P w K mg base "_law_nodes" 3 P__law_nodes (spNod8 K))
    (p__law_seat : Pr P w K mg base "_law_seat" 5 P__law_seat (spSea C)) (p__law_told : Pr P w K mg base "_law_told" 4 P__law_told (spTol C)) (p__law_deed : Pr P w K mg base "_law_deed" 6 P__law_deed (spDee C)) : Pr P w K mg base "law" 7 P_law (spLaw K) := by
  refine D.ok sc_law (fun vs H Q E h => ?_) (fun f cdv A outer s H vs Q E hr h => ?_)
  · obtain ⟨a, ns, rfl, _⟩ := h; rfl
  obtain ⟨a, sc, rfl, hS, hsl, q⟩ := h
  have nd := sc_law.nd
  have npS := npl_ints sc
  have hu := hu_of hr
  refine ⟨_, (pss_cons (ps_set (i := 1) nd rfl (Or.inl rfl) (pe_callP p__law_pool hr (pa_cons (pv 0) (pa_cons pe_int pa_nil))))
      (pss_cons (ps_set (i := 2) nd rfl (Or.inl rfl) (pe_callP p__law_nodes hr (pa_cons (pv 1) pa_nil)))
      (pss_cons (ps_set (i := 3) nd rfl (Or.inl rfl) (pe_callP p__law_nodes hr (pa_cons (pe_callP p__law_turn hr (pa_cons (pv 0) (pa_cons (pv 1) (pa_cons pe_int pa_nil)))) pa_nil)))
      (C8.pss_cut (ps_if (pt_cmpR op_eq (pe_callP p__law_take hr (pa_cons (pv 1) (pa_cons pe_int pa_nil))) pe_int (nomark _)) (pss_one (ps_set (i := 3) nd rfl (Or.inl rfl) (pe_callTy (call_list_ofK (K := K) rfl) (by rfl) b_list (by decide +kernel) (pa_cons (pv 2) pa_nil)))) pss_nil)
      (pss_cons (ps_set (i := 4) nd rfl (Or.inl rfl) (pe_lst (pa_cons (pe_callP p__law_seat hr (pa_cons (pv 1) (pa_cons (pv 2) pa_nil))) (pa_cons (pe_callP p__law_seat hr (pa_cons (pv 1) (pa_cons (pv 3) pa_nil))) pa_nil))))
      (pss_cons (ps_for PassesOwn.never rfl (pi_range1 (by rfl) b_range (pa_cons pe_int pa_nil)) (pg_name (i := 5) nd rfl (Or.inl rfl)) (pss_cons (ps_set (i := 6) nd rfl (Or.inl rfl) (pe_ix (ix_listK (K := K) rfl) (pv 4) (pv 5) (fun _ _ => rfl)))
      (pss_cons (ps_dput hu (pv 6) pe_str (pe_callP p__law_told hr (pa_cons (pv 6) pa_nil)) rfl)
      (pss_one (ps_if (pt_cmpR op_lt (pe_dget hu (pv 6) pe_str (fun _ _ => rfl)) pe_int (nomark _)) (pss_one (ps_ret pe_bl)) pss_nil)))))
      (pss_cons (ps_for PassesOwn.never rfl (pi_range1 (by rfl) b_range (pa_cons (pe_op op_add pe_int (pe_callP p__law_take hr (pa_cons (pv 1) (pa_cons pe_int pa_nil)))) pa_nil)) (pg_name (i := 5) nd rfl (Or.inl rfl)) (pss_cons (ps_set (i := 7) nd rfl (Or.inl rfl) (pe_callP p__law_turn hr (pa_cons (pv 0) (pa_cons (pv 1) (pa_cons (pe_op op_add pe_int (pv 5)) pa_nil)))))
      (pss_cons (ps_set (i := 6) nd rfl (Or.inl rfl) (pe_ix (ix_listK (K := K) rfl) (pv 4) (pe_callTy call_int1 (by rfl) b_int (by decide +kernel) (pa_cons (pe_cmpR op_eq (pe_callP p__law_take hr (pa_cons (pv 7) (pa_cons pe_int pa_nil))) pe_int (nomark _)) pa_nil)) (fun _ _ => rfl)))
      (pss_one (ps_if (pt_not (pt_val (pe_callP p__law_deed hr (pa_cons (pv 7) (pa_cons (pv 6) pa_nil))))) (pss_one (ps_ret pe_bl)) pss_nil)))))
      (pss_one (ps_ret (pe_and (pe_cmpR op_eq (pe_callP p__law_told hr (pa_cons (pe_ix (ix_listK (K := K) rfl) (pv 4) pe_int (fun _ _ => rfl)) pa_nil)) (pe_dget hu (pe_ix (ix_listK (K := K) rfl) (pv 4) pe_int (fun _ _ => rfl)) pe_str (fun _ _ => rfl)) (nomark _)) (pe_one (pe_cmpR op_eq (pe_callP p__law_told hr (pa_cons (pe_ix (ix_listK (K := K) rfl) (pv 4) pe_int (fun _ _ => rfl)) pa_nil)) (pe_dget hu (pe_ix (ix_listK (K := K) rfl) (pv 4) pe_int (fun _ _ => rfl)) pe_str (fun _ _ => rfl)) (nomark _))))))))))))), ?_⟩
  refine w_start (σ := [some _, none, none, none, none, none, none, none]) rfl ?_
  walk_at "go"
  rename_i p0 H1 hE1 hpp hP1
  refine ⟨_, rfl, hP1, fun na1 H2 ns1 hE2 hn1 hna1 hpos1 hnd1 hlo1 hl1 => ?_⟩
  have e2 := hE1.trans hE2
  have hP2 := hP1.ext hE2
  have hS2 := e2.seqL hS npS
  walk_at "go"
  rename_i u3 H3 hE3 hu3
  refine ⟨_, rfl, hu3, fun na2 H4 ns2 hE4 hn2 hna2 hpos2 hnd2 hlo2 hl2 => ?_⟩
  have e24 := hE3.trans hE4
  have hP4 := hP2.ext e24
  have hS4 := e24.seqL hS2 npS
  have hna14 := e24.get hna1 (npl_ints _)
  walk_at "go"
  refine w_cut (fun σ' H' => ∃ (nb : Addr) (ns : List Int), σ' = [some (.ref a), some (.ref p0), some (.ref na1), some (.ref nb), none, none, none, none] ∧ Ext H4 H' ∧ H' nb = some (.lst (ns.map V.int)) ∧ (∀ n ∈ ns, 0 < n) ∧ ns.Nodup ∧ ns.length ≤ 200) ?_ ?_
  · walk_at "go"
    rename_i t5 H5 hE5 t50 t51
    refine ite_vi (fun c => ?_) (fun c => ?_)
    · have hna15 := hE5.get hna14 (npl_ints _)
      walk_at "go"
      intro nb hnb
      walk_at "go"
      exact ⟨nb, ns1, rfl, hE5.newer hnb, L2.upd_same, hpos1, hnd1, hl1⟩
    · walk_at "go"
      exact ⟨na2, ns2, rfl, hE5, hE5.get hna2 (npl_ints _), hpos2, hnd2, hl2⟩
  clear hna2 hpos2 hnd2 hl2 hlo2 hn2
  rintro σ' H5 ⟨nb, nsb, rfl, hE5, hnb, hposb, hndb, hlb⟩
  have hP5 := hP4.ext hE5
  have hS5 := hE5.seqL hS4 npS
  have hna15 := hE5.get hna14 (npl_ints _)
  clear e2 e24 hE1 hE2 hE3 hE4 hE5 hna1 hna14 hP4 hP2 hP1 hS4 hS2 hu3
  walk_at "go"
  refine ⟨ns1, .ref p0, na1, rfl, hP5, hna15, hpos1, hnd1, hl1, fun H6 sd1 D1 rows1 dep1 hD1 e6 X6 => ?_⟩
  walk_at "go"
  refine ⟨nsb, .ref p0, nb, rfl, hP5.ext e6, e6.get hnb (npl_ints _), hposb, hndb, hlb, fun H7 sd2 D2 rows2 dep2 hD2 e7 X7 => ?_⟩
  have X67 := X6.ext e7
  walk_at "go"
  intro qa hqa
  have e8 : Ext H7 (upd H7 qa (.lst [.ref sd1, .ref sd2])) := Ext.new hqa
  have dis8 : ∀ b ∈ D1, b ∉ D2 := fun b hb z => by
    obtain ⟨o, ho, _⟩ := X6.own b hb
    rw [hD2 b z] at ho; cases ho
  have qn1 : qa ∉ D1 := fun z => by
    obtain ⟨o, ho, _⟩ := X67.own qa z
    rw [hqa] at ho; cases ho
  have qn2 : qa ∉ D2 := fun z => by
    obtain ⟨o, ho, _⟩ := X7.own qa z
    rw [hqa] at ho; cases ho
  have T8 : Two C H5 (upd H7 qa (.lst [.ref sd1, .ref sd2])) qa na1 nb ns1 nsb sd1 sd2 D1 D2 rows1 dep1 0 rows2 dep2 0 :=
    ⟨X67.ext e8, X7.ext e8, dis8, hD1, fun b hb => e6.non (hD2 b hb), (e6.trans e7).trans e8, L2.upd_same, qn1, qn2, ⟨_, hna15⟩, ⟨_, hnb⟩⟩
  generalize upd H7 qa (.lst [.ref sd1, .ref sd2]) = H8 at *
  clear X6 X7 X67 e6 e7 e8
  walk_at "go"
  refine for_range (fun i σ H' => ∃ t5 t6 : Option V, σ = [some (.ref a), some (.ref p0), some (.ref na1), some (.ref nb), some (.ref qa), t5, t6, none] ∧ Two C H5 H' qa na1 nb ns1 nsb sd1 sd2 D1 D2 rows1 dep1 (if 0 < i then ((num rows1 ns1.length : Nat) : Int) else 0) rows2 dep2 (if 1 < i then ((num rows2 nsb.length : Nat) : Int) else 0)) ⟨_, _, rfl, T8⟩ ?_ ?_
  · rintro i σ H9 hi ⟨t5, t6, rfl, T9⟩
    have hi2 : i = 0 ∨ i = 1 := by have : i < 2 := hi; omega
    have hq9 := T9.hq
    rcases hi2 with rfl | rfl
    · rw [if_neg (by decide)] at T9
      rw [if_neg (by decide)] at T9
      walk_at "go"
      refine call_tolX T9.s1 fun H10 hE10 => ?_
      have T10 := T9.ext hE10
      obtain ⟨p10, r10, hsd10, hsdD⟩ := T10.s1.sdat
      walk_at "go"
      refine ⟨sd1, _, rfl, DPut.k (k := .inr "number") hsd10 (small1000 (by show 6 ≤ 1000; decide)), ?_⟩
      rw [sd_num']
      have T11 := T10.left (Exc.refl.upd hsdD) (fun b hb => .inl hb) (T10.s1.number (nu' := ((num rows1 ns1.length : Nat) : Int)) hsd10)
      have hs11 : upd H10 sd1 (.dK (seatD p10 na1 r10 (dep1 : Nat) ((num rows1 ns1.length : Nat) : Int) (bnd ns1))) sd1 = _ := L2.upd_same
      generalize upd H10 sd1 (.dK (seatD p10 na1 r10 (dep1 : Nat) ((num rows1 ns1.length : Nat) : Int) (bnd ns1))) = H11 at *
      have hnn : ¬ ((num rows1 ns1.length : Nat) : Int) < 0 := by omega
      walk_at "go"
      refine ⟨_, _, rfl, ?_⟩
      rw [if_pos (by decide), if_neg (by decide)]
      exact T11
    · rw [if_pos (by decide)] at T9
      rw [if_neg (by decide)] at T9
      walk_at "go"
      refine call_tolX T9.s2 fun H10 hE10 => ?_
      have T10 := T9.ext hE10
      obtain ⟨p10, r10, hsd10, hsdD⟩ := T10.s2.sdat
      walk_at "go"
      refine ⟨sd2, _, rfl, DPut.k (k := .inr "number") hsd10 (small1000 (by show 6 ≤ 1000; decide)), ?_⟩
      rw [sd_num']
      have T11 := T10.right (Exc.refl.upd hsdD) (fun b hb => .inl hb) (T10.s2.number (nu' := ((num rows2 nsb.length : Nat) : Int)) hsd10)
      have hs11 : upd H10 sd2 (.dK (seatD p10 nb r10 (dep2 : Nat) ((num rows2 nsb.length : Nat) : Int) (bnd nsb))) sd2 = _ := L2.upd_same
      generalize upd H10 sd2 (.dK (seatD p10 nb r10 (dep2 : Nat) ((num rows2 nsb.length : Nat) : Int) (bnd nsb))) = H11 at *
      have hnn : ¬ ((num rows2 nsb.length : Nat) : Int) < 0 := by omega
      walk_at "go"
      refine ⟨_, _, rfl, ?_⟩
      rw [if_pos (by decide), if_pos (by decide)]
      exact T11
  rintro σ H9 ⟨t5, t6, rfl, T9⟩
  rw [if_pos (by decide), if_pos (by decide)] at T9
  have hP9 := hP5.ext T9.ex
  walk_at "go"
  rename_i mn H10 hE10 mn0 mn1
  have T10 := T9.ext hE10
  refine for_range (fun i σ H' => ∃ (t5 t6 t7 : Option V) (D1 D2 : List Addr) (rows1 : RowsT) (dep1 : Nat) (rows2 : RowsT) (dep2 : Nat), σ = [some (.ref a), some (.ref p0), some (.ref na1), some (.ref nb), some (.ref qa), t5, t6, t7] ∧ Two C H5 H' qa na1 nb ns1 nsb sd1 sd2 D1 D2 rows1 dep1 ((num rows1 ns1.length : Nat) : Int) rows2 dep2 ((num rows2 nsb.length : Nat) : Int)) ⟨_, _, _, _, _, _, _, _, _, rfl, T10⟩ ?_ ?_
  · rintro i σ H11 hi ⟨s5, s6, s7, E1, E2, ro1, de1, ro2, de2, rfl, T11⟩
    have hS11 := T11.ex.seqL hS5 npS
    have hP11 := hP5.ext T11.ex
    walk_at "go"
    rename_i u H12 hE12 hu12 tk H13 hE13 tk0 tk1
    have T13 := (T11.ext hE12).ext hE13
    have hq13 := T13.hq
    have hu13 := hu12.ext hE13
    by_cases z : tk = 0
    · rw [if_pos (decide_eq_true (by rw [z]))]
      walk_at "go"
      refine ⟨nsb, u, sd2, nb, E2, ro2, de2, rfl, hu13, T13.s2, fun H14 D' rows' dep' e14 hD' X' => ?_⟩
      walk_at "go"
      exact ⟨_, _, _, E1, D', ro1, de1, rows', dep', rfl, T13.right e14 hD' X'⟩
    · rw [if_neg (by simpa using z)]
      walk_at "go"
      refine ⟨ns1, u, sd1, na1, E1, ro1, de1, rfl, hu13, T13.s1, fun H14 D' rows' dep' e14 hD' X' => ?_⟩
      walk_at "go"
      exact ⟨_, _, _, D', E2, rows', dep', ro2, de2, rfl, T13.left e14 hD' X'⟩
  · rintro σ H11 ⟨s5, s6, s7, E1, E2, ro1, de1, ro2, de2, rfl, T11⟩
    have hq11 := T11.hq
    walk_at "go"
    refine call_tolX T11.s1 fun H12 hE12 => ?_
    have T12 := T11.ext hE12
    have hq12 := T12.hq
    obtain ⟨p12, r12, hsd12, _⟩ := T12.s1.sdat
    walk_at "go"
    refine call_tolX T12.s2 fun H13 hE13 => ?_
    have T13 := T12.ext hE13
    have hq13 := T13.hq
    obtain ⟨p13, r13, hsd13, _⟩ := T13.s2.sdat
    walk_at "go"
    rw [decide_eq_true rfl]
    exact q H13
end
end Kf

end
section
set_option Elab.async false
set_option linter.all false
set_option maxRecDepth 100000
set_option maxHeartbeats 4000000
local macro_rules | `(tactic| walk_at "npl") => `(tactic| first | exact Kf.npl rfl | exact Kf.npl_ints _ | exact Kf.npl_one _ _ | exact Kf.npl_refs _ | assumption)
local macro_rules | `(tactic| walk_at "nn") => `(tactic| first
  | assumption
  | (refine' Kf.Ext.non ?nne ?nnh; (case nne => assumption); (case nnh => walk_at "nn")))
local macro_rules | `(tactic| walk_at "ext") => `(tactic| first
  | assumption
  | exact Kf.Ext.refl
  | (refine' Kf.Ext.newer ?exa ?exn; (case exn => assumption); (case exa => walk_at "ext"))
  | (refine' Kf.Ext.own ?exa ?exn; (case exn => walk_at "nn"); (case exa => walk_at "ext"))
  | (refine' Kf.Ext.trans ?exa ?exb; (case exb => assumption); (case exa => walk_at "ext")))
local macro_rules | `(tactic| walk_at "pool") => `(tactic| first
  | assumption
  | (refine' Kf.PoolAt.ext ?plh ?ple; (case plh => assumption); (case ple => walk_at "ext"))
  | (refine' Kf.PoolAt.upd ?plh ?plo ?pln; (case plo => assumption); (case pln => walk_at "npl"); (case plh => walk_at "pool")))
local macro_rules | `(tactic| walk_at "lk") => `(tactic| first
  | assumption
  | exact L2.upd_same
  | (refine' Kf.upd_old ?lkn ?lkh; (case lkn => assumption); (case lkh => walk_at "lk"))
  | (refine' Kf.upd_oth ?lkn ?lkh; (case lkn => (first | assumption | (apply Ne.symm; assumption))); (case lkh => walk_at "lk"))
  | (refine' Kf.Ext.get ?lke ?lkh ?lkn; (case lke => assumption); (case lkh => walk_at "lk"); (case lkn => walk_at "npl"))
  | (refine' L2.Same.at ?lke ?lkh; (case lke => assumption); (case lkh => walk_at "lk")))
local macro_rules | `(tactic| walk_at "sq") => `(tactic| first
  | assumption
  | (refine' L2.SqL.of ?sqh; (case sqh => walk_at "lk"))
  | (refine' L2.SqT.of ?sqh; (case sqh => walk_at "lk"))
  | (refine' Kf.Ext.seqL ?sqe ?sqh ?sqn; (case sqh => assumption); (case sqe => walk_at "ext"); (case sqn => walk_at "npl"))
  | (refine' Kf.Ext.seqT ?sqe ?sqh; (case sqh => assumption); (case sqe => walk_at "ext")))
local macro_rules | `(tactic| walk_at "at") => `(tactic| first | exact L2.atI_nat (j := 0) rfl | exact L2.atI_nat (j := 1) rfl | exact L2.atI_nat (j := 2) rfl | exact L2.atI_nat (j := 3) rfl | exact L2.atI_nat (j := 4) rfl | assumption)
local macro_rules | `(tactic| walk_at "ixn") => `(tactic| first | exact Kf.ixN_nat (j := 0) rfl | exact Kf.ixN_nat (j := 1) rfl | exact Kf.ixN_nat (j := 2) rfl | exact Kf.ixN_nat (j := 3) rfl | assumption)
local macro_rules | `(tactic| walk_at "set") => `(tactic| (first | (simp only [List.set_cons_succ, List.set_cons_zero]; rfl) | rfl))
local macro_rules | `(tactic| walk_at "om") => `(tactic| first | decide | omega | (simp only [List.length_map, List.length_cons, List.length_nil] at *; omega))
local macro_rules | `(tactic| walk_at "calls") => `(tactic| first
  | (with_reducible refine' Kf.call_take ?clp ?cla ?clb ?clq; (case clp => walk_at "pool"); (case cla => walk_at "om"); (case clb => walk_at "om"); intro r H' hE h0 h1)
  | (with_reducible refine' Kf.call_pool ?cls ?cla ?clq; (case cls => walk_at "sq"); (case cla => walk_at "om"); intro p H' hE hN hP)
  | (with_reducible refine' Kf.call_turn ?cls ?clp ?cla ?clq; (case cls => walk_at "sq"); (case clp => walk_at "pool"); (case cla => walk_at "om"); intro u H' hE hP))
local macro_rules | `(tactic| walk_at "side") => `(tactic| first
  | exact Kf.cmul_fmod (by decide) (by decide)
  | exact rfl
  | decide
  | omega
  | assumption
  | (refine ⟨?_, ?_⟩ <;> decide)
  | (refine ⟨?_, ?_, ?_⟩ <;> decide)
  | (refine ⟨?_, ?_⟩ <;> omega)
  | (refine Or.inl ⟨?_, ?_⟩ <;> decide)
  | (refine Or.inr ⟨?_, ?_⟩ <;> decide)
  | (refine Or.inl ⟨?_, ?_⟩ <;> omega)
  | (refine Or.inr ⟨?_, ?_⟩ <;> omega))
local macro_rules | `(tactic| walk_at "kit") => `(tactic| first | exact Kf.isi_int_int | exact Kf.isi_int_bool | exact Kf.isi_int_str | exact Kf.isi_int_list | exact Kf.isi_int_tuple | exact Kf.isi_bool_int | exact Kf.isi_bool_bool | exact Kf.isi_bool_str | exact Kf.isi_bool_list | exact Kf.isi_bool_tuple | exact Kf.isi_str_int | exact Kf.isi_str_bool | exact Kf.isi_str_str | exact Kf.isi_str_list | exact Kf.isi_str_tuple | exact Kf.isi_non_list | exact Kf.isi_non_tuple | exact Kf.isi_list_list | exact Kf.isi_list_tuple | exact Kf.isi_tuple_list | exact Kf.isi_tuple_tuple | exact Kf.isi_dict_dict)
local macro_rules | `(tactic| walk_at "ty") => `(tactic| first
  | exact L2.TyX.base (L2.TyOf.int _)
  | exact L2.TyX.base (L2.TyOf.bl _)
  | exact L2.TyX.base (L2.TyOf.str _)
  | exact L2.TyX.base L2.TyOf.non
  | (refine' L2.TyX.base (L2.TyOf.lst ?tyh); (case tyh => walk_at "lk"))
  | (refine' L2.TyX.base (L2.TyOf.tup ?tyh); (case tyh => walk_at "lk"))
  | (refine' L2.TyX.base (L2.TyOf.dK ?tyh); (case tyh => walk_at "lk")))
local macro_rules | `(tactic| walk_at "om2") => `(tactic| first | assumption | decide | omega)
local macro_rules | `(tactic| walk_at "st") => `(tactic| with_reducible first
  | (refine Kf.w_var rfl ?_)
  | (refine Kf.w_c ?_)
  | (refine Kf.w_seq ?_)
  | (refine Kf.w_asg ?_)
  | (refine' Kf.w_gname ?sth ?_; (case sth => with_unfolding_all walk_at "set"))
  | (refine Kf.w_op ?_)
  | (refine Kf.w_un ?_)
  | (refine Kf.w_rU ?_)
  | (refine Kf.w_rI0 ?_)
  | (refine' Kf.w_rI ?sth ?_; (case sth => with_unfolding_all walk_at "side"))
  | (refine' Kf.w_rEq ?sth ?_; (case sth => with_unfolding_all rfl))
  | (refine' Kf.w_rNe ?sth ?_; (case sth => with_unfolding_all rfl))
  | (refine Kf.w_tTest ?_)
  | (refine Kf.w_tB ?_)
  | (refine Kf.w_exbl ?_)
  | (refine Kf.w_exint ?_)
  | (refine Kf.w_ifS ?_)
  | (refine Kf.w_ret ?_)
  | (refine Kf.w_retN ?_)
  | (refine Kf.w_drop ?_)
  | (refine Kf.w_and ?_)
  | (refine Kf.w_or ?_)
  | (refine Kf.w_not ?_)
  | (refine Kf.w_andV ?_)
  | (refine Kf.w_orV ?_)
  | (refine Kf.w_notV ?_)
  | (refine Kf.w_if ?_)
  | (refine Kf.w_lc ?_)
  | (refine Kf.w_for ?_)
  | (refine Kf.w_rng1 ?_)
  | (refine' Kf.w_rng1x ?sth ?stg ?_; (case sth => with_unfolding_all walk_at "om"); (case stg => with_unfolding_all walk_at "om"))
  | (refine Kf.w_ilist ?_)
  | (refine Kf.w_iseq ?_)
  | (refine Kf.w_itup ?_)
  | (refine' Kf.w_ilistx ?sth ?_; (case sth => with_unfolding_all walk_at "sq"))
  | (refine' Kf.w_itupx ?sth ?_; (case sth => with_unfolding_all walk_at "sq"))
  | (refine' Kf.w_wipe ?sth ?_; (case sth => with_unfolding_all rfl))
  | (refine Kf.w_yes ?_)
  | (refine' Kf.w_isi ?sth ?stg ?_; (case sth => with_unfolding_all walk_at "ty"); (case stg => walk_at "kit"))
  | (refine Kf.w_isN ?_)
  | (refine Kf.w_notN ?_)
  | (refine Kf.w_cb ?_)
  | (refine Kf.w_nil ?_)
  | (refine Kf.w_cons ?_)
  | (refine Kf.w_tup ?_)
  | (refine Kf.w_lst ?_)
  | (refine' Kf.w_lines ?sth ?_; (case sth => with_unfolding_all rfl))
  | (refine Kf.w_call ?_)
  | (refine Kf.w_next ?_)
  | (refine Kf.w_break ?_)
  | (refine Kf.w_cont ?_)
  | (refine Kf.w_dnewK ?_)
  | (refine Kf.w_fld ?_)
  | (refine' Kf.w_fldx ?sth ?stg ?stf ?ste ?_; (case sth => with_unfolding_all walk_at "lk"); (case stg => assumption); (case stf => assumption); (case ste => with_unfolding_all exact rfl))
  | (refine Kf.w_sfld ?_)
  | (refine' Kf.w_sfldx ?sth ?stg ?stf ?ste ?_; (case sth => with_unfolding_all walk_at "lk"); (case stg => assumption); (case stf => assumption); (case ste => with_unfolding_all exact rfl))
  | (refine Kf.w_meth ?_)
  | (refine' Kf.w_methx ?sth ?stg ?_; (case sth => with_unfolding_all walk_at "lk"); (case stg => with_unfolding_all exact rfl))
  | (refine Kf.w_ddel ?_)
  | (refine Kf.w_disp ?_)
  | (refine Kf.w_pcons ?_)
  | (refine Kf.w_pnil ?_)
  | (refine Kf.w_make ?_)
  | (refine Kf.w_sfldaug ?_)
  | (refine' Kf.w_sfldaugx ?sth ?stg ?stf ?ste ?_; (case sth => with_unfolding_all walk_at "lk"); (case stg => assumption); (case stf => assumption); (case ste => with_unfolding_all exact rfl))
  | (refine Kf.w_inadd ?_)
  | (refine Kf.w_dnotin ?_)
  | (refine Kf.w_dget1 ?_)
  | (refine' Kf.w_dgetS ?sth ?stg ?_; (case sth => with_unfolding_all walk_at "lk"); (case stg => with_unfolding_all exact rfl))
  | (refine Kf.w_ikeys ?_)
  | (refine Kf.w_dput ?_)
  | (refine Kf.w_dget2 ?_)
  | (refine Kf.w_dget ?_)
  | (refine Kf.w_sl ?_)
  | (refine Kf.w_nopart ?_)
  | (refine Kf.w_part ?_)
  | (refine Kf.w_bm ?_)
  | (refine Kf.w_bm0 ?_)
  | (refine' Kf.w_bmL ?sth ?_; (case sth => with_unfolding_all walk_at "lk"))
  | (refine' Kf.w_cat ?sth ?stg ?stf ?_; (case sth => with_unfolding_all walk_at "lk"); (case stg => with_unfolding_all walk_at "lk"); (case stf => with_unfolding_all walk_at "om"))
  | (refine' Kf.w_slL ?sth ?_; (case sth => with_unfolding_all walk_at "sq"))
  | (refine' Kf.w_inL ?sth ?_; (case sth => with_unfolding_all walk_at "sq"))
  | (refine' Kf.w_inT ?sth ?_; (case sth => with_unfolding_all walk_at "sq"))
  | (refine' Kf.w_ninL ?sth ?_; (case sth => with_unfolding_all walk_at "sq"))
  | (refine' Kf.w_ninT ?sth ?_; (case sth => with_unfolding_all walk_at "sq"))
  | (refine' Kf.w_listof ?sth ?_; (case sth => with_unfolding_all walk_at "sq"))
  | (refine' Kf.w_tupof ?sth ?_; (case sth => with_unfolding_all walk_at "sq"))
  | (refine Kf.w_listRev ?_)
  | (refine Kf.w_gsub ?_)
  | (refine' Kf.w_ixL ?sth ?stg ?_; (case sth => with_unfolding_all walk_at "sq"); (case stg => with_unfolding_all walk_at "at"))
  | (refine' Kf.w_ixT ?sth ?stg ?_; (case sth => with_unfolding_all walk_at "sq"); (case stg => with_unfolding_all walk_at "at"))
  | (refine' Kf.w_setL ?sth ?stg ?_; (case sth => with_unfolding_all walk_at "lk"); (case stg => with_unfolding_all walk_at "ixn"))
  | (refine' Kf.w_len ?sth ?_; (case sth => with_unfolding_all walk_at "sq"))
  | (refine' Kf.w_lenT ?sth ?_; (case sth => with_unfolding_all walk_at "sq"))
  | (refine Kf.w_int1 ?_)
  | (refine Kf.w_intb ?_)
  | (refine Kf.w_abs ?_)
  | (refine Kf.w_aug rfl ?_)
  | (refine Kf.w_par ?_)
  | (refine' Kf.w_gtup ?sth ?stg ?_; (case sth => with_unfolding_all walk_at "sq"); (case stg => with_unfolding_all exact rfl))
  | (refine' Kf.w_glst ?sth ?stg ?_; (case sth => with_unfolding_all walk_at "sq"); (case stg => with_unfolding_all exact rfl))
  | (refine Kf.w_rng2 ?_)
  | (refine Kf.w_rng3 ?_)
  | (refine' Kf.w_rng2x ?sth ?stg ?stf ?ste ?_; (case sth => with_unfolding_all walk_at "om"); (case stg => with_unfolding_all walk_at "om"); (case stf => with_unfolding_all walk_at "om"); (case ste => with_unfolding_all walk_at "om"))
  | (refine Kf.w_gcons ?_)
  | (refine Kf.w_gnil ?_)
  | (refine Kf.w_gcd ?_)
  | (refine Kf.w_bits ?_)
  | (refine Kf.w_two ?_)
  | (refine Kf.w_ipI ?_)
  | (refine L2.iteT ?_)
  | (refine L2.iteF ?_)
  | (refine Kf.iteNT ?_)
  | (refine Kf.iteNF ?_)
  | (refine' Kf.ite_decT ?sth ?_; (case sth => exact rfl))
  | (refine' Kf.ite_decF ?sth ?_; (case sth => with_unfolding_all (intro e; cases e; done)))
  | (refine' Kf.ite_ndecF ?sth ?_; (case sth => exact rfl))
  | (refine' Kf.ite_ndecT ?sth ?_; (case sth => with_unfolding_all (intro e; cases e; done)))
  | (refine' Kf.ite_viT ?sth ?_; (case sth => (with_unfolding_all walk_at "om2")))
  | (refine' Kf.ite_viF ?sth ?_; (case sth => (with_unfolding_all walk_at "om2")))
  | (refine' Kf.ite_nviT ?sth ?_; (case sth => (with_unfolding_all walk_at "om2")))
  | (refine' Kf.ite_nviF ?sth ?_; (case sth => (with_unfolding_all walk_at "om2")))
  | (refine' Kf.ite_decT ?sth ?_; (case sth => (with_unfolding_all walk_at "om2")))
  | (refine' Kf.ite_decF ?sth ?_; (case sth => (with_unfolding_all walk_at "om2")))
  | with_unfolding_all walk_at "calls")
local macro_rules | `(tactic| walk_at "go") => `(tactic| repeat walk_at "st")

namespace Kf
open PySem PySem.Spec PyProof.Rows L2
theorem all_mk {l : PySem.W.OpenLaw} {w : World} {K : PySem.W.Frag} {h : Heap} {mg : Str → Option Value} {fa f0 f1 f2 f3 f4 f5 f6 f7 f8 f9 f10 f11 f12 f13 f14 f15 f16 f17 : Addr} (X : K.In h) (G : h.Ns mainGlobals mg) (hfa : mg "law" = some (.ref fa))
    {od0 an0 od1 an1 od2 an2 od3 an3 od4 an4 od5 an5 od6 an6 od7 an7 od8 an8 od9 an9 od10 an10 od11 an11 od12 an12 od13 an13 od14 an14 od15 an15 od16 an16 od17 an17 : Option Addr} {sl0 sl1 sl2 sl3 sl4 sl5 sl6 sl7 sl8 sl9 sl10 sl11 sl12 sl13 sl14 sl15 sl16 sl17 : Array (Option Value)} {oc0 kV0 dc0 pm0 cd0 ct0 oc1 kV1 dc1 pm1 cd1 ct1 oc2 kV2 dc2 pm2 cd2 ct2 oc3 kV3 dc3 pm3 cd3 ct3 oc4 kV4 dc4 pm4 cd4 ct4 oc5 kV5 dc5 pm5 cd5 ct5 oc6 kV6 dc6 pm6 cd6 ct6 oc7 kV7 dc7 pm7 cd7 ct7 oc8 kV8 dc8 pm8 cd8 ct8 oc9 kV9 dc9 pm9 cd9 ct9 oc10 kV10 dc10 pm10 cd10 ct10 oc11 kV11 dc11 pm11 cd11 ct11 oc12 kV12 dc12 pm12 cd12 ct12 oc13 kV13 dc13 pm13 cd13 ct13 oc14 kV14 dc14 pm14 cd14 ct14 oc15 kV15 dc15 pm15 cd15 ct15 oc16 kV16 dc16 pm16 cd16 ct16 oc17 kV17 dc17 pm17 cd17 ct17 : Value}
    (a0 : PySem.W.nsIn K mainGlobals "_law_pool" = some (some (.ref f0))) (l0 : K.lookup f0 = some ⟨oc0, od0, .func (PySem.W.fnOf "_law_pool" "_law_pool" (defArgs s__law_pool) (defBody s__law_pool) (defScope s__law_pool) .none kV0 dc0 pm0 an0 cd0 ct0), sl0⟩) (c0 : PySem.W.codeIn K cd0 "_law_pool" = true) (k0 : PySem.W.keepIn K (.ref f0) = true)
    (a1 : PySem.W.nsIn K mainGlobals "_law_take" = some (some (.ref f1))) (l1 : K.lookup f1 = some ⟨oc1, od1, .func (PySem.W.fnOf "_law_take" "_law_take" (defArgs s__law_take) (defBody s__law_take) (defScope s__law_take) .none kV1 dc1 pm1 an1 cd1 ct1), sl1⟩) (c1 : PySem.W.codeIn K cd1 "_law_take" = true) (k1 : PySem.W.keepIn K (.ref f1) = true)
    (a2 : PySem.W.nsIn K mainGlobals "_law_turn" = some (some (.ref f2))) (l2 : K.lookup f2 = some ⟨oc2, od2, .func (PySem.W.fnOf "_law_turn" "_law_turn" (defArgs s__law_turn) (defBody s__law_turn) (defScope s__law_turn) .none kV2 dc2 pm2 an2 cd2 ct2), sl2⟩) (c2 : PySem.W.codeIn K cd2 "_law_turn" = true) (k2 : PySem.W.keepIn K (.ref f2) = true)
    (a3 : PySem.W.nsIn K mainGlobals "_law_pick" = some (some (.ref f3))) (l3 : K.lookup f3 = some ⟨oc3, od3, .func (PySem.W.fnOf "_law_pick" "_law_pick" (defArgs s__law_pick) (defBody s__law_pick) (defScope s__law_pick) .none kV3 dc3 pm3 an3 cd3 ct3), sl3⟩) (c3 : PySem.W.codeIn K cd3 "_law_pick" = true) (k3 : PySem.W.keepIn K (.ref f3) = true)
    (a4 : PySem.W.nsIn K mainGlobals "_law_mixed" = some (some (.ref f4))) (l4 : K.lookup f4 = some ⟨oc4, od4, .func (PySem.W.fnOf "_law_mixed" "_law_mixed" (defArgs s__law_mixed) (defBody s__law_mixed) (defScope s__law_mixed) .none kV4 dc4 pm4 an4 cd4 ct4), sl4⟩) (c4 : PySem.W.codeIn K cd4 "_law_mixed" = true) (k4 : PySem.W.keepIn K (.ref f4) = true)
    (a5 : PySem.W.nsIn K mainGlobals "_law_whole" = some (some (.ref f5))) (l5 : K.lookup f5 = some ⟨oc5, od5, .func (PySem.W.fnOf "_law_whole" "_law_whole" (defArgs s__law_whole) (defBody s__law_whole) (defScope s__law_whole) .none kV5 dc5 pm5 an5 cd5 ct5), sl5⟩) (c5 : PySem.W.codeIn K cd5 "_law_whole" = true) (k5 : PySem.W.keepIn K (.ref f5) = true)
    (a6 : PySem.W.nsIn K mainGlobals "_law_alike" = some (some (.ref f6))) (l6 : K.lookup f6 = some ⟨oc6, od6, .func (PySem.W.fnOf "_law_alike" "_law_alike" (defArgs s__law_alike) (defBody s__law_alike) (defScope s__law_alike) .none kV6 dc6 pm6 an6 cd6 ct6), sl6⟩) (c6 : PySem.W.codeIn K cd6 "_law_alike" = true) (k6 : PySem.W.keepIn K (.ref f6) = true)
    (a7 : PySem.W.nsIn K mainGlobals "_law_nodes" = some (some (.ref f7))) (l7 : K.lookup f7 = some ⟨oc7, od7, .func (PySem.W.fnOf "_law_nodes" "_law_nodes" (defArgs s__law_nodes) (defBody s__law_nodes) (defScope s__law_nodes) .none kV7 dc7 pm7 an7 cd7 ct7), sl7⟩) (c7 : PySem.W.codeIn K cd7 "_law_nodes" = true) (k7 : PySem.W.keepIn K (.ref f7) = true)
    (a8 : PySem.W.nsIn K mainGlobals "_law_number" = some (some (.ref f8))) (l8 : K.lookup f8 = some ⟨oc8, od8, .func (PySem.W.fnOf "_law_number" "_law_number" (defArgs s__law_number) (defBody s__law_number) (defScope s__law_number) .none kV8 dc8 pm8 an8 cd8 ct8), sl8⟩) (c8 : PySem.W.codeIn K cd8 "_law_number" = true) (k8 : PySem.W.keepIn K (.ref f8) = true)
    (a9 : PySem.W.nsIn K mainGlobals "_law_bound" = some (some (.ref f9))) (l9 : K.lookup f9 = some ⟨oc9, od9, .func (PySem.W.fnOf "_law_bound" "_law_bound" (defArgs s__law_bound) (defBody s__law_bound) (defScope s__law_bound) .none kV9 dc9 pm9 an9 cd9 ct9), sl9⟩) (c9 : PySem.W.codeIn K cd9 "_law_bound" = true) (k9 : PySem.W.keepIn K (.ref f9) = true)
    (a10 : PySem.W.nsIn K mainGlobals "_law_sizes" = some (some (.ref f10))) (l10 : K.lookup f10 = some ⟨oc10, od10, .func (PySem.W.fnOf "_law_sizes" "_law_sizes" (defArgs s__law_sizes) (defBody s__law_sizes) (defScope s__law_sizes) .none kV10 dc10 pm10 an10 cd10 ct10), sl10⟩) (c10 : PySem.W.codeIn K cd10 "_law_sizes" = true) (k10 : PySem.W.keepIn K (.ref f10) = true)
    (a11 : PySem.W.nsIn K mainGlobals "_law_told" = some (some (.ref f11))) (l11 : K.lookup f11 = some ⟨oc11, od11, .func (PySem.W.fnOf "_law_told" "_law_told" (defArgs s__law_told) (defBody s__law_told) (defScope s__law_told) .none kV11 dc11 pm11 an11 cd11 ct11), sl11⟩) (c11 : PySem.W.codeIn K cd11 "_law_told" = true) (k11 : PySem.W.keepIn K (.ref f11) = true)
    (a12 : PySem.W.nsIn K mainGlobals "_law_free" = some (some (.ref f12))) (l12 : K.lookup f12 = some ⟨oc12, od12, .func (PySem.W.fnOf "_law_free" "_law_free" (defArgs s__law_free) (defBody s__law_free) (defScope s__law_free) .none kV12 dc12 pm12 an12 cd12 ct12), sl12⟩) (c12 : PySem.W.codeIn K cd12 "_law_free" = true) (k12 : PySem.W.keepIn K (.ref f12) = true)
    (a13 : PySem.W.nsIn K mainGlobals "_law_put" = some (some (.ref f13))) (l13 : K.lookup f13 = some ⟨oc13, od13, .func (PySem.W.fnOf "_law_put" "_law_put" (defArgs s__law_put) (defBody s__law_put) (defScope s__law_put) .none kV13 dc13 pm13 an13 cd13 ct13), sl13⟩) (c13 : PySem.W.codeIn K cd13 "_law_put" = true) (k13 : PySem.W.keepIn K (.ref f13) = true)
    (a14 : PySem.W.nsIn K mainGlobals "_law_backed" = some (some (.ref f14))) (l14 : K.lookup f14 = some ⟨oc14, od14, .func (PySem.W.fnOf "_law_backed" "_law_backed" (defArgs s__law_backed) (defBody s__law_backed) (defScope s__law_backed) .none kV14 dc14 pm14 an14 cd14 ct14), sl14⟩) (c14 : PySem.W.codeIn K cd14 "_law_backed" = true) (k14 : PySem.W.keepIn K (.ref f14) = true)
    (a15 : PySem.W.nsIn K mainGlobals "_law_deed" = some (some (.ref f15))) (l15 : K.lookup f15 = some ⟨oc15, od15, .func (PySem.W.fnOf "_law_deed" "_law_deed" (defArgs s__law_deed) (defBody s__law_deed) (defScope s__law_deed) .none kV15 dc15 pm15 an15 cd15 ct15), sl15⟩) (c15 : PySem.W.codeIn K cd15 "_law_deed" = true) (k15 : PySem.W.keepIn K (.ref f15) = true)
    (a16 : PySem.W.nsIn K mainGlobals "_law_seat" = some (some (.ref f16))) (l16 : K.lookup f16 = some ⟨oc16, od16, .func (PySem.W.fnOf "_law_seat" "_law_seat" (defArgs s__law_seat) (defBody s__law_seat) (defScope s__law_seat) .none kV16 dc16 pm16 an16 cd16 ct16), sl16⟩) (c16 : PySem.W.codeIn K cd16 "_law_seat" = true) (k16 : PySem.W.keepIn K (.ref f16) = true)
    (a17 : PySem.W.nsIn K mainGlobals "law" = some (some (.ref f17))) (l17 : K.lookup f17 = some ⟨oc17, od17, .func (PySem.W.fnOf "law" "law" (defArgs s_law) (defBody s_law) (defScope s_law) .none kV17 dc17 pm17 an17 cd17 ct17), sl17⟩) (c17 : PySem.W.codeIn K cd17 "law" = true) (k17 : PySem.W.keepIn K (.ref f17) = true)
    {C : Addr}
    {fM0 : Addr} {odM0 anM0 : Option Addr} {slM0 : Array (Option Value)} {ocM0 kVM0 dcM0 pmM0 cdM0 ctM0 : Value}
    {fM1 : Addr} {odM1 anM1 : Option Addr} {slM1 : Array (Option Value)} {ocM1 kVM1 dcM1 pmM1 cdM1 ctM1 : Value}
    {fM2 : Addr} {odM2 anM2 : Option Addr} {slM2 : Array (Option Value)} {ocM2 kVM2 dcM2 pmM2 cdM2 ctM2 : Value}
    {fM3 : Addr} {odM3 anM3 : Option Addr} {slM3 : Array (Option Value)} {ocM3 kVM3 dcM3 pmM3 cdM3 ctM3 : Value}
    {fM4 : Addr} {odM4 anM4 : Option Addr} {slM4 : Array (Option Value)} {ocM4 kVM4 dcM4 pmM4 cdM4 ctM4 : Value}
    {fM5 : Addr} {odM5 anM5 : Option Addr} {slM5 : Array (Option Value)} {ocM5 kVM5 dcM5 pmM5 cdM5 ctM5 : Value}
    {fM6 : Addr} {odM6 anM6 : Option Addr} {slM6 : Array (Option Value)} {ocM6 kVM6 dcM6 pmM6 cdM6 ctM6 : Value}
    {fM7 : Addr} {odM7 anM7 : Option Addr} {slM7 : Array (Option Value)} {ocM7 kVM7 dcM7 pmM7 cdM7 ctM7 : Value}
    {fM8 : Addr} {odM8 anM8 : Option Addr} {slM8 : Array (Option Value)} {ocM8 kVM8 dcM8 pmM8 cdM8 ctM8 : Value}
    {fM9 : Addr} {odM9 anM9 : Option Addr} {slM9 : Array (Option Value)} {ocM9 kVM9 dcM9 pmM9 cdM9 ctM9 : Value}
    {fM10 : Addr} {odM10 anM10 : Option Addr} {slM10 : Array (Option Value)} {ocM10 kVM10 dcM10 pmM10 cdM10 ctM10 : Value}
    (aC : PySem.W.nsIn K mainGlobals "Trail" = some (some (.ref C)))
    (pgC : PySem.W.plainGet K C Str.empty = true)
    (hdC : PySem.W.hasDictIn K C = true)
    (poC : PySem.W.plainOver K C = true)
    (saC : PySem.W.findIn K (.ref C) "__setattr__" = some (some (.builtin "object.__setattr__")))
    (mkC : PySem.W.makesIn K C = true)
    (kcC : PySem.W.keepIn K (.ref C) = true)
    (nA0 : PySem.W.findIn K (.ref C) "_known" = some none)
    (nA1 : PySem.W.findIn K (.ref C) "_order" = some none)
    (nA2 : PySem.W.findIn K (.ref C) "_state" = some none)
    (nA3 : PySem.W.findIn K (.ref C) "_starts" = some none)
    (nA4 : PySem.W.findIn K (.ref C) "_stamps" = some none)
    (nA5 : PySem.W.findIn K (.ref C) "_made" = some none)
    (aM0 : PySem.W.findIn K (.ref C) "__init__" = some (some (.ref fM0)))
    (iM0 : PySem.W.isFn K (.ref fM0) = true)
    (lM0 : K.lookup fM0 = some ⟨ocM0, odM0, .func (PySem.W.fnOf "__init__" "Trail.__init__" (defArgs s_Trail___init__) (defBody s_Trail___init__) (defScope s_Trail___init__) .none kVM0 dcM0 pmM0 anM0 cdM0 ctM0), slM0⟩)
    (cM0 : PySem.W.codeIn K cdM0 "Trail.__init__" = true)
    (kM0 : PySem.W.keepIn K (.ref fM0) = true)
    (aM1 : PySem.W.findIn K (.ref C) "choose" = some (some (.ref fM1)))
    (iM1 : PySem.W.isFn K (.ref fM1) = true)
    (lM1 : K.lookup fM1 = some ⟨ocM1, odM1, .func (PySem.W.fnOf "choose" "Trail.choose" (defArgs s_Trail_choose) (defBody s_Trail_choose) (defScope s_Trail_choose) .none kVM1 dcM1 pmM1 anM1 cdM1 ctM1), slM1⟩)
    (cM1 : PySem.W.codeIn K cdM1 "Trail.choose" = true)
    (kM1 : PySem.W.keepIn K (.ref fM1) = true)
    (aM2 : PySem.W.findIn K (.ref C) "force" = some (some (.ref fM2)))
    (iM2 : PySem.W.isFn K (.ref fM2) = true)
    (lM2 : K.lookup fM2 = some ⟨ocM2, odM2, .func (PySem.W.fnOf "force" "Trail.force" (defArgs s_Trail_force) (defBody s_Trail_force) (defScope s_Trail_force) .none kVM2 dcM2 pmM2 anM2 cdM2 ctM2), slM2⟩)
    (cM2 : PySem.W.codeIn K cdM2 "Trail.force" = true)
    (kM2 : PySem.W.keepIn K (.ref fM2) = true)
    (aM3 : PySem.W.findIn K (.ref C) "back" = some (some (.ref fM3)))
    (iM3 : PySem.W.isFn K (.ref fM3) = true)
    (lM3 : K.lookup fM3 = some ⟨ocM3, odM3, .func (PySem.W.fnOf "back" "Trail.back" (defArgs s_Trail_back) (defBody s_Trail_back) (defScope s_Trail_back) .none kVM3 dcM3 pmM3 anM3 cdM3 ctM3), slM3⟩)
    (cM3 : PySem.W.codeIn K cdM3 "Trail.back" = true)
    (kM3 : PySem.W.keepIn K (.ref fM3) = true)
    (aM4 : PySem.W.findIn K (.ref C) "level_of" = some (some (.ref fM4)))
    (iM4 : PySem.W.isFn K (.ref fM4) = true)
    (lM4 : K.lookup fM4 = some ⟨ocM4, odM4, .func (PySem.W.fnOf "level_of" "Trail.level_of" (defArgs s_Trail_level_of) (defBody s_Trail_level_of) (defScope s_Trail_level_of) .none kVM4 dcM4 pmM4 anM4 cdM4 ctM4), slM4⟩)
    (cM4 : PySem.W.codeIn K cdM4 "Trail.level_of" = true)
    (kM4 : PySem.W.keepIn K (.ref fM4) = true)
    (aM5 : PySem.W.findIn K (.ref C) "literals" = some (some (.ref fM5)))
    (iM5 : PySem.W.isFn K (.ref fM5) = true)
    (lM5 : K.lookup fM5 = some ⟨ocM5, odM5, .func (PySem.W.fnOf "literals" "Trail.literals" (defArgs s_Trail_literals) (defBody s_Trail_literals) (defScope s_Trail_literals) .none kVM5 dcM5 pmM5 anM5 cdM5 ctM5), slM5⟩)
    (cM5 : PySem.W.codeIn K cdM5 "Trail.literals" = true)
    (kM5 : PySem.W.keepIn K (.ref fM5) = true)
    (aM6 : PySem.W.findIn K (.ref C) "sizes" = some (some (.ref fM6)))
    (iM6 : PySem.W.isFn K (.ref fM6) = true)
    (lM6 : K.lookup fM6 = some ⟨ocM6, odM6, .func (PySem.W.fnOf "sizes" "Trail.sizes" (defArgs s_Trail_sizes) (defBody s_Trail_sizes) (defScope s_Trail_sizes) .none kVM6 dcM6 pmM6 anM6 cdM6 ctM6), slM6⟩)
    (cM6 : PySem.W.codeIn K cdM6 "Trail.sizes" = true)
    (kM6 : PySem.W.keepIn K (.ref fM6) = true)
    (aM7 : PySem.W.findIn K (.ref C) "depth" = some (some (.ref fM7)))
    (iM7 : PySem.W.isFn K (.ref fM7) = true)
    (lM7 : K.lookup fM7 = some ⟨ocM7, odM7, .func (PySem.W.fnOf "depth" "Trail.depth" (defArgs s_Trail_depth) (defBody s_Trail_depth) (defScope s_Trail_depth) .none kVM7 dcM7 pmM7 anM7 cdM7 ctM7), slM7⟩)
    (cM7 : PySem.W.codeIn K cdM7 "Trail.depth" = true)
    (kM7 : PySem.W.keepIn K (.ref fM7) = true)
    (aM8 : PySem.W.findIn K (.ref C) "_row_of" = some (some (.ref fM8)))
    (iM8 : PySem.W.isFn K (.ref fM8) = true)
    (lM8 : K.lookup fM8 = some ⟨ocM8, odM8, .func (PySem.W.fnOf "_row_of" "Trail._row_of" (defArgs s_Trail__row_of) (defBody s_Trail__row_of) (defScope s_Trail__row_of) .none kVM8 dcM8 pmM8 anM8 cdM8 ctM8), slM8⟩)
    (cM8 : PySem.W.codeIn K cdM8 "Trail._row_of" = true)
    (kM8 : PySem.W.keepIn K (.ref fM8) = true)
    (aM9 : PySem.W.findIn K (.ref C) "_require_open" = some (some (.ref fM9)))
    (iM9 : PySem.W.isFn K (.ref fM9) = true)
    (lM9 : K.lookup fM9 = some ⟨ocM9, odM9, .func (PySem.W.fnOf "_require_open" "Trail._require_open" (defArgs s_Trail__require_open) (defBody s_Trail__require_open) (defScope s_Trail__require_open) .none kVM9 dcM9 pmM9 anM9 cdM9 ctM9), slM9⟩)
    (cM9 : PySem.W.codeIn K cdM9 "Trail._require_open" = true)
    (kM9 : PySem.W.keepIn K (.ref fM9) = true)
    (aM10 : PySem.W.findIn K (.ref C) "_put_on" = some (some (.ref fM10)))
    (iM10 : PySem.W.isFn K (.ref fM10) = true)
    (lM10 : K.lookup fM10 = some ⟨ocM10, odM10, .func (PySem.W.fnOf "_put_on" "Trail._put_on" (defArgs s_Trail__put_on) (defBody s_Trail__put_on) (defScope s_Trail__put_on) .none kVM10 dcM10 pmM10 anM10 cdM10 ctM10), slM10⟩)
    (cM10 : PySem.W.codeIn K cdM10 "Trail._put_on" = true)
    (kM10 : PySem.W.keepIn K (.ref fM10) = true)
    (z0 : PySem.W.nsIn K mainGlobals "len" = some none)
    (z1 : PySem.W.nsIn K mainGlobals "int" = some none)
    (z2 : PySem.W.nsIn K mainGlobals "isinstance" = some none)
    (z3 : PySem.W.nsIn K mainGlobals "bool" = some none)
    (z4 : PySem.W.nsIn K mainGlobals "list" = some none)
    (z5 : PySem.W.nsIn K mainGlobals "tuple" = some none)
    (z6 : PySem.W.nsIn K mainGlobals "str" = some none)
    (z7 : PySem.W.nsIn K mainGlobals "range" = some none)
    (z8 : PySem.W.nsIn K mainGlobals "sorted" = some none)
    (z9 : PySem.W.nsIn K mainGlobals "abs" = some none)
    : ∃ fd : FuncData, (∀ (s : Shared) (v : Value), BindsTo s fd ⟨[v], []⟩ [("script", v)]) ∧ ∀ base : Heap, K.In base → base.Ns mainGlobals mg → FnOk l.prog w K mg base CX0 7 fa fd ["script"] (spLaw K) := by
  have e := hfa.symm.trans (PySem.W.mg_of X G a17)
  cases e
  have D__law_pool : Df K mg "_law_pool" s__law_pool P__law_pool := Df.mk' l0 c0 k0 (fun F => F.binds fun _ _ _ _ _ _ us hl => match us, hl with | [_, _], _ => rfl) (PySem.W.mg_of X G a0)
  have D__law_take : Df K mg "_law_take" s__law_take P__law_take := Df.mk' l1 c1 k1 (fun F => F.binds fun _ _ _ _ _ _ us hl => match us, hl with | [_, _], _ => rfl) (PySem.W.mg_of X G a1)
  have D__law_turn : Df K mg "_law_turn" s__law_turn P__law_turn := Df.mk' l2 c2 k2 (fun F => F.binds fun _ _ _ _ _ _ us hl => match us, hl with | [_, _, _], _ => rfl) (PySem.W.mg_of X G a2)
  have D__law_pick : Df K mg "_law_pick" s__law_pick P__law_pick := Df.mk' l3 c3 k3 (fun F => F.binds fun _ _ _ _ _ _ us hl => match us, hl with | [_, _], _ => rfl) (PySem.W.mg_of X G a3)
  have D__law_mixed : Df K mg "_law_mixed" s__law_mixed P__law_mixed := Df.mk' l4 c4 k4 (fun F => F.binds fun _ _ _ _ _ _ us hl => match us, hl with | [_, _], _ => rfl) (PySem.W.mg_of X G a4)
  have D__law_whole : Df K mg "_law_whole" s__law_whole P__law_whole := Df.mk' l5 c5 k5 (fun F => F.binds fun _ _ _ _ _ _ us hl => match us, hl with | [_], _ => rfl) (PySem.W.mg_of X G a5)
  have D__law_alike : Df K mg "_law_alike" s__law_alike P__law_alike := Df.mk' l6 c6 k6 (fun F => F.binds fun _ _ _ _ _ _ us hl => match us, hl with | [_, _], _ => rfl) (PySem.W.mg_of X G a6)
  have D__law_nodes : Df K mg "_law_nodes" s__law_nodes P__law_nodes := Df.mk' l7 c7 k7 (fun F => F.binds fun _ _ _ _ _ _ us hl => match us, hl with | [_], _ => rfl) (PySem.W.mg_of X G a7)
  have D__law_number : Df K mg "_law_number" s__law_number P__law_number := Df.mk' l8 c8 k8 (fun F => F.binds fun _ _ _ _ _ _ us hl => match us, hl with | [_, _], _ => rfl) (PySem.W.mg_of X G a8)
  have D__law_bound : Df K mg "_law_bound" s__law_bound P__law_bound := Df.mk' l9 c9 k9 (fun F => F.binds fun _ _ _ _ _ _ us hl => match us, hl with | [_], _ => rfl) (PySem.W.mg_of X G a9)
  have D__law_sizes : Df K mg "_law_sizes" s__law_sizes P__law_sizes := Df.mk' l10 c10 k10 (fun F => F.binds fun _ _ _ _ _ _ us hl => match us, hl with | [_], _ => rfl) (PySem.W.mg_of X G a10)
  have D__law_told : Df K mg "_law_told" s__law_told P__law_told := Df.mk' l11 c11 k11 (fun F => F.binds fun _ _ _ _ _ _ us hl => match us, hl with | [_], _ => rfl) (PySem.W.mg_of X G a11)
  have D__law_free : Df K mg "_law_free" s__law_free P__law_free := Df.mk' l12 c12 k12 (fun F => F.binds fun _ _ _ _ _ _ us hl => match us, hl with | [_], _ => rfl) (PySem.W.mg_of X G a12)
  have D__law_put : Df K mg "_law_put" s__law_put P__law_put := Df.mk' l13 c13 k13 (fun F => F.binds fun _ _ _ _ _ _ us hl => match us, hl with | [_, _, _], _ => rfl) (PySem.W.mg_of X G a13)
  have D__law_backed : Df K mg "_law_backed" s__law_backed P__law_backed := Df.mk' l14 c14 k14 (fun F => F.binds fun _ _ _ _ _ _ us hl => match us, hl with | [_, _, _], _ => rfl) (PySem.W.mg_of X G a14)
  have D__law_deed : Df K mg "_law_deed" s__law_deed P__law_deed := Df.mk' l15 c15 k15 (fun F => F.binds fun _ _ _ _ _ _ us hl => match us, hl with | [_, _], _ => rfl) (PySem.W.mg_of X G a15)
  have D__law_seat : Df K mg "_law_seat" s__law_seat P__law_seat := Df.mk' l16 c16 k16 (fun F => F.binds fun _ _ _ _ _ _ us hl => match us, hl with | [_, _], _ => rfl) (PySem.W.mg_of X G a16)
  have D_law : Df K mg "law" s_law P_law := Df.mk' l17 c17 k17 (fun F => F.binds fun _ _ _ _ _ _ us hl => match us, hl with | [_], _ => rfl) (PySem.W.mg_of X G a17)
  have b_len : mg "len" = none := PySem.W.mg_none_of X G z0
  have b_int : mg "int" = none := PySem.W.mg_none_of X G z1
  have b_isinstance : mg "isinstance" = none := PySem.W.mg_none_of X G z2
  have b_bool : mg "bool" = none := PySem.W.mg_none_of X G z3
  have b_list : mg "list" = none := PySem.W.mg_none_of X G z4
  have b_tuple : mg "tuple" = none := PySem.W.mg_none_of X G z5
  have b_str : mg "str" = none := PySem.W.mg_none_of X G z6
  have b_range : mg "range" = none := PySem.W.mg_none_of X G z7
  have b_sorted : mg "sorted" = none := PySem.W.mg_none_of X G z8
  have b_abs : mg "abs" = none := PySem.W.mg_none_of X G z9
  have TTrail : TrC K C := ⟨⟨pgC, hdC, poC, saC⟩, nA0, nA1, nA2, nA3, nA4, nA5⟩
  have D_Trail___init__ : DfI K mg C "Trail" "Trail.__init__" s_Trail___init__ P_Trail___init__ := DfI.mk' lM0 cM0 kM0 (fun F => F.binds fun _ _ _ _ _ _ us hl => match us, hl with | [_, _], _ => rfl) aM0 iM0 mkC kcC (PySem.W.mg_of X G aC)
  have D_Trail_choose : DfM K C "choose" "Trail.choose" s_Trail_choose P_Trail_choose := DfM.mk' lM1 cM1 kM1 (fun F => F.binds fun _ _ _ _ _ _ us hl => match us, hl with | [_, _], _ => rfl) aM1 iM1
  have D_Trail_force : DfM K C "force" "Trail.force" s_Trail_force P_Trail_force := DfM.mk' lM2 cM2 kM2 (fun F => F.binds fun _ _ _ _ _ _ us hl => match us, hl with | [_, _, _], _ => rfl) aM2 iM2
  have D_Trail_back : DfM K C "back" "Trail.back" s_Trail_back P_Trail_back := DfM.mk' lM3 cM3 kM3 (fun F => F.binds fun _ _ _ _ _ _ us hl => match us, hl with | [_, _], _ => rfl) aM3 iM3
  have D_Trail_level_of : DfM K C "level_of" "Trail.level_of" s_Trail_level_of P_Trail_level_of := DfM.mk' lM4 cM4 kM4 (fun F => F.binds fun _ _ _ _ _ _ us hl => match us, hl with | [_, _], _ => rfl) aM4 iM4
  have D_Trail_literals : DfM K C "literals" "Trail.literals" s_Trail_literals P_Trail_literals := DfM.mk' lM5 cM5 kM5 (fun F => F.binds fun _ _ _ _ _ _ us hl => match us, hl with | [_], _ => rfl) aM5 iM5
  have D_Trail_sizes : DfM K C "sizes" "Trail.sizes" s_Trail_sizes P_Trail_sizes := DfM.mk' lM6 cM6 kM6 (fun F => F.binds fun _ _ _ _ _ _ us hl => match us, hl with | [_], _ => rfl) aM6 iM6
  have D_Trail_depth : DfM K C "depth" "Trail.depth" s_Trail_depth P_Trail_depth := DfM.mk' lM7 cM7 kM7 (fun F => F.binds fun _ _ _ _ _ _ us hl => match us, hl with | [_], _ => rfl) aM7 iM7
  have D_Trail__row_of : DfM K C "_row_of" "Trail._row_of" s_Trail__row_of P_Trail__row_of := DfM.mk' lM8 cM8 kM8 (fun F => F.binds fun _ _ _ _ _ _ us hl => match us, hl with | [_, _], _ => rfl) aM8 iM8
  have D_Trail__require_open : DfM K C "_require_open" "Trail._require_open" s_Trail__require_open P_Trail__require_open := DfM.mk' lM9 cM9 kM9 (fun F => F.binds fun _ _ _ _ _ _ us hl => match us, hl with | [_, _], _ => rfl) aM9 iM9
  have D_Trail__put_on : DfM K C "_put_on" "Trail._put_on" s_Trail__put_on P_Trail__put_on := DfM.mk' lM10 cM10 kM10 (fun F => F.binds fun _ _ _ _ _ _ us hl => match us, hl with | [_, _, _], _ => rfl) aM10 iM10
  refine ⟨PySem.W.fnOf "law" "law" (defArgs s_law) (defBody s_law) (defScope s_law) .none kV17 dc17 pm17 an17 cd17 ct17, fun s v => .of_eq rfl, fun base _ _ => ?_⟩
  have p__law_pool : Pr l.prog w K mg base "_law_pool" 1 P__law_pool (spPool K) := by apply ok_pool <;> assumption
  have p__law_take : Pr l.prog w K mg base "_law_take" 1 P__law_take (spTake K) := by apply ok_take <;> assumption
  have p__law_turn : Pr l.prog w K mg base "_law_turn" 2 P__law_turn (spTurn K) := by apply ok_turn <;> assumption
  have p__law_pick : Pr l.prog w K mg base "_law_pick" 2 P__law_pick (spPick K) := by apply ok_pick <;> assumption
  have p__law_whole : Pr l.prog w K mg base "_law_whole" 1 P__law_whole (spWhole K) := by apply ok_whole <;> assumption
  have p__law_alike : Pr l.prog w K mg base "_law_alike" 3 P__law_alike (spAlike 1) := by refine ok_alike ?_ ?_ ?_ ?_ ?_ ?_ ?_ ?_ ?_ ?_ 1 <;> assumption
  have p__law_mixed : Pr l.prog w K mg base "_law_mixed" 2 P__law_mixed (spMixed K) := by apply ok_mixed <;> assumption
  have p_Trail__put_on : PrM l.prog w K mg base C "_put_on" 1 P_Trail__put_on (spPut C) := by apply ok_put_on <;> assumption
  have p_Trail__row_of : PrM l.prog w K mg base C "_row_of" 1 P_Trail__row_of (spRow C) := by apply ok_row_of <;> assumption
  have p_Trail__require_open : PrM l.prog w K mg base C "_require_open" 2 P_Trail__require_open (spReq C) := by apply ok_require <;> assumption
  have p_Trail_choose : PrM l.prog w K mg base C "choose" 3 P_Trail_choose (spCho C) := by apply ok_choose <;> assumption
  have p_Trail_force : PrM l.prog w K mg base C "force" 3 P_Trail_force (spFor C) := by apply ok_force <;> assumption
  have p_Trail_level_of : PrM l.prog w K mg base C "level_of" 2 P_Trail_level_of (spLev C) := by apply ok_level_of <;> assumption
  have p_Trail_literals : PrM l.prog w K mg base C "literals" 1 P_Trail_literals (spLit C) := by apply ok_literals <;> assumption
  have p_Trail_depth : PrM l.prog w K mg base C "depth" 1 P_Trail_depth (spDep C) := by apply ok_depth <;> assumption
  have p_Trail_sizes : PrM l.prog w K mg base C "sizes" 1 P_Trail_sizes (spSiz C) := by apply ok_sizes <;> assumption
  have p_Trail_back : PrM l.prog w K mg base C "back" 1 P_Trail_back (spBack C) := by apply ok_back <;> assumption
  have p_Trail : PrI l.prog w K mg base C "Trail" 1 P_Trail___init__ (spInit C) := by apply ok_init <;> assumption
  have p__law_nodes : Pr l.prog w K mg base "_law_nodes" 3 P__law_nodes (spNod8 K) := by apply ok_nodes8 <;> assumption
  have p__law_number : Pr l.prog w K mg base "_law_number" 1 P__law_number (spNum K) := by apply ok_number <;> assumption
  have p__law_bound : Pr l.prog w K mg base "_law_bound" 1 P__law_bound spBnd := by apply ok_bound <;> assumption
  have p__law_sizes : Pr l.prog w K mg base "_law_sizes" 1 P__law_sizes (spSzs C) := by apply ok_sizes8 <;> assumption
  have p__law_free : Pr l.prog w K mg base "_law_free" 1 P__law_free (spFre C) := by apply ok_free8 <;> assumption
  have p__law_told : Pr l.prog w K mg base "_law_told" 4 P__law_told (spTol C) := by apply ok_told8 <;> assumption
  have p__law_put : Pr l.prog w K mg base "_law_put" 4 P__law_put (spPut8 C) := by apply ok_put8 <;> assumption
  have p__law_backed : Pr l.prog w K mg base "_law_backed" 5 P__law_backed (spBkd C) := by apply ok_backed8 <;> assumption
  have p__law_deed : Pr l.prog w K mg base "_law_deed" 6 P__law_deed (spDee C) := by apply ok_deed <;> assumption
  have p__law_seat : Pr l.prog w K mg base "_law_seat" 5 P__law_seat (spSea C) := by apply ok_seat <;> assumption
  have p_law : Pr l.prog w K mg base "law" 7 P_law (spLaw K) := by apply ok_law <;> assumption
  exact p_law.at (PySem.W.mg_of X G a17) l17
end Kf
open PySem PySem.W PyProof.Rows
set_option maxRecDepth 100000 in
set_option maxHeartbeats 0 in
theorem PySem.Challenge.cw_solvedpapers_k08_number_of_the_trail_holds : PySem.Challenge.rw_solvedpapers_k08_number_of_the_trail.Holds := by
  w_on; o_law; k_head; (case hw => w_witness2)
  k_fill
  refine L2.walk_of (l := PySem.Challenge.rw_solvedpapers_k08_number_of_the_trail) (n := 63) (k := 7) (x := "script") (CX := fun _ => L2.CX0) (sp := fun w => Kf.spLaw _) rfl (by decide) rfl ⟨rfl, by decide, by decide⟩ (fun w h Y => PySem.W.kIn_of Y) ?F (fun _ _ a ns hl _ hS => ⟨a, ns, rfl, hS, hl, fun _ => rfl⟩) (fun _ _ _ _ _ h => h)
  case F =>
    intro w mg fa h KX G hmg
    refine' Kf.all_mk KX G hmg ?a0 ?l0 ?c0 ?k0 ?a1 ?l1 ?c1 ?k1 ?a2 ?l2 ?c2 ?k2 ?a3 ?l3 ?c3 ?k3 ?a4 ?l4 ?c4 ?k4 ?a5 ?l5 ?c5 ?k5 ?a6 ?l6 ?c6 ?k6 ?a7 ?l7 ?c7 ?k7 ?a8 ?l8 ?c8 ?k8 ?a9 ?l9 ?c9 ?k9 ?a10 ?l10 ?c10 ?k10 ?a11 ?l11 ?c11 ?k11 ?a12 ?l12 ?c12 ?k12 ?a13 ?l13 ?c13 ?k13 ?a14 ?l14 ?c14 ?k14 ?a15 ?l15 ?c15 ?k15 ?a16 ?l16 ?c16 ?k16 ?a17 ?l17 ?c17 ?k17 ?aC ?pgC ?hdC ?poC ?saC ?mkC ?kcC ?nA0 ?nA1 ?nA2 ?nA3 ?nA4 ?nA5 ?aM0 ?iM0 ?lM0 ?cM0 ?kM0 ?aM1 ?iM1 ?lM1 ?cM1 ?kM1 ?aM2 ?iM2 ?lM2 ?cM2 ?kM2 ?aM3 ?iM3 ?lM3 ?cM3 ?kM3 ?aM4 ?iM4 ?lM4 ?cM4 ?kM4 ?aM5 ?iM5 ?lM5 ?cM5 ?kM5 ?aM6 ?iM6 ?lM6 ?cM6 ?kM6 ?aM7 ?iM7 ?lM7 ?cM7 ?kM7 ?aM8 ?iM8 ?lM8 ?cM8 ?kM8 ?aM9 ?iM9 ?lM9 ?cM9 ?kM9 ?aM10 ?iM10 ?lM10 ?cM10 ?kM10 ?z0 ?z1 ?z2 ?z3 ?z4 ?z5 ?z6 ?z7 ?z8 ?z9
    case a0 => k_is
    case l0 => k_is
    case c0 => k_is
    case k0 => k_is
    case a1 => k_is
    case l1 => k_is
    case c1 => k_is
    case k1 => k_is
    case a2 => k_is
    case l2 => k_is
    case c2 => k_is
    case k2 => k_is
    case a3 => k_is
    case l3 => k_is
    case c3 => k_is
    case k3 => k_is
    case a4 => k_is
    case l4 => k_is
    case c4 => k_is
    case k4 => k_is
    case a5 => k_is
    case l5 => k_is
    case c5 => k_is
    case k5 => k_is
    case a6 => k_is
    case l6 => k_is
    case c6 => k_is
    case k6 => k_is
    case a7 => k_is
    case l7 => k_is
    case c7 => k_is
    case k7 => k_is
    case a8 => k_is
    case l8 => k_is
    case c8 => k_is
    case k8 => k_is
    case a9 => k_is
    case l9 => k_is
    case c9 => k_is
    case k9 => k_is
    case a10 => k_is
    case l10 => k_is
    case c10 => k_is
    case k10 => k_is
    case a11 => k_is
    case l11 => k_is
    case c11 => k_is
    case k11 => k_is
    case a12 => k_is
    case l12 => k_is
    case c12 => k_is
    case k12 => k_is
    case a13 => k_is
    case l13 => k_is
    case c13 => k_is
    case k13 => k_is
    case a14 => k_is
    case l14 => k_is
    case c14 => k_is
    case k14 => k_is
    case a15 => k_is
    case l15 => k_is
    case c15 => k_is
    case k15 => k_is
    case a16 => k_is
    case l16 => k_is
    case c16 => k_is
    case k16 => k_is
    case a17 => k_is
    case l17 => k_is
    case c17 => k_is
    case k17 => k_is
    case aC => k_is
    case pgC => k_is
    case hdC => k_is
    case poC => k_is
    case saC => k_is
    case mkC => k_is
    case kcC => k_is
    case nA0 => k_is
    case nA1 => k_is
    case nA2 => k_is
    case nA3 => k_is
    case nA4 => k_is
    case nA5 => k_is
    case aM0 => k_is
    case iM0 => k_is
    case lM0 => k_is
    case cM0 => k_is
    case kM0 => k_is
    case aM1 => k_is
    case iM1 => k_is
    case lM1 => k_is
    case cM1 => k_is
    case kM1 => k_is
    case aM2 => k_is
    case iM2 => k_is
    case lM2 => k_is
    case cM2 => k_is
    case kM2 => k_is
    case aM3 => k_is
    case iM3 => k_is
    case lM3 => k_is
    case cM3 => k_is
    case kM3 => k_is
    case aM4 => k_is
    case iM4 => k_is
    case lM4 => k_is
    case cM4 => k_is
    case kM4 => k_is
    case aM5 => k_is
    case iM5 => k_is
    case lM5 => k_is
    case cM5 => k_is
    case kM5 => k_is
    case aM6 => k_is
    case iM6 => k_is
    case lM6 => k_is
    case cM6 => k_is
    case kM6 => k_is
    case aM7 => k_is
    case iM7 => k_is
    case lM7 => k_is
    case cM7 => k_is
    case kM7 => k_is
    case aM8 => k_is
    case iM8 => k_is
    case lM8 => k_is
    case cM8 => k_is
    case kM8 => k_is
    case aM9 => k_is
    case iM9 => k_is
    case lM9 => k_is
    case cM9 => k_is
    case kM9 => k_is
    case aM10 => k_is
    case iM10 => k_is
    case lM10 => k_is
    case cM10 => k_is
    case kM10 => k_is
    case z0 => k_is
    case z1 => k_is
    case z2 => k_is
    case z3 => k_is
    case z4 => k_is
    case z5 => k_is
    case z6 => k_is
    case z7 => k_is
    case z8 => k_is
    case z9 => k_is
#print axioms PySem.Challenge.cw_solvedpapers_k08_number_of_the_trail_holds


end