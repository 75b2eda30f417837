import PyProof.Rows.All
import Wide.All
import OpenK.AllK
import Wide.FinOn
import HandS.ForMost
import HandS.Sort
import HandS.SortInts
import HandS.More
import HandS.Flow
import HandS.Deep
import HandS.Codes
import HandS.IsInst
import HandS.Rev
import HandS.RevTup
import HandS.Gcd
import HandS.Wide
import HandS.WideBits
import KE.KDictList
import KE.KRevIter
import HandS.Defaults
import HandS.TryOnly
import HandS.ExcOwn
import HandS.ExcIs
import HandS.WordsExc
import PyProof.Rows.ChunkEnd
import PySem.Challenge.RW_solvedpapers_k01_forms_by_roads
section
set_option Elab.async false
set_option linter.all false
set_option maxRecDepth 100000
set_option maxHeartbeats 4000000
namespace Kf
open PySem PySem.Spec PyProof.Rows L2
/-! ### a def of the module's top, its promise -/
structure Df (K : PySem.W.Frag) (mg : Str → Option Value) (x : Str) (st : Stmt) (ps : List Str) : Prop where
  ex : ∃ f fd, Fun K x x st f fd ∧ Binds K fd ps [] ∧ mg x = some (.ref f)
structure Pr (P : Program) (w : World) (K : PySem.W.Frag) (mg : Str → Option Value) (base : Heap) (x : Str) (k : Nat) (ps : List Str) (sp : Sp) : Prop where
  ex : ∃ f fd, FnOk P w K mg base CX0 k f fd ps sp ∧ Binds K fd ps [] ∧ PySem.W.keepIn K (.ref f) = true ∧ mg x = some (.ref f) ∧ ∃ oc od osl, K.lookup f = some ⟨oc, od, .func fd, osl⟩
section
variable {P : Program} {w : World} {K : PySem.W.Frag} {mg : Str → Option Value} {base : Heap} {x : Str} {st : Stmt} {ps N : List Str} {k j : Nat} {sp sp' : Sp}
theorem Df.ok (D : Df K mg x st ps) (S : FnScope N ps (defScope st)) (len : ∀ vs H Q E, sp vs H Q E → vs.length = ps.length)
    (hbody : ∀ (f : Addr) (cdv : Value) (A : Around) (outer : List Env) (s : Shared) (H : Hp) (vs : List V) (Q : VK) (E : XK), Room k (A.deeper (envOfC x (defScope st) s.heap.objs.size f cdv)) → sp vs H Q E →
      ∃ t, PSs (cxOf CX0 P w K mg base N x (defScope st) f cdv A outer s H E).nox (defBody st) t ∧ t { nx := fun _ H' => Q .non H', rt := Q } (start N vs) H) : Pr P w K mg base x (k + 1) ps sp := by
  obtain ⟨f, fd, F, b, g⟩ := D.ex
  obtain ⟨oc, od, kV, doc, pm, an, cdv, ct, osl, e, lk, hcd⟩ := F.ex
  exact ⟨f, fd, F.ok S len (hbody f), b, F.kp, g, oc, od, osl, lk⟩
theorem Pr.at {f : Addr} {fd : FuncData} {oc : Value} {od : Option Addr} {osl : Array (Option Value)} (p : Pr P w K mg base x k ps sp) (g : mg x = some (.ref f)) (l : K.lookup f = some ⟨oc, od, .func fd, osl⟩) : FnOk P w K mg base CX0 k f fd ps sp := by
  obtain ⟨f', fd', F, _, _, g', oc', od', osl', l'⟩ := p.ex
  rw [g] at g'
  cases g'
  rw [l] at l'
  cases l'
  exact F
theorem Df.mk' {f : Addr} {oc : Value} {od an : Option Addr} {osl : Array (Option Value)} {kV doc pm cdv ct : Value} (l : K.lookup f = some ⟨oc, od, .func (PySem.W.fnOf x x (defArgs st) (defBody st) (defScope st) .none kV doc pm an cdv ct), osl⟩)
    (c : PySem.W.codeIn K cdv x = true) (k : PySem.W.keepIn K (.ref f) = true) (b : ∀ F : Fun K x x st f (PySem.W.fnOf x x (defArgs st) (defBody st) (defScope st) .none kV doc pm an cdv ct), Binds K (PySem.W.fnOf x x (defArgs st) (defBody st) (defScope st) .none kV doc pm an cdv ct) ps [])
    (g : mg x = some (.ref f)) : Df K mg x st ps := ⟨f, _, fun_mk l c k, b (fun_mk l c k), g⟩
theorem Pr.mono (p : Pr P w K mg base x k ps sp) (h : k ≤ j) : Pr P w K mg base x j ps sp := by
  obtain ⟨f, fd, F, r⟩ := p.ex
  exact ⟨f, fd, F.mono h, r⟩
theorem Pr.imp (p : Pr P w K mg base x k ps sp) (h : ∀ vs H Q E, sp' vs H Q E → sp vs H Q E) : Pr P w K mg base x k ps sp' := by
  obtain ⟨f, fd, F, r⟩ := p.ex
  exact ⟨f, fd, F.imp h, r⟩
end
/-! ### calls -/
section
variable {X : Cx} {x : Str} {k j : Nat} {ps : List Str} {sp : Sp} {e : Expr} {es : List Expr} {t : TA} {p pos : Pos}
theorem pe_callP (pr : Pr X.prog X.w X.K X.mg X.base x k ps sp) (hr : Room j X.A) (ha : PA X (e :: es) t) (hk : k ≤ j := by decide) (hg : Gl X x := by rfl) (hd : (x == ("__debug__" : Str)) = false := by decide)
    (he : starEach (e :: es) X.env = (false, eval e X.env) :: starEach es X.env := by rfl) (hpl : (backTo pos (starEach es X.env)).any (·.1) = false := by rfl) : PE X (.Call (.Name x p) (e :: es) [] pos) (tCall sp [] E0 t) := by
  obtain ⟨f, fd, F, b, kp, g, _⟩ := pr.ex
  exact pe_call F (hr.mono hk) hg g kp b .nil pass0 ha hd he hpl
end
/-! ### the rules with the written part by its name -/
section
variable {X : Cx} {K : PySem.W.Frag}
theorem ix_listK (e : X.K = K) : IxR X (rIxL K) := by subst e; exact ix_list
theorem ix_tupK (e : X.K = K) : IxR X (rIxT K) := by subst e; exact ix_tup
theorem ix_seqK (e : X.K = K) : IxR X (rIx K) := by subst e; exact ix_seq
theorem sl_listK (e : X.K = K) : SlR X (rSlL K) := by subst e; exact sl_list
theorem sl_tupK (e : X.K = K) : SlR X (rSlT K) := by subst e; exact sl_tup
theorem call_lenK (e : X.K = K) : CallR X (.builtin "len") (fun xs H Q => ∃ x n, xs = [x] ∧ LenV K x H n ∧ Q (.int (n : Nat)) H) := by subst e; exact call_len
theorem op_in_seqK (e : X.K = K) : OpR X (compareOp .In) (rIn K false) := by subst e; exact op_in_seq
theorem op_notIn_seqK (e : X.K = K) : OpR X (compareOp .NotIn) (rIn K true) := by subst e; exact op_notIn_seq
theorem op_inDK (e : X.K = K) (hu : X.A.units + 65 < cLine) : OpR X (compareOp .In) (rInD K) := by subst e; exact op_inD hu
theorem op_notInDK (e : X.K = K) (hu : X.A.units + 65 < cLine) : OpR X (compareOp .NotIn) (rNotInD K) := by subst e; exact op_notInD hu
theorem op_eqDK (e : X.K = K) (hu : X.A.units + 64 < cLine) : OpR X (compareOp .Eq) (rEqD K) := by subst e; exact op_eqD hu
theorem op_neDK (e : X.K = K) (hu : X.A.units + 64 < cLine) : OpR X (compareOp .NotEq) (rNeD K) := by subst e; exact op_neD hu
theorem op_catTK (e : X.K = K) : OpR X (binaryOp .Add) (rCatT K) := by subst e; exact op_catT
theorem call_isiK1 (e : X.K = K) : CallR X (.builtin "isinstance") (rIsi K) := by subst e; exact call_isi
theorem cr_sortedPK (e : X.K = K) : CallR X (.builtin "sorted") (rSortedP K) := by subst e; exact cr_sortedP
theorem cr_sortedIK (e : X.K = K) : CallR X (.builtin "sorted") (rSortedI K) := by subst e; exact cr_sortedI
theorem call_list_ofK (e : X.K = K) : CallR X (.type "list") (fun xs H Q => ∃ p ys, xs = [.ref p] ∧ (SqL K H p ys ∨ SqT K H p ys) ∧ ∀ l, H l = none → Q (.ref l) (upd H l (.lst ys))) := by subst e; exact call_list_of
theorem call_tuple_ofK (e : X.K = K) : CallR X (.type "tuple") (fun xs H Q => ∃ p ys, xs = [.ref p] ∧ ((SqL K H p ys ∧ ∀ l, H l = none → Q (.ref l) (upd H l (.tup ys))) ∨ (SqT K H p ys ∧ Q (.ref p) H))) := by subst e; exact call_tuple_of
theorem pi_listK {tg l : Expr} {tl : TE} (e : X.K = K) (hl : PE X l tl) : PI X tg l (iList K tl) := by subst e; exact pi_list hl
theorem pi_tupK {tg l : Expr} {tl : TE} (e : X.K = K) (hl : PE X l tl) : PI X tg l (iTup K tl) := by subst e; exact pi_tup hl
/-- a list or a tuple is walked -/
def iSeq (K : PySem.W.Frag) (tl : TE) : TI := fun σ H R => tl σ H fun x H1 => ∃ a, x = .ref a ∧ (((∃ xs, SqL K H1 a xs) ∧ R (Itl K a) H1) ∨ ((∃ xs, SqT K H1 a xs) ∧ R (Itt K a) H1))
theorem pi_seqK {tg l : Expr} {tl : TE} (e : X.K = K) (hl : PE X l tl) : PI X tg l (iSeq K tl) := by
  subst e
  refine ⟨fun pins s σ H R I h => ?_⟩
  refine thn (hl.run pins s σ H _ I h) fun v s1 ⟨x, H1, I1, r1, q1⟩ => ?_
  obtain ⟨a, e, q⟩ := q1
  subst e
  cases r1
  rcases q with ⟨⟨xs, hq⟩, q⟩ | ⟨⟨xs, hq⟩, q⟩
  · obtain ⟨its, rv, p, hz⟩ := I1.list hq
    refine wpAny_pyIter_list p.isList ?_
    refine ⟨s1.heap.objs.size, [s1.heap.objs.size], _, _, H1, rfl, I1.kept (t' := s1.toks) fun b o e => Heap.get?_push_of_some _ e, turn_list a _, ⟨_, Heap.get?_push_size _ rfl, rfl, rfl⟩, fun b hb => ?_, q⟩
    have e : b = s1.heap.objs.size := by simpa using hb
    subst e
    exact I1.fpOk (Nat.le_refl _) (I1.hok.fresh (Nat.le_refl _))
  · obtain ⟨its, rv, p, hz⟩ := I1.tuple hq
    refine wpAny_pyIter_tuple (show s1.heap.IsTuple a its.toArray from p) ?_
    refine ⟨s1.heap.objs.size, [s1.heap.objs.size], _, _, H1, rfl, I1.kept (t' := s1.toks) fun b o e => Heap.get?_push_of_some _ e, turn_tuple a _, ⟨_, Heap.get?_push_size _ rfl, rfl, rfl⟩, fun b hb => ?_, q⟩
    have e : b = s1.heap.objs.size := by simpa using hb
    subst e
    exact I1.fpOk (Nat.le_refl _) (I1.hok.fresh (Nat.le_refl _))
theorem pe_bmK {o e : Expr} {es : List Expr} {name : Str} {id T : String} {r : V → List V → Hp → VK → Prop} {to : TE} {t : TA} {apos cpos : Pos} (ek : X.K = K) (pa : PlainAttrs T) (slot : Slot T name id) (hty : typeOf (.builtin id) = pure (.type "method_descriptor")) (hm : MtR X id r) (ho : PE X o to) (ha : PA X (e :: es) t)
    (hbase : attributeBase o name X.env (eval o X.env) = eval o X.env := by rfl)
    (hfew : ((backTo cpos (starEach (e :: es) X.env)).all (fun x => !x.1) && (backToKw cpos (keywordEach [] X.env)).all (fun x => x.1.isSome)
      && decide ((e :: es).length + ([] : List Keyword).length + (if ([] : List Keyword).isEmpty then 0 else 1) < 30)) = true := by rfl)
    (hline : (apos.endLine == cpos.line) = true := by rfl) (hs : starEach (e :: es) X.env = (false, eval e X.env) :: starEach es X.env := by rfl) (hplain : (backTo cpos (starEach es X.env)).any (·.1) = false := by rfl) :
    PE X (.Call (.Attribute o name apos) (e :: es) [] cpos) (tBM K T r to t) := by subst ek; exact pe_bm pa slot hty hm ho ha hbase hfew hline hs hplain
end
/-! ### heaps -/
theorem upd_old {H : Hp} {a p : Addr} {o u : HO} (n : H p = none) (h : H a = some o) : upd H p u a = some o := by
  rw [upd_ne (ne_of_none h n)]; exact h
theorem upd_oth {H : Hp} {a p : Addr} {o u : HO} (n : a ≠ p) (h : H a = some o) : upd H p u a = some o := by
  rw [upd_ne n]; exact h
theorem Same.new {H : Hp} {p : Addr} {o : HO} (n : H p = none) : Same H (upd H p o) := fun _ _ e => upd_old n e
theorem _root_.L2.Same.at {H H' : Hp} {a : Addr} {o : HO} (e : Same H H') (h : H a = some o) : H' a = some o := e a o h
/-- a pool of numbers: [cell, count, great, spare] -/
def Pl (o : HO) : Prop := ∃ c k b s, o = .lst [.int c, .int k, .bl b, .int s]
/-- all stands as before, but that pools may have been drawn from -/
def Ext (H H' : Hp) : Prop := ∀ b o, H b = some o → (¬ Pl o → H' b = some o) ∧ (Pl o → ∃ o', Pl o' ∧ H' b = some o')
theorem Ext.refl {H : Hp} : Ext H H := fun _ _ e => ⟨fun _ => e, fun h => ⟨_, h, e⟩⟩
theorem Ext.of {H H' : Hp} (s : Same H H') : Ext H H' := fun b o e => ⟨fun _ => s b o e, fun h => ⟨_, h, s b o e⟩⟩
theorem Ext.trans {H H1 H2 : Hp} (a : Ext H H1) (b : Ext H1 H2) : Ext H H2 := fun c o e => by
  by_cases h : Pl o
  · obtain ⟨o', p, e'⟩ := (a c o e).2 h
    obtain ⟨o'', p', e''⟩ := (b c o' e').2 p
    exact ⟨fun n => absurd h n, fun _ => ⟨_, p', e''⟩⟩
  · exact ⟨fun n => (b c o ((a c o e).1 n)).1 n, fun z => absurd z h⟩
theorem Ext.new {H : Hp} {p : Addr} {o : HO} (n : H p = none) : Ext H (upd H p o) := Ext.of (Same.new n)
theorem Ext.pool {H : Hp} {p : Addr} {o o' : HO} (h : H p = some o) (q : Pl o) (q' : Pl o') : Ext H (upd H p o') := fun b u e => by
  by_cases hb : b = p
  · subst hb
    rw [h] at e; cases e
    exact ⟨fun n => absurd q n, fun _ => ⟨_, q', upd_same⟩⟩
  · rw [upd_ne hb]
    exact ⟨fun _ => e, fun z => ⟨_, z, e⟩⟩
theorem Ext.get {H H' : Hp} {b : Addr} {o : HO} (e : Ext H H') (h : H b = some o) (n : ¬ Pl o) : H' b = some o := (e b o h).1 n
theorem Ext.non {H H' : Hp} (e : Ext H H') {l : Addr} (h : H' l = none) : H l = none := by
  cases q : H l with
  | none => rfl
  | some o =>
    by_cases z : Pl o
    · obtain ⟨o', _, e'⟩ := (e l o q).2 z
      rw [h] at e'; cases e'
    · rw [(e l o q).1 z] at h; cases h
/-- an unlike list is no pool -/
def isPl : HO → Bool
  | .lst [.int _, .int _, .bl _, .int _] => true
  | _ => false
theorem pl_iff {o : HO} : Pl o ↔ isPl o = true := by
  constructor
  · rintro ⟨c, k, b, s, rfl⟩; rfl
  · intro h
    unfold isPl at h
    split at h
    · exact ⟨_, _, _, _, rfl⟩
    · cases h
theorem npl {o : HO} (h : isPl o = false) : ¬ Pl o := fun z => by rw [pl_iff.mp z] at h; cases h
theorem npl_ints (ns : List Int) : ¬ Pl (.lst (ns.map V.int)) := by
  rintro ⟨c, k, b, s, e⟩
  have e := HO.lst.inj e
  match ns, e with
  | [], e => cases e
  | [_], e => cases e
  | [_, _], e => cases e
  | _ :: _ :: _ :: _, e =>
    simp only [List.map_cons, List.cons.injEq] at e
    exact absurd e.2.2.1 (by intro z; cases z)
theorem npl_refs (ns : List Addr) : ¬ Pl (.lst (ns.map V.ref)) := by
  rintro ⟨c, k, b, s, e⟩
  have e := HO.lst.inj e
  match ns, e with
  | [], e => cases e
  | _ :: _, e =>
    simp only [List.map_cons, List.cons.injEq] at e
    exact absurd e.1 (by intro z; cases z)
/-- a pool stands at v -/
def PoolAt (H : Hp) (v : V) : Prop := ∃ a c k b s, v = .ref a ∧ H a = some (.lst [.int c, .int k, .bl b, .int s])
theorem PoolAt.ext {H H' : Hp} {v : V} (h : PoolAt H v) (e : Ext H H') : PoolAt H' v := by
  obtain ⟨a, c, k, b, s, rfl, h⟩ := h
  obtain ⟨o', ⟨c', k', b', s', rfl⟩, h'⟩ := (e a _ h).2 ⟨_, _, _, _, rfl⟩
  exact ⟨a, c', k', b', s', rfl, h'⟩
/-- what is read stands -/
theorem Ext.seqL {K : PySem.W.Frag} {H H' : Hp} {a : Addr} {xs : List V} (e : Ext H H') (h : SqL K H a xs) (n : ¬ Pl (.lst xs)) : SqL K H' a xs := by
  rcases h with (h | ⟨o, h⟩) | h
  · exact .inl (.inl (e.get h n))
  · exact .inl (.inr ⟨o, e.get h (npl rfl)⟩)
  · exact .inr h
theorem Ext.seqT {K : PySem.W.Frag} {H H' : Hp} {a : Addr} {xs : List V} (e : Ext H H') (h : SqT K H a xs) : SqT K H' a xs := by
  rcases h with (h | ⟨o, h⟩) | h
  · exact .inl (.inl (e.get h (npl rfl)))
  · exact .inl (.inr ⟨o, e.get h (npl rfl)⟩)
  · exact .inr h
/-! ### lists of ints, tuples of ints -/
def LsI (K : PySem.W.Frag) (H : Hp) (v : V) (ns : List Int) : Prop := ∃ a, v = .ref a ∧ SqL K H a (ns.map V.int)
def TpI (K : PySem.W.Frag) (H : Hp) (v : V) (ns : List Int) : Prop := ∃ a, v = .ref a ∧ SqT K H a (ns.map V.int)
theorem LsI.ext {K : PySem.W.Frag} {H H' : Hp} {v : V} {ns : List Int} (h : LsI K H v ns) (e : Ext H H') : LsI K H' v ns := by
  obtain ⟨a, rfl, h⟩ := h
  exact ⟨a, rfl, e.seqL h (npl_ints ns)⟩
theorem TpI.ext {K : PySem.W.Frag} {H H' : Hp} {v : V} {ns : List Int} (h : TpI K H v ns) (e : Ext H H') : TpI K H' v ns := by
  obtain ⟨a, rfl, h⟩ := h
  exact ⟨a, rfl, e.seqT h⟩
theorem hD_of {A : Around} {k : Nat} (hr : Room k A) : A.units + 65 < cLine := by have := hr.un; omega


/-! ### one object left out; own objects -/
def del (H : Hp) (D : Addr) : Hp := fun b => if b = D then none else H b
theorem del_same {H : Hp} {D : Addr} : del H D D = none := by unfold del; rw [if_pos rfl]
theorem del_ne {H : Hp} {D b : Addr} (h : b ≠ D) : del H D b = H b := by unfold del; rw [if_neg h]
theorem del_at {H : Hp} {D b : Addr} {o : HO} (h : H b = some o) (n : b ≠ D) : del H D b = some o := by rw [del_ne n]; exact h
theorem of_del {H : Hp} {D b : Addr} {o : HO} (h : del H D b = some o) : b ≠ D ∧ H b = some o := by
  by_cases e : b = D
  · subst e; rw [del_same] at h; cases h
  · rw [del_ne e] at h; exact ⟨e, h⟩
theorem del_sub {H : Hp} {D : Addr} : Ext (del H D) H := Ext.of fun _ _ e => (of_del e).2
theorem del_upd {H : Hp} {D : Addr} {o : HO} : del (upd H D o) D = del H D := by
  funext b; unfold del
  by_cases e : b = D
  · rw [if_pos e, if_pos e]
  · rw [if_neg e, if_neg e, upd_ne e]
theorem del_new {H : Hp} {D : Addr} (h : H D = none) : del H D = H := by
  funext b; unfold del
  by_cases e : b = D
  · rw [if_pos e, e, h]
  · rw [if_neg e]
theorem Ext.del {H H' : Hp} {D : Addr} (e : Ext H H') : Ext (del H D) (del H' D) := fun b o h => by
  obtain ⟨n, h⟩ := of_del h
  rw [del_ne n]
  exact e b o h
theorem Ext.own {H0 H : Hp} {l : Addr} {o : HO} (e : Ext H0 H) (n : H0 l = none) : Ext H0 (upd H l o) := fun b u h => by
  rw [upd_ne (ne_of_none h n)]
  exact e b u h
theorem Ext.newer {H0 H : Hp} {l : Addr} {o : HO} (e : Ext H0 H) (n : H l = none) : Ext H0 (upd H l o) := e.own (e.non n)
theorem npl_nil : ¬ Pl (.lst []) := npl rfl
theorem npl_one (ns : List Int) (v : Int) : ¬ Pl (.lst (ns.map V.int ++ [.int v])) := by
  have e : ns.map V.int ++ [V.int v] = (ns ++ [v]).map V.int := by simp
  rw [e]; exact npl_ints _
/-- the comprehension's list at D behind i turns -/
def LcP (H : Hp) (D : Addr) (R : Nat → List V → Hp → Prop) (i : Nat) (H' : Hp) : Prop := ∃ acc, H' D = some (.lst acc) ∧ Ext H H' ∧ R i acc (del H' D)
theorem LcP.put {H H1 H4 : Hp} {D : Addr} {R : Nat → List V → Hp → Prop} {i : Nat} {acc : List V} {y : V} (hD : H D = none) (h1 : H1 D = some (.lst acc)) (np : ¬ Pl (.lst acc)) (e1 : Ext H H1) (e4 : Ext H1 H4) (hl : acc.length ≤ 1000)
    (r : R (i + 1) (acc ++ [y]) (del H4 D)) : ∃ acc, H4 D = some (.lst acc) ∧ acc.length < sizeLine ∧ LcP H D R (i + 1) (upd H4 D (.lst (acc ++ [y]))) :=
  ⟨acc, e4.get h1 np, small1000 hl, acc ++ [y], upd_same, (e1.trans e4).own hD, by rw [del_upd]; exact r⟩
theorem LcP.skip {H H1 H4 : Hp} {D : Addr} {R : Nat → List V → Hp → Prop} {i : Nat} {acc : List V} (h1 : H1 D = some (.lst acc)) (np : ¬ Pl (.lst acc)) (e1 : Ext H H1) (e4 : Ext H1 H4) (r : R (i + 1) acc (del H4 D)) : LcP H D R (i + 1) H4 :=
  ⟨acc, e4.get h1 np, e1.trans e4, r⟩
theorem lc_r {lo : Int} {n : Nat} {g : TG} {tt : TT} {te : TE} {vs : List Nat} {σ : L2.St} {H : Hp} {Qd : Addr → Hp → Prop} (R : Nat → List V → Hp → Prop) (h0 : R 0 [] H) (mono : ∀ i acc H1 H2, Ext H1 H2 → R i acc H1 → R i acc H2)
    (hs : ∀ i acc D H1, i < n → H D = none → H1 D = some (.lst acc) → Ext H H1 → R i acc (del H1 D) → g (.int (lo + i)) (wipe σ vs) H1 fun σ2 H2 => wipe σ2 vs = wipe σ vs ∧ tt σ2 H2 fun b H3 =>
      if b = true then te σ2 H3 fun y H4 => ∃ acc, H4 D = some (.lst acc) ∧ acc.length < sizeLine ∧ LcP H D R (i + 1) (upd H4 D (.lst (acc ++ [y]))) else LcP H D R (i + 1) H3)
    (hd : ∀ D acc H1, H D = none → H1 D = some (.lst acc) → Ext H H1 → R n acc H1 → Qd D H1) :
    ∀ D, H D = none → ∃ W : Nat → Nat → Hp → Prop, (∃ m, W 0 m (upd H D (.lst []))) ∧ ∀ i m H, W i m H →
      ((Itr lo n).stop i H ∧ Qd D H) ∨ ((Itr lo n).go i H ∧ ∃ Nx : Hp → Prop, (∀ H', Nx H' → ∃ m', m' < m ∧ W (i + 1) m' H') ∧ ∀ x H', (Itr lo n).yld i H x H' → g x (wipe σ vs) H' fun σ2 H2 => wipe σ2 vs = wipe σ vs ∧ tt σ2 H2 fun b H3 =>
        if b = true then te σ2 H3 fun y H4 => ∃ acc, H4 D = some (.lst acc) ∧ acc.length < sizeLine ∧ Nx (upd H4 D (.lst (acc ++ [y]))) else Nx H3) := fun D hD =>
  lc_range (Pv := LcP H D R) (Qd := Qd D) ⟨[], upd_same, Ext.new hD, by rw [del_upd, del_new hD]; exact h0⟩ (fun i H1 hi ⟨acc, h1, e1, r1⟩ => hs i acc D H1 hi hD h1 e1 r1)
    (fun H1 ⟨acc, h1, e1, r1⟩ => hd D acc H1 hD h1 e1 (mono _ _ _ _ del_sub r1))
theorem lc_l {K : PySem.W.Frag} {a : Addr} {xs : List V} {g : TG} {tt : TT} {te : TE} {vs : List Nat} {σ : L2.St} {H : Hp} {Qd : Addr → Hp → Prop} (R : Nat → List V → Hp → Prop) (hl : SqL K H a xs) (nx : ¬ Pl (.lst xs)) (h0 : R 0 [] H) (mono : ∀ i acc H1 H2, Ext H1 H2 → R i acc H1 → R i acc H2)
    (hs : ∀ i x acc D H1, xs[i]? = some x → H D = none → H1 D = some (.lst acc) → Ext H H1 → R i acc (del H1 D) → g x (wipe σ vs) H1 fun σ2 H2 => wipe σ2 vs = wipe σ vs ∧ tt σ2 H2 fun b H3 =>
      if b = true then te σ2 H3 fun y H4 => ∃ acc, H4 D = some (.lst acc) ∧ acc.length < sizeLine ∧ LcP H D R (i + 1) (upd H4 D (.lst (acc ++ [y]))) else LcP H D R (i + 1) H3)
    (hd : ∀ D acc H1, H D = none → H1 D = some (.lst acc) → Ext H H1 → R xs.length acc H1 → Qd D H1) :
    ∀ D, H D = none → ∃ W : Nat → Nat → Hp → Prop, (∃ m, W 0 m (upd H D (.lst []))) ∧ ∀ i m H, W i m H →
      ((Itl K a).stop i H ∧ Qd D H) ∨ ((Itl K a).go i H ∧ ∃ Nx : Hp → Prop, (∀ H', Nx H' → ∃ m', m' < m ∧ W (i + 1) m' H') ∧ ∀ x H', (Itl K a).yld i H x H' → g x (wipe σ vs) H' fun σ2 H2 => wipe σ2 vs = wipe σ vs ∧ tt σ2 H2 fun b H3 =>
        if b = true then te σ2 H3 fun y H4 => ∃ acc, H4 D = some (.lst acc) ∧ acc.length < sizeLine ∧ Nx (upd H4 D (.lst (acc ++ [y]))) else Nx H3) := fun D hD =>
  lc_list (K := K) (a := a) (xs := xs) (Pv := LcP H D R) (Qd := Qd D) ⟨[], upd_same, Ext.new hD, by rw [del_upd, del_new hD]; exact h0⟩ (fun i H1 _ ⟨_, _, e1, _⟩ => e1.seqL hl nx) (fun i x H1 hi ⟨acc, h1, e1, r1⟩ => hs i x acc D H1 hi hD h1 e1 r1)
    (fun H1 ⟨acc, h1, e1, r1⟩ => hd D acc H1 hD h1 e1 (mono _ _ _ _ del_sub r1))
theorem lc_t {K : PySem.W.Frag} {a : Addr} {xs : List V} {g : TG} {tt : TT} {te : TE} {vs : List Nat} {σ : L2.St} {H : Hp} {Qd : Addr → Hp → Prop} (R : Nat → List V → Hp → Prop) (hl : SqT K H a xs) (h0 : R 0 [] H) (mono : ∀ i acc H1 H2, Ext H1 H2 → R i acc H1 → R i acc H2)
    (hs : ∀ i x acc D H1, xs[i]? = some x → H D = none → H1 D = some (.lst acc) → Ext H H1 → R i acc (del H1 D) → g x (wipe σ vs) H1 fun σ2 H2 => wipe σ2 vs = wipe σ vs ∧ tt σ2 H2 fun b H3 =>
      if b = true then te σ2 H3 fun y H4 => ∃ acc, H4 D = some (.lst acc) ∧ acc.length < sizeLine ∧ LcP H D R (i + 1) (upd H4 D (.lst (acc ++ [y]))) else LcP H D R (i + 1) H3)
    (hd : ∀ D acc H1, H D = none → H1 D = some (.lst acc) → Ext H H1 → R xs.length acc H1 → Qd D H1) :
    ∀ D, H D = none → ∃ W : Nat → Nat → Hp → Prop, (∃ m, W 0 m (upd H D (.lst []))) ∧ ∀ i m H, W i m H →
      ((Itt K a).stop i H ∧ Qd D H) ∨ ((Itt K a).go i H ∧ ∃ Nx : Hp → Prop, (∀ H', Nx H' → ∃ m', m' < m ∧ W (i + 1) m' H') ∧ ∀ x H', (Itt K a).yld i H x H' → g x (wipe σ vs) H' fun σ2 H2 => wipe σ2 vs = wipe σ vs ∧ tt σ2 H2 fun b H3 =>
        if b = true then te σ2 H3 fun y H4 => ∃ acc, H4 D = some (.lst acc) ∧ acc.length < sizeLine ∧ Nx (upd H4 D (.lst (acc ++ [y]))) else Nx H3) := fun D hD =>
  lc_tup (K := K) (a := a) (xs := xs) (Pv := LcP H D R) (Qd := Qd D) ⟨[], upd_same, Ext.new hD, by rw [del_upd, del_new hD]; exact h0⟩ (fun i H1 _ ⟨_, _, e1, _⟩ => e1.seqT hl) (fun i x H1 hi ⟨acc, h1, e1, r1⟩ => hs i x acc D H1 hi hD h1 e1 r1)
    (fun H1 ⟨acc, h1, e1, r1⟩ => hd D acc H1 hD h1 e1 (mono _ _ _ _ del_sub r1))
theorem PoolAt.upd {H : Hp} {v : V} {l : Addr} {o0 o : HO} (h : PoolAt H v) (hl : H l = some o0) (n : ¬ Pl o0) : PoolAt (upd H l o) v := by
  obtain ⟨a, c, k, b, s, rfl, h⟩ := h
  refine ⟨a, c, k, b, s, rfl, ?_⟩
  rw [upd_ne (fun e => n (by subst e; rw [hl] at h; cases h; exact ⟨_, _, _, _, rfl⟩))]
  exact h
/-! ### the readings, step by step -/
section
variable {σ : L2.St} {H : Hp} {Q : VK} {QB : Bool → Hp → Prop} {QL : List V → Hp → Prop} {QS : L2.St → Hp → Prop} {D : Ends} {K : PySem.W.Frag}
theorem w_var {i : Nat} {v : V} (h : σ[i]? = some (some v)) (q : Q v H) : tVar i σ H Q := ⟨v, h, q⟩
theorem w_c {v : V} (q : Q v H) : tC v σ H Q := q
theorem w_op {r : R2} {ta tb : TE} (h : ta σ H fun x H1 => tb σ H1 fun y H2 => r x y H2 Q) : tOp r ta tb σ H Q := h
theorem w_un {r : V → Hp → VK → Prop} {ta : TE} (h : ta σ H fun x H1 => r x H1 Q) : tUn r ta σ H Q := h
theorem w_rU {g : Int → V} {i : Int} (q : Q (g i) H) : rU g (.int i) H Q := ⟨i, rfl, q⟩
theorem w_rI0 {g : Int → Int → V} {i j : Int} (q : Q (g i j) H) : rI0 g (.int i) (.int j) H Q := ⟨i, j, rfl, rfl, q⟩
theorem w_rI {C : Int → Int → Prop} {g : Int → Int → V} {i j : Int} (c : C i j) (q : Q (g i j) H) : rI C g (.int i) (.int j) H Q := ⟨i, j, rfl, rfl, c, q⟩
theorem w_rEq {x y : V} (s : scal x y = true) (q : Q (.bl (decide (x = y))) H) : rEq x y H Q := ⟨s, q⟩
theorem w_rNe {x y : V} (s : scal x y = true) (q : Q (.bl (!decide (x = y))) H) : rNe x y H Q := ⟨s, q⟩
theorem w_seq {t u : TS} (h : t { D with nx := u D } σ H) : tSeq t u D σ H := h
theorem w_cut {t u : TS} (Mid : L2.St → Hp → Prop) (h : t { D with nx := Mid } σ H) (h2 : ∀ σ' H', Mid σ' H' → u D σ' H') : C8.tCut t u D σ H := ⟨Mid, h, h2⟩
theorem w_next (h : D.nx σ H) : tNext D σ H := h
theorem w_break (h : D.bk σ H) : tBreak D σ H := h
theorem w_cont (h : D.ct σ H) : tCont D σ H := h
theorem w_asg {te : TE} {g : TG} (h : te σ H fun x H1 => g x σ H1 D.nx) : tAsg te g D σ H := h
theorem w_gname {i : Nat} {v : V} {σ' : L2.St} (e : σ.set i (some v) = σ') (h : QS σ' H) : gName i v σ H QS := by subst e; exact h
theorem w_aug {i : Nat} {te : TE} {ti : TIp} {x : V} (h0 : σ[i]? = some (some x)) (h : te σ H fun y H1 => ti x y H1 fun z H2 => D.nx (σ.set i (some z)) H2) : tAug i te ti D σ H := ⟨x, h0, h⟩
theorem w_ipI {f : Int → Int → Int} {i j : Int} (q : Q (.int (f i j)) H) : ipI f (.int i) (.int j) H Q := ⟨i, j, rfl, rfl, q⟩
theorem w_ret {te : TE} (h : te σ H D.rt) : tRet te D σ H := h
theorem w_retN (h : D.rt .non H) : tRetN D σ H := h
theorem w_drop {te : TE} (h : te σ H fun _ H1 => D.nx σ H1) : tDrop te D σ H := h
theorem w_ifS {c : TT} {t u : TS} (h : c σ H fun b H1 => if b = true then t D σ H1 else u D σ H1) : tIfS c t u D σ H := h
theorem w_tTest {t : TE} (h : t σ H fun x H' => ∃ k, x = .bl k ∧ QB k H') : tTest t σ H QB := h
theorem w_tB {t : TE} (h : t σ H fun x H' => ∃ k, x = .bl k ∧ QB k H') : tB t σ H QB := h
theorem w_exbl {b : Bool} {p : Bool → Prop} (h : p b) : ∃ k, V.bl b = V.bl k ∧ p k := ⟨b, rfl, h⟩
theorem w_and {t u : TT} (h : t σ H fun c H1 => if c = true then u σ H1 QB else QB false H1) : tAnd t u σ H QB := h
theorem w_or {t u : TT} (h : t σ H fun c H1 => if c = true then QB true H1 else u σ H1 QB) : tOr t u σ H QB := h
theorem w_not {t : TT} (h : t σ H fun c H1 => QB (!c) H1) : tNot t σ H QB := h
theorem w_andV {ta tb : TE} (h : ta σ H fun x H1 => ∃ c, x = .bl c ∧ if c = true then tb σ H1 Q else Q (.bl false) H1) : tAndV ta tb σ H Q := h
theorem w_orV {ta tb : TE} (h : ta σ H fun x H1 => ∃ c, x = .bl c ∧ if c = true then Q (.bl true) H1 else tb σ H1 Q) : tOrV ta tb σ H Q := h
theorem w_notV {ta : TE} (h : ta σ H fun x H1 => ∃ c, x = .bl c ∧ Q (.bl (!c)) H1) : tNotV ta σ H Q := h
theorem w_if {t : TT} {ta tb : TE} (h : t σ H fun c H1 => if c = true then ta σ H1 Q else tb σ H1 Q) : tIf t ta tb σ H Q := h
theorem w_lc {wi : TI} {g : TG} {tt : TT} {te : TE} {vs : List Nat} (h : wi σ H fun J H1 => ∀ D, H1 D = none → ∃ W : Nat → Nat → Hp → Prop, (∃ m, W 0 m (upd H1 D (.lst []))) ∧ ∀ i m H, W i m H →
      (J.stop i H ∧ Q (.ref D) H) ∨ (J.go i H ∧ ∃ Nx : Hp → Prop, (∀ H', Nx H' → ∃ m', m' < m ∧ W (i + 1) m' H') ∧ ∀ x H', J.yld i H x H' → g x (wipe σ vs) H' fun σ2 H2 => wipe σ2 vs = wipe σ vs ∧ tt σ2 H2 fun b H3 =>
        if b = true then te σ2 H3 fun y H4 => ∃ acc, H4 D = some (.lst acc) ∧ acc.length < sizeLine ∧ Nx (upd H4 D (.lst (acc ++ [y]))) else Nx H3)) : tLc wi g tt te vs σ H Q := h
theorem w_for {wi : TI} {g : TG} {tb : TS} (h : wi σ H fun J H1 => ∃ W : Nat → Nat → L2.St → Hp → Prop, (∃ m, W 0 m σ H1) ∧ ∀ i m σ H, W i m σ H →
      (J.stop i H ∧ D.nx σ H) ∨ (J.go i H ∧ ∃ N : L2.St → Hp → Prop, (∀ σ' H', N σ' H' → ∃ m', m' < m ∧ W (i + 1) m' σ' H') ∧ ∀ x H', J.yld i H x H' → g x σ H' fun σ2 H2 => tb { D with nx := N, ct := N, bk := D.nx } σ2 H2)) : tFor wi g tb D σ H := h
theorem w_rng1 {ta : TA} {R : It → Hp → Prop} (h : ta σ H fun vs H1 => ∃ j : Int, vs = [.int j] ∧ -(2 ^ 62) ≤ j ∧ j < 2 ^ 62 ∧ R (Itr 0 j.toNat) H1) : iRng1 ta σ H R := h
theorem w_rng1x {j : Int} {p : Int → Prop} (h0 : -4611686018427387904 ≤ j) (h1 : j < 4611686018427387904) (q : p j) : ∃ k : Int, [V.int j] = [.int k] ∧ -(2 ^ 62) ≤ k ∧ k < 2 ^ 62 ∧ p k := ⟨j, rfl, by omega, by omega, q⟩
theorem w_ilist {tl : TE} {R : It → Hp → Prop} (h : tl σ H fun x H1 => ∃ a, x = .ref a ∧ (∃ xs, SqL K H1 a xs) ∧ R (Itl K a) H1) : iList K tl σ H R := h
theorem w_itup {tl : TE} {R : It → Hp → Prop} (h : tl σ H fun x H1 => ∃ a, x = .ref a ∧ (∃ xs, SqT K H1 a xs) ∧ R (Itt K a) H1) : iTup K tl σ H R := h
theorem w_iseq {tl : TE} {R : It → Hp → Prop} (h : tl σ H fun x H1 => ∃ a, x = .ref a ∧ (((∃ xs, SqL K H1 a xs) ∧ R (Itl K a) H1) ∨ ((∃ xs, SqT K H1 a xs) ∧ R (Itt K a) H1))) : iSeq K tl σ H R := h
theorem w_ilistx {a : Addr} {xs : List V} {p : Addr → Prop} (h : SqL K H a xs) (q : p a) : ∃ b, V.ref a = .ref b ∧ (∃ xs, SqL K H b xs) ∧ p b := ⟨a, rfl, ⟨xs, h⟩, q⟩
theorem w_itupx {a : Addr} {xs : List V} {p : Addr → Prop} (h : SqT K H a xs) (q : p a) : ∃ b, V.ref a = .ref b ∧ (∃ xs, SqT K H b xs) ∧ p b := ⟨a, rfl, ⟨xs, h⟩, q⟩
theorem w_wipe {σ' : L2.St} {vs : List Nat} {p : Prop} (e : wipe σ vs = wipe σ' vs) (q : p) : wipe σ vs = wipe σ' vs ∧ p := ⟨e, q⟩
theorem w_yes {QY : Bool → Hp → Prop} (q : QY true H) : tYes σ H QY := q
theorem w_isN {ta : TE} (h : ta σ H fun x H1 => Q (.bl (decide (x = .non))) H1) : tIsN ta σ H Q := h
theorem w_notN {ta : TE} (h : ta σ H fun x H1 => Q (.bl (!decide (x = .non))) H1) : tNotN ta σ H Q := h
theorem w_cb {r : List V → Hp → VK → Prop} {t : TA} (h : t σ H fun vs H1 => r vs H1 Q) : tCB r t σ H Q := h
theorem w_nil (h : QL [] H) : tNil σ H QL := h
theorem w_cons {ta : TE} {tr : TA} (h : ta σ H fun x H1 => tr σ H1 fun xs H2 => QL (x :: xs) H2) : tCons ta tr σ H QL := h
theorem w_tup {t : TA} (h : t σ H fun xs H1 => xs.length ≤ sizeLine ∧ ∀ p, H1 p = none → Q (.ref p) (upd H1 p (.tup xs))) : tTup t σ H Q := h
theorem w_lst {t : TA} (h : t σ H fun xs H1 => xs.length ≤ sizeLine ∧ ∀ p, H1 p = none → Q (.ref p) (upd H1 p (.lst xs))) : tLst t σ H Q := h
theorem le_line {n : Nat} (h : Nat.ble n 1000 = true) : n ≤ sizeLine := Nat.le_of_lt (small1000 (Nat.le_of_ble_eq_true h))
theorem w_lines {n : Nat} {p : Prop} (h : Nat.ble n 1000 = true) (q : p) : n ≤ sizeLine ∧ p := ⟨le_line h, q⟩
theorem w_call {sp : Sp} {dvs : List V} {E : XK} {t : TA} (h : t σ H fun vs H1 => sp (vs ++ dvs) H1 Q E) : tCall sp dvs E t σ H Q := h
theorem w_dnewK (h : ∀ p, H p = none → Q (.ref p) (upd H p (.dK []))) : tDNewK σ H Q := h
theorem w_dget {td ty : TE} (h : td σ H fun x H1 => ty σ H1 fun y H2 => ∃ a v, x = .ref a ∧ DGet H2 a y (some v) ∧ Q v H2) : tDGet td ty σ H Q := h
theorem w_sl {r : V → Option Int → Option Int → Hp → VK → Prop} {te : TE} {tl th : TO} (h : te σ H fun x H1 => tl σ H1 fun l H2 => th σ H2 fun u H3 => r x l u H3 Q) : tSl r te tl th σ H Q := h
theorem w_nopart {QO : Option Int → Hp → Prop} (h : QO none H) : tNoPart σ H QO := h
theorem w_part {QO : Option Int → Hp → Prop} {t : TE} (h : t σ H fun x H1 => ∃ i, x = .int i ∧ QO (some i) H1) : tPart t σ H QO := h
theorem w_exint {i : Int} {p : Int → Prop} (h : p i) : ∃ k, V.int i = V.int k ∧ p k := ⟨i, rfl, h⟩
theorem w_bm {T : String} {r : V → List V → Hp → VK → Prop} {to : TE} {t : TA} (h : to σ H fun x H1 => tyV K T x H1 ∧ t σ H1 fun xs H2 => r x xs H2 Q) : tBM K T r to t σ H Q := h
theorem w_bm0 {T : String} {r : V → List V → Hp → VK → Prop} {to : TE} (h : to σ H fun x H1 => tyV K T x H1 ∧ r x [] H1 Q) : tBM0 K T r to σ H Q := h
theorem ty_list {l : Addr} {xs : List V} (h : H l = some (.lst xs)) : tyV K "list" (.ref l) H := Or.inl ⟨rfl, _, SqL.of h⟩
theorem w_bmL {l : Addr} {xs : List V} {p : Prop} (h : H l = some (.lst xs)) (q : p) : tyV K "list" (.ref l) H ∧ p := ⟨ty_list h, q⟩
theorem w_append {l : Addr} {xs : List V} {y : V} (h : H l = some (.lst xs)) (n : xs.length < sizeLine) (q : Q .non (upd H l (.lst (xs ++ [y])))) : rAppend (.ref l) [y] H Q := ⟨l, xs, y, rfl, rfl, h, n, q⟩
theorem w_ixL {p : Addr} {xs : List V} {i : Int} {v : V} (h : SqL K H p xs) (e : atI xs i = some v) (q : Q v H) : rIxL K (.ref p) (.int i) H Q := ⟨p, xs, i, v, rfl, rfl, h, e, q⟩
theorem w_ixT {p : Addr} {xs : List V} {i : Int} {v : V} (h : SqT K H p xs) (e : atI xs i = some v) (q : Q v H) : rIxT K (.ref p) (.int i) H Q := ⟨p, xs, i, v, rfl, rfl, h, e, q⟩
theorem w_setL {p : Addr} {xs : List V} {k : Int} {j : Nat} {v : V} {QH : Hp → Prop} (h : H p = some (.lst xs)) (e : ixN xs.length k = some j) (q : QH (upd H p (.lst (xs.set j v)))) : rSetL (.ref p) (.int k) v H QH := ⟨p, xs, k, j, rfl, rfl, h, e, q⟩
theorem w_cat {l b : Addr} {xs zs : List V} (h1 : H l = some (.lst xs)) (h2 : H b = some (.lst zs)) (n : xs.length + zs.length ≤ 1000) (q : ∀ p, H p = none → Q (.ref p) (upd H p (.lst (xs ++ zs)))) : rCat (.ref l) (.ref b) H Q := ⟨l, b, xs, zs, rfl, rfl, h1, h2, Nat.le_of_lt (small1000 n), q⟩
theorem w_slL {a : Addr} {xs : List V} {lo hi : Option Int} (h : SqL K H a xs) (q : ∀ p, H p = none → Q (.ref p) (upd H p (.lst (cutV xs lo hi)))) : rSlL K (.ref a) lo hi H Q := ⟨a, xs, rfl, h, q⟩
theorem inV_int (n : Int) : ∀ ns : List Int, inV (.int n) (ns.map V.int) = decide (n ∈ ns)
  | [] => by simp [inV]
  | m :: r => by
    have ih := inV_int n r
    unfold inV at ih ⊢
    rw [List.map_cons, List.any_cons, ih]
    have e : eqV (.int m) (.int n) = decide (n = m) := by
      show (m == n) = decide (n = m)
      by_cases h : m = n
      · subst h; simp
      · rw [decide_eq_false (fun z => h z.symm)]; simpa using h
    rw [e, ← Bool.decide_or]
    simp only [List.mem_cons]
theorem flat_ints : ∀ ns : List Int, (ns.map V.int).all flatV = true
  | [] => rfl
  | _ :: r => by rw [List.map_cons, List.all_cons, flat_ints r]; rfl
theorem w_inL {p : Addr} {ns : List Int} {n : Int} (h : SqL K H p (ns.map V.int)) (q : Q (.bl (decide (n ∈ ns))) H) : rIn K false (.int n) (.ref p) H Q := ⟨p, _, rfl, .inl h, rfl, flat_ints ns, by rw [if_neg Bool.false_ne_true, inV_int]; exact q⟩
theorem w_inT {p : Addr} {ns : List Int} {n : Int} (h : SqT K H p (ns.map V.int)) (q : Q (.bl (decide (n ∈ ns))) H) : rIn K false (.int n) (.ref p) H Q := ⟨p, _, rfl, .inr h, rfl, flat_ints ns, by rw [if_neg Bool.false_ne_true, inV_int]; exact q⟩
theorem w_ninL {p : Addr} {ns : List Int} {n : Int} (h : SqL K H p (ns.map V.int)) (q : Q (.bl (!decide (n ∈ ns))) H) : rIn K true (.int n) (.ref p) H Q := ⟨p, _, rfl, .inl h, rfl, flat_ints ns, by rw [if_pos rfl, inV_int]; exact q⟩
theorem w_ninT {p : Addr} {ns : List Int} {n : Int} (h : SqT K H p (ns.map V.int)) (q : Q (.bl (!decide (n ∈ ns))) H) : rIn K true (.int n) (.ref p) H Q := ⟨p, _, rfl, .inr h, rfl, flat_ints ns, by rw [if_pos rfl, inV_int]; exact q⟩
theorem w_listof {a : Addr} {ys : List V} {p : Addr → List V → Prop} (h : SqL K H a ys) (q : p a ys) : ∃ b zs, [V.ref a] = [.ref b] ∧ (SqL K H b zs ∨ SqT K H b zs) ∧ p b zs := ⟨a, ys, rfl, .inl h, q⟩
theorem w_tupof {a : Addr} {ys : List V} {A B : Addr → List V → Prop} (h : SqL K H a ys) (q : A a ys) : ∃ b zs, [V.ref a] = [.ref b] ∧ ((SqL K H b zs ∧ A b zs) ∨ (SqT K H b zs ∧ B b zs)) := ⟨a, ys, rfl, .inl ⟨h, q⟩⟩
theorem w_gsub {to ti : TE} {t : TSet} {v : V} (h : to σ H fun o H1 => ti σ H1 fun i H2 => t o i v H2 fun H3 => QS σ H3) : gSub to ti t v σ H QS := h
theorem w_len {a : Addr} {xs : List V} {p : Nat → Prop} (h : SqL K H a xs) (q : p xs.length) : ∃ x n, [V.ref a] = [x] ∧ LenV K x H n ∧ p n := ⟨_, _, rfl, .inl ⟨_, h, rfl⟩, q⟩
theorem w_lenT {a : Addr} {xs : List V} {p : Nat → Prop} (h : SqT K H a xs) (q : p xs.length) : ∃ x n, [V.ref a] = [x] ∧ LenV K x H n ∧ p n := ⟨_, _, rfl, .inr ⟨_, h, rfl⟩, q⟩
theorem w_int1 {i : Int} {p : Int → Prop} {r : Bool → Prop} (q : p i) : (∃ j, [V.int i] = [.int j] ∧ p j) ∨ ∃ k, [V.int i] = [.bl k] ∧ r k := .inl ⟨i, rfl, q⟩
theorem w_intb {b : Bool} {p : Int → Prop} {r : Bool → Prop} (q : r b) : (∃ j, [V.bl b] = [.int j] ∧ p j) ∨ ∃ k, [V.bl b] = [.bl k] ∧ r k := .inr ⟨b, rfl, q⟩
theorem w_abs {i : Int} {p : Int → Prop} (q : p i) : ∃ j, [V.int i] = [.int j] ∧ p j := ⟨i, rfl, q⟩
end
theorem fmod_pos {a b : Int} (h : 0 < b) : 0 ≤ a.fmod b ∧ a.fmod b < b := by
  rw [Int.fmod_eq_emod_of_nonneg a (by omega)]
  exact ⟨Int.emod_nonneg a (by omega), Int.emod_lt_of_pos a h⟩
theorem cmul_fmod {x m y : Int} (h0 : 0 < m) (h1 : m < 18446744073709551616) : CMul (x.fmod m) y := .inl (by have := fmod_pos (a := x) h0; omega)
theorem w_start {t : TS} {D : Ends} {N : List Str} {vs : List V} {σ : L2.St} {H : Hp} (e : L2.start N vs = σ) (h : t D σ H) : t D (L2.start N vs) H := by rw [e]; exact h
theorem ixN_nat {n j : Nat} (h : Nat.blt j n = true) : ixN n (j : Int) = some j := by
  have h' : j < n := Nat.le_of_ble_eq_true h
  unfold ixN
  rw [if_pos (by omega), if_pos (by omega), Int.toNat_natCast]
/-! ### isinstance of built-in types -/
theorem w_isi {K : PySem.W.Frag} {H : Hp} {Q : VK} {x : V} {a b : String} {r : Bool} (ty : TyX K H x (.type a)) (e : kitB a b = some r) (q : Q (.bl r) H) : rIsi K [x, .ty b] H Q := ⟨x, .ty b, _, _, r, rfl, .ty b, ty, kit_ty e, q⟩
theorem isi_int_int : kitB "int" "int" = some true := by decide +kernel
theorem isi_int_bool : kitB "int" "bool" = some false := by decide +kernel
theorem isi_int_str : kitB "int" "str" = some false := by decide +kernel
theorem isi_int_list : kitB "int" "list" = some false := by decide +kernel
theorem isi_int_tuple : kitB "int" "tuple" = some false := by decide +kernel
theorem isi_bool_int : kitB "bool" "int" = some true := by decide +kernel
theorem isi_bool_bool : kitB "bool" "bool" = some true := by decide +kernel
theorem isi_bool_str : kitB "bool" "str" = some false := by decide +kernel
theorem isi_bool_list : kitB "bool" "list" = some false := by decide +kernel
theorem isi_bool_tuple : kitB "bool" "tuple" = some false := by decide +kernel
theorem isi_str_int : kitB "str" "int" = some false := by decide +kernel
theorem isi_str_bool : kitB "str" "bool" = some false := by decide +kernel
theorem isi_str_str : kitB "str" "str" = some true := by decide +kernel
theorem isi_str_list : kitB "str" "list" = some false := by decide +kernel
theorem isi_str_tuple : kitB "str" "tuple" = some false := by decide +kernel
theorem isi_non_list : kitB "NoneType" "list" = some false := by decide +kernel
theorem isi_non_tuple : kitB "NoneType" "tuple" = some false := by decide +kernel
theorem isi_list_list : kitB "list" "list" = some true := by decide +kernel
theorem isi_list_tuple : kitB "list" "tuple" = some false := by decide +kernel
theorem isi_tuple_list : kitB "tuple" "list" = some false := by decide +kernel
theorem isi_tuple_tuple : kitB "tuple" "tuple" = some true := by decide +kernel
theorem isi_dict_dict : kitB "dict" "dict" = some true := by decide +kernel
/-! ### branches -/
section
variable {A B : Prop} {p : Prop} [Decidable p]
theorem iteNT (q : B) : if (!true) = true then A else B := iteF q
theorem iteNF (q : A) : if (!false) = true then A else B := iteT q
theorem ite_d (h1 : p → A) (h2 : ¬ p → B) : if decide p = true then A else B := by
  by_cases h : p
  · rw [if_pos (decide_eq_true h)]; exact h1 h
  · rw [if_neg (by rw [decide_eq_false h]; exact Bool.false_ne_true)]; exact h2 h
theorem ite_nd (h1 : ¬ p → A) (h2 : p → B) : if (!decide p) = true then A else B := by
  by_cases h : p
  · rw [decide_eq_true h]; exact iteF (h2 h)
  · rw [decide_eq_false h]; exact iteT (h1 h)
theorem ite_decT (h : p) (q : A) : if decide p = true then A else B := by rw [if_pos (decide_eq_true h)]; exact q
theorem ite_decF (h : ¬ p) (q : B) : if decide p = true then A else B := by rw [if_neg (by rw [decide_eq_false h]; exact Bool.false_ne_true)]; exact q
theorem ite_ndecT (h : ¬ p) (q : A) : if (!decide p) = true then A else B := by rw [decide_eq_false h]; exact iteT q
theorem ite_ndecF (h : p) (q : B) : if (!decide p) = true then A else B := by rw [decide_eq_true h]; exact iteF q
theorem ite_viT {i j : Int} (h : i = j) (q : A) : if decide (V.int i = V.int j) = true then A else B := ite_decT (by rw [h]) q
theorem ite_viF {i j : Int} (h : i ≠ j) (q : B) : if decide (V.int i = V.int j) = true then A else B := ite_decF (fun e => h (V.int.inj e)) q
theorem ite_nviT {i j : Int} (h : i ≠ j) (q : A) : if (!decide (V.int i = V.int j)) = true then A else B := ite_ndecT (fun e => h (V.int.inj e)) q
theorem ite_nviF {i j : Int} (h : i = j) (q : B) : if (!decide (V.int i = V.int j)) = true then A else B := ite_ndecF (by rw [h]) q
theorem ite_vi {i j : Int} (h1 : i = j → A) (h2 : i ≠ j → B) : if decide (V.int i = V.int j) = true then A else B := ite_d (fun e => h1 (V.int.inj e)) fun e => h2 fun z => e (by rw [z])
theorem ite_nvi {i j : Int} (h1 : i ≠ j → A) (h2 : i = j → B) : if (!decide (V.int i = V.int j)) = true then A else B := ite_nd (fun e => h1 fun z => e (by rw [z])) fun e => h2 (V.int.inj e)
theorem ite_b {b : Bool} (h1 : b = true → A) (h2 : b = false → B) : if b = true then A else B := by
  cases b
  · exact iteF (h2 rfl)
  · exact iteT (h1 rfl)
end
end Kf

end
section
set_option Elab.async false
set_option linter.all false
set_option maxRecDepth 100000
set_option maxHeartbeats 4000000
namespace Kf
open PySem PySem.Spec PyProof.Rows L2 RT
theorem nolen_rt : typeLookup (.type "reversed") "__len__" = pure none := by rw [typeLookup_type, builtinLookup_eq_fast]; kernel_rfl
theorem slot_rt_hint : Slot "reversed" "__length_hint__" "reversed.__length_hint__" :=
  .of (owner := "reversed") (n := "__length_hint__") (by rw [typeLookup_type, builtinLookup_eq_fast]; kernel_rfl) (by decide +kernel) (by decide +kernel) (by decide +kernel)
    (by first | exact .inl (by decide +kernel) | exact .inr (by decide +kernel)) (by rw [isSubtype_type]; kernel_rfl)
theorem entry_rt_hint : entryFor table "reversed.__length_hint__" = some Builtin.«reversed.__length_hint__» := entryFor_of_tree (by kernel_rfl)
theorem args_rt_hint (a : Value) : argsOk "reversed.__length_hint__" ⟨[a], []⟩ := by
  unfold argsOk; rw [signature?_of (id := "reversed.__length_hint__") (n := ['_', '_', 't', 'n', 'i', 'h', '_', 'h', 't', 'g', 'n', 'e', 'l', '_', '_']) (o := ['d', 'e', 's', 'r', 'e', 'v', 'e', 'r']) (by kernel_rfl) owner_rt]; kernel_rfl
section
variable {prog : Program} {w : World} {A : Around} {E : Value → Shared → Prop} {s : Shared}
theorem hint_rt {it t : Addr} {n : Nat} {items : Array Value} {Q : Bool → Shared → Prop} (hit : IsRt s.heap it t ((items.size : Int) - 1)) (ht : IsTup s.heap t items) (hz : items.size ≤ sizeLine)
    (hQ : ∀ b tk, Q b { s with toks := tk }) : wpAny (model prog w) A (Builtin.List.listLengthHint (.ref it)) Q E s := by
  have hT := hit.typeIs
  obtain ⟨o, ho, hc, hd⟩ := id hit
  unfold Builtin.List.listLengthHint
  refine wpAny_bind (wpAny_specialOf hT nolen_rt ?_)
  show wpAny _ _ (specialOf (Value.ref it) (Str.ofString "__length_hint__") >>= _) _ _ _
  refine wpAny_bind (wpAny_specialOf hT slot_rt_hint.lookup ?_)
  generalize hid : ("reversed.__length_hint__" : String) = id0
  wp_delta
  rw [show splitId id0 = some ("reversed", "__length_hint__") from by subst hid; decide +kernel]
  subst hid
  refine wpAny_bind (wpAny_isInstance (b := true) hT (by rw [isSubtype_type]; kernel_rfl) ?_)
  rw [if_neg (by decide)]
  refine wpAny_bind (wpAny_rule ?_)
  refine wpAny_bind (wpAny_of_eq (slot_rt_hint.bind _) ?_)
  refine wpAny_bind (wpAny_attempt (wpAny_call_entry slot_rt_hint hT entry_rt_hint ?_ (args_rt_hint _)))
  unfold Builtin.«reversed.__length_hint__»
  refine wpAny_bind (wpAny_of_eq (a := Value.ref it) rfl ?_)
  refine wpAny_bind (wpAny_field ho hd (x := .ref t) rfl ?_)
  rw [if_neg (by intro z; cases z)]
  have hl := sizeLine_eq
  refine wpAny_bind (len_tuple ht (by omega) ?_)
  refine wpAny_bind (wpAny_of_eq (a := some ((items.size : Nat) : Int)) rfl ?_)
  refine wpAny_bind (wpAny_field ho hd (x := rawInt ((items.size : Int) - 1)) rfl ?_)
  show wpAny _ _ (if ((items.size : Nat) : Int) < (items.size : Int) - 1 + 1 then _ else retInt ((items.size : Int) - 1 + 1)) _ _ _
  rw [if_neg (by omega)]
  unfold retInt
  refine wpAny_bind (wpAny_mkInt (wpAny_pure ⟨_, rfl, ?_⟩))
  show wpAny _ _ (asInt? (.int ((items.size : Int) - 1 + 1) _) >>= _) _ _ _
  refine wpAny_bind (wpAny_of_eq (a := some ((items.size : Int) - 1 + 1)) rfl ?_)
  have h1 : Builtin.List.listFitsIndex ((items.size : Int) - 1 + 1) = true := by
    unfold Builtin.List.listFitsIndex
    rw [Bool.and_eq_true]
    exact ⟨decide_eq_true (by omega), decide_eq_true (by omega)⟩
  have h2 : Builtin.List.listTooLong ((items.size : Int) - 1 + 1).toNat = false := by
    unfold Builtin.List.listTooLong
    exact decide_eq_false (by omega)
  dsimp only
  rw [if_neg (by rw [h1]; decide), if_neg (by omega), if_neg (by rw [h2]; decide)]
  exact wpAny_pure (hQ _ _)
theorem hint_lri' {it : Addr} {Q : Bool → Shared → Prop} (hT : s.TypeIs (.ref it) "list_reverseiterator") (hQ : Q false s) : wpAny (model prog w) A (Builtin.List.listLengthHint (.ref it)) Q E s := by
  unfold Builtin.List.listLengthHint
  refine wpAny_bind (wpAny_specialOf hT nolen_lri ?_)
  show wpAny _ _ (specialOf (Value.ref it) (Str.ofString "__length_hint__") >>= _) _ _ _
  refine wpAny_bind (wpAny_specialOf hT hint_lri ?_)
  generalize hid : ("list_reverseiterator.__length_hint__" : String) = id0
  wp_delta
  rw [show splitId id0 = some ("list_reverseiterator", "__length_hint__") by subst hid; decide +kernel]
  subst hid
  refine wpAny_bind (wpAny_isInstance (b := true) hT (by rw [isSubtype_type]; kernel_rfl) ?_)
  rw [if_neg (by decide)]
  first
  | exact wpAny_pure hQ
  | (rw [if_pos (by decide +kernel)]; exact wpAny_pure hQ)
  | (rw [if_pos (by decide +kernel), if_neg (by decide +kernel)]; exact wpAny_pure hQ)
/-- reversed(t), t a tuple, walked -/
theorem walks_rt (hh : A.handled = none) (I t : Addr) (hne : t ≠ I) (items : Array Value) (hz : items.size ≤ sizeLine) :
    Walks prog w A I [I, t] [I] items.size (fun i v => items[items.size - 1 - i]? = some v) (fun i h => i ≤ items.size ∧ IsRt h I t ((items.size : Int) - 1 - (i : Int)) ∧ IsTup h t items) := by
  refine ⟨fun b hb => ?_, fun i h h' x hk => ?_, fun i s Q E hi x hQ => ?_, fun s Q E x hQ => ?_, fun i s Q E x hQ => iter_rt x.2.1 hQ⟩
  · rw [List.mem_singleton] at hb
    subst hb
    exact List.mem_cons_self
  · refine ⟨x.1, x.2.1.at fun o e => hk I List.mem_cons_self o e, ?_⟩
    obtain ⟨o, e, r⟩ := x.2.2
    exact ⟨o, hk t (by simp) o e, r⟩
  · obtain ⟨x1, x2, x3⟩ := x
    rw [show (items.size : Int) - 1 - (i : Int) = ((items.size - 1 - i : Nat) : Int) by omega] at x2
    have hx : items[items.size - 1 - i]? = some (items[items.size - 1 - i]'(by omega)) := Array.getElem?_eq_getElem (by omega)
    refine next_rt_item x2 x3 hx hz fun h' y2 sb => ?_
    rw [show ((items.size - 1 - i : Nat) : Int) - 1 = (items.size : Int) - 1 - ((i + 1 : Nat) : Int) by omega] at y2
    refine hQ _ h' _ hx ⟨hi, y2, ?_⟩ fun b o hb e => (sb.2 b (by simpa using hb)).trans e
    obtain ⟨o, e, r⟩ := x3
    exact ⟨o, (sb.2 t hne).trans e, r⟩
  · obtain ⟨x1, x2, x3⟩ := x
    rw [show (items.size : Int) - 1 - ((items.size : Nat) : Int) = -1 by omega] at x2
    exact next_rt_end hh x2 fun h' eb => hQ h' s.toks fun b o hb e => eb b o (by simpa using hb) e
/-- list(it), it an iterator of n items whose length is hinted at -/
theorem list_iter {T : String} {it d : Addr} {n : Nat} {Pv : Nat → Value → Prop} {St : Nat → Heap → Prop} {Q : Value → Shared → Prop} (W : Walks prog w A.in1.in1 it [it, d] [it] n Pv St) (hn : n ≤ sizeLine) (hT : s.TypeIs (.ref it) T) (n1 : (Value.type T == Value.type "list") = false) (n2 : (Value.type T == Value.type "tuple") = false)
    (hint : ∀ (h : Heap) (tk : Nat) (A : Around) (E : Value → Shared → Prop) (Q : Bool → Shared → Prop), (∀ b ∈ [it, d], ∀ o, s.heap.get? b = some o → h.get? b = some o) → (∀ b tk, Q b { s with heap := h, toks := tk }) → wpAny (model prog w) A (Builtin.List.listLengthHint (.ref it)) Q E { s with heap := h, toks := tk })
    (hd : d < s.heap.objs.size) (st : St 0 s.heap)
    (hQ : ∀ h' tk acc c, (∀ b o, b ≠ it → s.heap.get? b = some o → h'.get? b = some o) → h'.get? s.heap.objs.size = some { cls := .type "list", dict := none, data := .seq acc c, slots := #[] } → ItemsOf Pv acc n → Q (.ref s.heap.objs.size) { s with heap := h', toks := tk }) :
    wpAny (model prog w) A (call (.type "list") [.ref it]) Q E s := by
  have hit : it < s.heap.objs.size := by
    obtain ⟨o, e, _⟩ := hT
    exact Heap.lt_size e
  refine callType_codes (Q₁ := fun obj s₁ => obj = .ref s.heap.objs.size ∧ s₁ = { s with heap := s.heap.push { cls := .type "list", data := .seq #[] } }) PySem.F.called_list (PySem.F.typeCall_list_1 _) PySem.F.entry_list_init
    (code_list_new _ ⟨rfl, rfl⟩) fun obj s₁ h₁ => ?_
  obtain ⟨rfl, rfl⟩ := h₁
  generalize hS' : s.heap.objs.size = S
  have k1 : ∀ b o, s.heap.get? b = some o → (s.heap.push { cls := .type "list", data := .seq #[] }).get? b = some o := fun b o e => Heap.get?_push_of_some _ e
  have hS : (s.heap.push { cls := .type "list", data := .seq #[] }).get? S = some { cls := .type "list", data := .seq #[] } := by rw [← hS']; exact Heap.get?_push_size _ rfl
  have neI : S ≠ it := Nat.ne_of_gt (by rw [← hS']; exact hit)
  have neD : S ≠ d := Nat.ne_of_gt (by rw [← hS']; exact hd)
  have old : ∀ b o, s.heap.get? b = some o → b ≠ S := fun b o e => Nat.ne_of_lt (by rw [← hS']; exact Heap.lt_size e)
  generalize s.heap.push { cls := .type "list", data := .seq #[] } = g at k1 hS
  refine ⟨⟨_, hS, rfl⟩, PySem.F.args_list_init_2 _ _, ?_⟩
  show wpAny _ _ (do let x ← Builtin.List.listItems (.ref S); Builtin.List.listUpdate (.ref S) (fun _ => #[]); letGo x.toList.reverse; Builtin.List.listExtendWith (.ref S) (.ref it) .none) _ _ { s with heap := g }
  refine wpAny_bind ?_
  unfold Builtin.List.listItems
  refine wpAny_bind (wpAny_seqItems hS rfl (wpAny_pure ?_))
  show wpAny _ _ (updateSeq S (fun _ => #[]) >>= fun _ => letGo (#[] : Array Value).toList.reverse >>= fun _ => Builtin.List.listExtendWith (.ref S) (.ref it) .none) _ _ { s with heap := g }
  refine wpAny_bind (wpAny_updateSeq hS rfl ?_)
  have hS2 := Heap.get?_update_self (Obj.mapSeq (fun _ => (#[] : Array Value))) hS rfl
  have k2 : ∀ b o, b ≠ S → g.get? b = some o → (g.update S (Obj.mapSeq (fun _ => (#[] : Array Value)))).get? b = some o := fun b o hb e => (Heap.get?_update_other _ _ (Ne.symm hb)).trans e
  refine wpAny_bind (wpAny_letGo ?_)
  generalize g.update S (Obj.mapSeq (fun _ => (#[] : Array Value))) = g2 at hS2 k2
  have k3 : ∀ b o, s.heap.get? b = some o → g2.get? b = some o := fun b o e => k2 b o (old b o e) (k1 b o e)
  have st2 : St 0 g2 := W.frame 0 _ _ st fun b _ o e => k3 b o e
  have hT2 : ({ s with heap := g2 } : Shared).TypeIs (.ref it) T := by
    obtain ⟨o, e, r⟩ := hT
    exact ⟨o, k3 _ _ e, r⟩
  have hSf : S ∉ [it, d] := by
    simp only [List.mem_cons, List.not_mem_nil, or_false, not_or]
    exact ⟨neI, neD⟩
  have key : ∀ (h : Heap) (c tk : Nat), St 0 h → (∀ b o, b ≠ S → s.heap.get? b = some o → h.get? b = some o) → h.get? S = some { cls := .type "list", data := .seq #[] c } →
      codeAny (model prog w) A.in1 (.builtin "list.extend.loop" ⟨[.ref S, .ref it, .none], []⟩) (wants (fun r s₂ => r = Value.none ∧ Q (.ref S) s₂) E) { s with heap := h, toks := tk } := fun h c tk hst hk hSh => by
    refine codeAny_extend_loopS W.toS hn S hSf .none n 0 _ #[] c rfl (Nat.zero_le _) hst hSh (ItemsOf.nil _) fun s' acc c' hm hSa hacc => ?_
    rw [Moved.eq_with hm]
    refine (show Value.none = Value.none ∧ Q (.ref S) _ from ⟨rfl, ?_⟩)
    rw [← hS']
    refine hQ s'.heap s'.toks acc c' (fun b o hb e => hm.heap b o (fun hmem => ?_) (hk b o (old b o e) e)) (by rw [hS']; exact hSa) hacc
    rcases List.mem_cons.mp hmem with z | z
    · exact old b o e z
    · exact hb (List.mem_singleton.mp z)
  unfold Builtin.List.listExtendWith
  refine wpAny_bind (wpAny_typeOf (T := T) hT2 ?_)
  have h1 : Builtin.List.listSameRef (.ref S) (.ref it) = false := by simp [Builtin.List.listSameRef, neI]
  rw [if_neg (by rw [h1, n1, n2]; decide)]
  refine wpAny_bind (W.self 0 _ _ _ st2 ?_)
  refine wpAny_bind (wpAny_holding (hint g2 s.toks _ _ _ (fun b _ o e => k3 b o e) fun b tk => ?_))
  have qt := plainId_quiet PySem.F.plain_extend_loop ⟨[.ref S, .ref it, .none], []⟩
  refine wpAny_ite_split (fun _ => ?_) (fun _ => wpAny_pure ⟨qt, key g2 0 tk st2 (fun b o _ e => k3 b o e) hS2⟩)
  refine wpAny_bind (wpAny_rule (wpAny_bind ?_))
  show wpAny _ _ (updateSeq S (fun xs => xs.push .none) >>= fun _ => updateSeq S fun xs => xs.pop) _ _ _
  refine wpAny_bind (wpAny_updateSeq hS2 rfl ?_)
  have hS3 := Heap.get?_update_self (Obj.mapSeq (fun xs => xs.push Value.none)) hS2 rfl
  have k4 : ∀ b o, b ≠ S → g2.get? b = some o → (g2.update S (Obj.mapSeq (fun xs => xs.push Value.none))).get? b = some o := fun b o hb e => (Heap.get?_update_other _ _ (Ne.symm hb)).trans e
  generalize g2.update S (Obj.mapSeq (fun xs => xs.push Value.none)) = g3 at hS3 k4
  refine wpAny_updateSeq (hz := by seq_fits) hS3 rfl ?_
  have hS4 := Heap.get?_update_self (Obj.mapSeq (fun xs : Array Value => xs.pop)) hS3 rfl
  have k5 : ∀ b o, b ≠ S → g3.get? b = some o → (g3.update S (Obj.mapSeq (fun xs : Array Value => xs.pop))).get? b = some o := fun b o hb e => (Heap.get?_update_other _ _ (Ne.symm hb)).trans e
  have k6 : ∀ b o, b ≠ S → s.heap.get? b = some o → (g3.update S (Obj.mapSeq (fun xs : Array Value => xs.pop))).get? b = some o := fun b o hb e => k5 b o hb (k4 b o hb (k3 b o e))
  exact wpAny_pure ⟨qt, key _ _ _ (W.frame 0 _ _ st2 fun b hb o e => k5 b o (fun z => hSf (z ▸ hb)) (k4 b o (fun z => hSf (z ▸ hb)) e)) k6 hS4⟩
end
/-! ### the rule -/
section
variable {X : Cx} {K : PySem.W.Frag}
def tListRev (K : PySem.W.Frag) (te : TE) : TE := fun σ H Q => te σ H fun v H1 => ∃ (a : Addr) (xs : List V), v = .ref a ∧ (SqL K H1 a xs ∨ SqT K H1 a xs) ∧ ∀ q, H1 q = none → Q (.ref q) (upd H1 q (.lst xs.reverse))
theorem w_listRev {te : TE} {σ : L2.St} {H : Hp} {Q : VK} (h : te σ H fun v H1 => ∃ (a : Addr) (xs : List V), v = .ref a ∧ (SqL K H1 a xs ∨ SqT K H1 a xs) ∧ ∀ q, H1 q = none → Q (.ref q) (upd H1 q (.lst xs.reverse))) : tListRev K te σ H Q := h
theorem pe_listRev {e : Expr} {te : TE} {p p2 pos pos2 : Pos} (ek : X.K = K) (hc : X.calm = true) (hg : Gl X "list") (hm : X.mg "list" = none) (hg2 : Gl X "reversed") (hm2 : X.mg "reversed" = none) (he : PE X e te)
    (hs : starEach [e] X.env = (false, eval e X.env) :: starEach [] X.env := by rfl)
    (hs2 : starEach [.Call (.Name "reversed" p2) [e] [] pos2] X.env = (false, eval (.Call (.Name "reversed" p2) [e] [] pos2) X.env) :: starEach [] X.env := by rfl) :
    PE X (.Call (.Name "list" p) [.Call (.Name "reversed" p2) [e] [] pos2] [] pos) (tListRev K te) := by
  subst ek
  refine ⟨fun pins s σ H Q I h => ?_⟩
  refine Call_ (ld_blt I hg hm boot_list (PyProof.Rows.callWith_type1 (args_cons (Call_ (ld_blt I hg2 hm2 PyProof.Rows.boot_reversed (PyProof.Rows.callWith_type1 (args_cons (thn (he.run pins s σ H _ I h) fun u s1 ⟨v, H1, I1, r1, q1⟩ => args_nil ?_) hs) hs rfl))) hs2) hs2 rfl))
  obtain ⟨a, xs, ev, hq, q⟩ := q1
  subst ev
  obtain rfl : u = Value.ref a := r1
  have hline := sizeLine_eq
  have fin : ∀ (its : List Value) (s2 : Shared) (it : Addr) (I2 : Inv X pins σ H1 s2) (hf : FpOk X pins H1 it) (hil : it < s2.heap.objs.size), Vals xs its → xs.length ≤ sizeLine → ∀ (h' : Heap) (tk : Nat) (acc : Array Value) (c : Nat), (∀ b o, b ≠ it → s2.heap.get? b = some o → h'.get? b = some o) →
      h'.get? s2.heap.objs.size = some { cls := .type "list", dict := none, data := .seq acc c, slots := #[] } → ItemsOf (fun i v => its.toArray[its.toArray.size - 1 - i]? = some v) acc its.toArray.size → EP X pins σ Q (.ref s2.heap.objs.size) { s2 with heap := h', toks := tk } := by
    intro its s2 it I2 hf hil rv hz h' tk acc c hk hl hacc
    obtain ⟨f0, f1, f2, f3, f4, f5⟩ := hf
    have fresh := I2.hok.fresh (Nat.le_refl s2.heap.objs.size)
    have low : ∀ b o, s2.heap.get? b = some o → b ≠ s2.heap.objs.size := fun b o e => Nat.ne_of_lt (Heap.lt_size e)
    have nit : ∀ b o, H1 b = some o → b ≠ it := fun b o e z => by rw [z, f0] at e; cases e
    have ns : ∀ b o, H1 b = some o → b ≠ s2.heap.objs.size := fun b o e => ne_of_none e fresh
    have ho : HOk X.prog X.w (upd H1 s2.heap.objs.size (.lst xs.reverse)) h' := fun b o e => by
      by_cases hb : b = s2.heap.objs.size
      · subst hb
        rw [L2.upd_same] at e
        cases e
        exact ⟨by rw [List.length_reverse]; exact hz, acc.toList, c, vals_rev rv hacc, by rw [Array.toArray_toList]; exact hl⟩
      · rw [upd_ne hb] at e
        refine (I2.hok b o e).stay (fun d u hd eu => hk d u ?_ eu) (fun d q2 => by rw [upd_ne (ns d _ q2)]; exact q2) fun d ys q2 => by rw [upd_ne (ns d _ q2)]; exact q2
        rcases hd with z | z
        · rw [z]; exact nit b o e
        · exact nit d _ z
    refine ⟨.ref s2.heap.objs.size, upd H1 s2.heap.objs.size (.lst xs.reverse), ?_, rfl, q _ fresh⟩
    refine I2.step (g' := s2.gens) (d' := s2.drawn) (ch := [it]) (fun b hb => ?_) (fun b o _ _ hc e _ => hk b o (fun z => hc (by rw [z]; exact List.mem_cons_self)) e) (fun b o _ _ hc e _ => ⟨o.slots, hk b o (fun z => hc (by rw [z]; exact List.mem_cons_self)) e⟩)
      (fun b o _ e n => by rw [upd_ne (low b o e)]; exact n) (fun b o hc e => ⟨o, hk b o (fun z => hc (by rw [z]; exact List.mem_cons_self)) e⟩) (fun b ys e => by rw [upd_ne (ns b _ e)]; exact e) (fun b o u e => by rw [upd_ne (ns b _ e)]; exact e)
      (fun b ps e => ⟨#[], by rw [upd_ne (ns b _ e), e]; simp⟩) (fun m hm => ?_) ho I2.bare
    · rw [List.mem_singleton] at hb
      subst hb
      exact ⟨f3, f1, f4, f5⟩
    · obtain ⟨o, es, ep, e, r⟩ := hm
      exact ⟨o, es, ep, hk _ o (Ne.symm f1) e, r⟩
  have k0 : ∀ (ob : Obj) b o, s1.heap.get? b = some o → (s1.heap.push ob).get? b = some o := fun ob b o e => Heap.get?_push_of_some _ e
  have fp := I1.fpOk (H' := H1) (b := s1.heap.objs.size) (Nat.le_refl _) (I1.hok.fresh (Nat.le_refl _))
  have hd1 : X.A.handled = none := I1.ok.hd hc
  rcases hq with hq | hq
  · obtain ⟨its, rv, pl, hz⟩ := I1.list hq
    have il := pl.isList
    have hlen := rv.length
    obtain ⟨ol, hol, _⟩ := id il
    have hla := Heap.lt_size hol
    refine call_reversed_list il (args_nil ?_)
    have I2 : Inv X pins σ H1 { s1 with heap := s1.heap.push (revObj a ((its.toArray.size : Int) - 1)) } := I1.kept (t' := s1.toks) (k0 _)
    have hs : its.toArray.size ≤ sizeLine := by rw [List.size_toArray]; omega
    have hri : (s1.heap.push (revObj a ((its.toArray.size : Int) - 1))).IsRevIter s1.heap.objs.size a ((its.toArray.size : Int) - 1 - ((0 : Nat) : Int)) := by
      rw [show (its.toArray.size : Int) - 1 - ((0 : Nat) : Int) = (its.toArray.size : Int) - 1 by omega]
      exact ⟨_, Heap.get?_push_size _ rfl, rfl, rfl⟩
    refine list_iter (T := "list_reverseiterator") (s := { s1 with heap := s1.heap.push (revObj a ((its.toArray.size : Int) - 1)) }) (Walks.listRev (A := X.A.in1.in1) hd1 s1.heap.objs.size a (Nat.ne_of_lt hla) its.toArray) hs ⟨_, Heap.get?_push_size _ rfl, rfl⟩ (by decide) (by decide) ?_ (by rw [Heap.size_push]; exact Nat.lt_succ_of_lt hla) ⟨Nat.zero_le _, hri, il.push _⟩ ?_
    · intro h tk A E Q2 hk hQ
      have hT : ({ s1 with heap := h, toks := tk } : Shared).TypeIs (.ref s1.heap.objs.size) "list_reverseiterator" := ⟨_, hk _ List.mem_cons_self _ (Heap.get?_push_size _ rfl), rfl⟩
      exact hint_lri' hT (hQ _ _)
    · exact fun h' tk acc c hk hl hacc => fin its _ s1.heap.objs.size I2 fp (by show _ < (s1.heap.push _).objs.size; rw [Heap.size_push]; exact Nat.lt_succ_self _) rv hz h' tk acc c hk hl hacc
  · obtain ⟨its, rv, pl, hz⟩ := I1.tuple hq
    have hlen := rv.length
    obtain ⟨ol, hol, _⟩ := id pl
    have hla := Heap.lt_size hol
    have hs : its.toArray.size ≤ sizeLine := by rw [List.size_toArray]; omega
    refine call_reversed_tup pl (fun A E Q k => len_tuple pl (by omega) k) (args_nil ?_)
    have I2 : Inv X pins σ H1 { s1 with heap := s1.heap.push (rtObj a ((its.toArray.size : Int) - 1)), toks := s1.toks + 1 + 1 } := I1.kept (t' := s1.toks + 1 + 1) (k0 _)
    have hri : IsRt (s1.heap.push (rtObj a ((its.toArray.size : Int) - 1))) s1.heap.objs.size a ((its.toArray.size : Int) - 1 - ((0 : Nat) : Int)) := by
      rw [show (its.toArray.size : Int) - 1 - ((0 : Nat) : Int) = (its.toArray.size : Int) - 1 by omega]
      exact ⟨_, Heap.get?_push_size _ rfl, rfl, rfl⟩
    have hri' : IsRt (s1.heap.push (rtObj a ((its.toArray.size : Int) - 1))) s1.heap.objs.size a ((its.toArray.size : Int) - 1) := ⟨_, Heap.get?_push_size _ rfl, rfl, rfl⟩
    have pl2 : IsTup (s1.heap.push (rtObj a ((its.toArray.size : Int) - 1))) a its.toArray := by
      obtain ⟨o, e, r⟩ := pl
      exact ⟨o, k0 _ _ _ e, r⟩
    refine list_iter (T := "reversed") (s := { s1 with heap := s1.heap.push (rtObj a ((its.toArray.size : Int) - 1)), toks := s1.toks + 1 + 1 }) (walks_rt (A := X.A.in1.in1) hd1 s1.heap.objs.size a (Nat.ne_of_lt hla) its.toArray hs) hs ⟨_, Heap.get?_push_size _ rfl, rfl⟩ (by decide) (by decide) ?_ (by rw [Heap.size_push]; exact Nat.lt_succ_of_lt hla) ⟨Nat.zero_le _, hri, pl2⟩ ?_
    · intro h tk A E Q2 hk hQ
      refine hint_rt (s := { s1 with heap := h, toks := tk }) (n := 0) (hri'.at fun o e => hk _ List.mem_cons_self o e) ?_ hs hQ
      obtain ⟨o, e, r⟩ := pl2
      exact ⟨o, hk _ (by simp) _ e, r⟩
    · exact fun h' tk acc c hk hl hacc => fin its _ s1.heap.objs.size I2 fp (by show _ < (s1.heap.push _).objs.size; rw [Heap.size_push]; exact Nat.lt_succ_self _) rv hz h' tk acc c hk hl hacc
end
end Kf

end
section
set_option Elab.async false
set_option linter.all false
set_option maxRecDepth 100000
set_option maxHeartbeats 4000000
namespace Kf
open PySem PySem.Spec PyProof.Rows L2
/-! ### promises of a def with defaults -/
structure PrD (P : Program) (w : World) (K : PySem.W.Frag) (mg : Str → Option Value) (base : Heap) (x : Str) (k : Nat) (ps : List Str) (dvs : List V) (sp : Sp) : Prop where
  ex : ∃ f fd ds, FnOk P w K mg base CX0 k f fd ps sp ∧ Binds K fd ps ds ∧ Vals dvs ds ∧ PySem.W.keepIn K (.ref f) = true ∧ mg x = some (.ref f)
structure DfD (K : PySem.W.Frag) (mg : Str → Option Value) (x : Str) (st : Stmt) (dvs : List V) (ps : List Str) : Prop where
  ex : ∃ f fd ds, FunD K x x (defArgs st) (defBody st) (defScope st) dvs [] f fd ∧ Binds K fd ps [] ∧ Binds K fd ps ds ∧ Vals dvs ds ∧ mg x = some (.ref f)
section
variable {P : Program} {w : World} {K : PySem.W.Frag} {mg : Str → Option Value} {base : Heap} {x : Str} {st : Stmt} {dvs : List V} {ps N : List Str} {k j : Nat} {sp sp' : Sp}
theorem DfD.ok (D : DfD K mg x st dvs ps) (S : FnScope N ps (defScope st)) (len : ∀ vs H Q E, sp vs H Q E → vs.length = ps.length)
    (hbody : ∀ (f : Addr) (cdv : Value) (A : Around) (outer : List Env) (s : Shared) (H : Hp) (vs : List V) (Q : VK) (E : XK), Room k (A.deeper (envOfC x (defScope st) s.heap.objs.size f cdv)) → sp vs H Q E →
      ∃ t, PSs (cxOf CX0 P w K mg base N x (defScope st) f cdv A outer s H E).nox (defBody st) t ∧ t { nx := fun _ H' => Q .non H', rt := Q } (start N vs) H) :
    Pr P w K mg base x (k + 1) ps sp ∧ PrD P w K mg base x (k + 1) ps dvs sp := by
  obtain ⟨f, fd, ds, F, b, bd, rd, g⟩ := D.ex
  have ok : FnOk P w K mg base CX0 (k + 1) f fd ps sp := F.ok S len fun cdv A outer s H vs Q E hr h => by
    obtain ⟨t, h1, h2⟩ := hbody f cdv A outer s H vs Q E hr h
    exact ⟨t, h1.nox, h2⟩
  obtain ⟨oc, od, dV, kV, doc, pm, an, cdv, ct, osl, e, lk, _⟩ := F.ex
  exact ⟨⟨f, fd, ok, b, F.kp, g, oc, od, osl, lk⟩, ⟨f, fd, ds, ok, bd, rd, F.kp, g⟩⟩
end
section
variable {X : Cx} {x : Str} {k j : Nat} {ps : List Str} {dvs : List V} {sp : Sp} {e : Expr} {es : List Expr} {t : TA} {p pos : Pos}
theorem pe_callPD (pr : PrD X.prog X.w X.K X.mg X.base x k ps dvs sp) (hr : Room j X.A) (ha : PA X (e :: es) t) (hk : k ≤ j := by decide) (hg : Gl X x := by rfl) (hd : (x == ("__debug__" : Str)) = false := by decide)
    (he : starEach (e :: es) X.env = (false, eval e X.env) :: starEach es X.env := by rfl) (hpl : (backTo pos (starEach es X.env)).any (·.1) = false := by rfl) : PE X (.Call (.Name x p) (e :: es) [] pos) (tCall sp dvs E0 t) := by
  obtain ⟨f, fd, ds, F, b, rd, kp, g⟩ := pr.ex
  exact pe_call F (hr.mono hk) hg g kp b rd pass0 ha hd he hpl
end
/-- both ways of binding of a def with one default, from what the top says -/
theorem DfD.mk1 {K : PySem.W.Frag} {mg : Str → Option Value} {x : Str} {st : Stmt} {p1 p2 : Str} {f T : Addr} {oc ocT : Value} {od odT an : Option Addr} {osl slT : Array (Option Value)} {kV doc pm cdv ct dv : Value} {n : Nat} {d : V}
    (l : K.lookup f = some ⟨oc, od, .func (PySem.W.fnOf x x (defArgs st) (defBody st) (defScope st) (.ref T) kV doc pm an cdv ct), osl⟩) (c : PySem.W.codeIn K cdv x = true) (k : PySem.W.keepIn K (.ref f) = true)
    (lT : K.lookup T = some ⟨ocT, odT, .seq #[dv] n, slT⟩) (hd : RelV d dv) (g : mg x = some (.ref f))
    (h1 : ∀ (T : Addr) (kV doc pm : Value) (an : Option Addr) (cdv ct : Value) (u i : Value), ∃ k, bindArgs (PySem.W.fnOf x x (defArgs st) (defBody st) (defScope st) (.ref T) kV doc pm an cdv ct) ⟨[u], []⟩ = seqItems? (.ref T) >>= k ∧ k (some #[i]) = pure (List.zip [p1, p2] [u, i]))
    (h2 : ∀ (T : Addr) (kV doc pm : Value) (an : Option Addr) (cdv ct : Value) (u v i : Value), ∃ k, bindArgs (PySem.W.fnOf x x (defArgs st) (defBody st) (defScope st) (.ref T) kV doc pm an cdv ct) ⟨[u, v], []⟩ = seqItems? (.ref T) >>= k ∧ k (some #[i]) = pure (List.zip [p1, p2] [u, v])) :
    DfD K mg x st [d] [p1, p2] := by
  have F : FunD K x x (defArgs st) (defBody st) (defScope st) [d] [] f (PySem.W.fnOf x x (defArgs st) (defBody st) (defScope st) (.ref T) kV doc pm an cdv ct) :=
    ⟨⟨oc, od, _, kV, doc, pm, an, cdv, ct, osl, rfl, l, c, .inr ⟨by simp, T, _, [dv], n, rfl, lT, rfl, .cons hd .nil⟩, .inl rfl⟩, k⟩
  obtain ⟨ds, r1, b1⟩ := F.binds1 (ps := [p1, p2]) 1 0 (by simp) rfl fun T kV doc pm an cdv ct us its h3 h4 => match us, its, h3, h4 with | [u], [i], _, _ => h1 T kV doc pm an cdv ct u i
  obtain ⟨ds2, r2, b2⟩ := F.binds1 (ps := [p1, p2]) 2 1 (by simp) rfl fun T kV doc pm an cdv ct us its h3 h4 => match us, its, h3, h4 with | [u, v], [i], _, _ => h2 T kV doc pm an cdv ct u v i
  cases r2
  exact ⟨f, _, ds, F, b2, b1, r1, g⟩
/-! ### great numbers -/
/-- // by a divisor that is not 0, below 2 ^ 9000 -/
def CDivX (_ j : Int) : Prop := j ≠ 0 ∧ j.natAbs.log2 < 9000
theorem CDivX.of {i j : Int} {b : Nat} (h : j ≠ 0) (hb : j.natAbs < 2 ^ b) (h0 : 0 < b) (h9 : b ≤ 9000) : CDivX i j := ⟨h, Nat.lt_of_lt_of_le (PySem.Flt.log2_lt_of h0 hb) h9⟩
theorem op_fdivX {X : Cx} : OpR X (binaryOp .FloorDiv) (rI CDivX fun i j => .int (i.fdiv j)) := opI fun i j _ _ _ _ _ hc q => floordiv_int hc.1 q (.inl (PyProof.noPylong_of_log2 hc.2))
/-- a statement that is not reached -/
theorem ps_dead {X : Cx} {st : Stmt} : PS X st (fun _ _ _ => False) := ⟨fun _ _ _ _ _ _ h => h.elim⟩
section
variable {P : Program} {w : World} {K : PySem.W.Frag} {mg : Str → Option Value} {base : Heap} {H : Hp} {Q : VK} {E : XK} {σ : L2.St} {D : Ends}
theorem w_gcd {a b : Int} (q : Q (.int ((Nat.gcd a.natAbs b.natAbs : Nat) : Int)) H) : rGcd [.int a, .int b] H Q := ⟨a, b, rfl, q⟩
theorem w_bits {te : TE} (h : te σ H fun x H1 => ∃ i, x = .int i ∧ Q (.int (Builtin.Int.intBits i : Nat)) H1) : tBits te σ H Q := h
theorem w_wmul {g : Int → Int → V} {i j : Int} {a b : Nat} (ha : i.natAbs < 2 ^ a) (hb : j.natAbs < 2 ^ b) (h0 : 0 < a) (h1 : 0 < b) (h : a + b ≤ 1000000) (q : Q (g i j) H) : rI CMulW g (.int i) (.int j) H Q := w_rI (wide_mul ha hb h0 h1 h) q
theorem w_wdiv {g : Int → Int → V} {i j : Int} {b : Nat} (h : j ≠ 0) (hb : j.natAbs < 2 ^ b) (h0 : 0 < b) (h9 : b ≤ 9000) (q : Q (g i j) H) : rI CDivX g (.int i) (.int j) H Q := w_rI (CDivX.of h hb h0 h9) q
theorem w_two {x y : V} {p : V → V → Prop} (h : p x y) : ∃ u v, [x, y] = [u, v] ∧ p u v := ⟨x, y, rfl, h⟩
theorem w_par {i j : Nat} {ta : TA} (h : ta σ H fun vs H1 => ∃ x y, vs = [x, y] ∧ D.nx ((σ.set i (some x)).set j (some y)) H1) : tPar i j ta D σ H := h
theorem w_gtup {n : Nat} {t : TGs} {a : Addr} {xs : List V} {QS : L2.St → Hp → Prop} (h : SqT K H a xs) (l : xs.length = n) (q : t xs σ H QS) : gTup K n t (.ref a) σ H QS := ⟨a, xs, rfl, h, l, q⟩
theorem w_glst {n : Nat} {t : TGs} {a : Addr} {xs : List V} {QS : L2.St → Hp → Prop} (h : SqL K H a xs) (l : xs.length = n) (q : t xs σ H QS) : gLst K n t (.ref a) σ H QS := ⟨a, xs, rfl, h, l, q⟩
theorem w_rng2 {ta : TA} {R : It → Hp → Prop} (h : ta σ H fun vs H1 => ∃ i j : Int, vs = [.int i, .int j] ∧ (-(2 ^ 62) ≤ i ∧ i < 2 ^ 62 ∧ -(2 ^ 62) ≤ j ∧ j < 2 ^ 62) ∧ R (Itr i (j - i).toNat) H1) : iRng2 ta σ H R := h
theorem w_rng2x {i j : Int} {p : Int → Int → Prop} (h0 : -4611686018427387904 ≤ i) (h1 : i < 4611686018427387904) (h2 : -4611686018427387904 ≤ j) (h3 : j < 4611686018427387904) (q : p i j) : ∃ i' j' : Int, [V.int i, V.int j] = [.int i', .int j'] ∧ (-(2 ^ 62) ≤ i' ∧ i' < 2 ^ 62 ∧ -(2 ^ 62) ≤ j' ∧ j' < 2 ^ 62) ∧ p i' j' := ⟨i, j, rfl, ⟨by omega, by omega, by omega, by omega⟩, q⟩
theorem w_gcons {t : TG} {u : TGs} {v : V} {r : List V} {QS : L2.St → Hp → Prop} (h : t v σ H fun σ' H' => u r σ' H' QS) : gCons t u (v :: r) σ H QS := ⟨v, r, rfl, h⟩
theorem w_gnil {QS : L2.St → Hp → Prop} (h : QS σ H) : gNil [] σ H QS := ⟨rfl, h⟩
end
theorem pg_tupK {X : Cx} {K : PySem.W.Frag} {pos : Pos} {es : List Expr} {k : Nat} {t : TGs} {n : Nat} (e : X.K = K) (hc : X.calm = true) (h : PGs X es t)
    (hn : (assignEach es X.env).length = n := by rfl) (hst : (assignEach es X.env).findIdx? (·.1) = none := by rfl) : PG X (.Tuple es k pos) (gTup K n t) := by subst e; exact pg_tup hc h hn hst
/-- behind a locked walk of the dict at d -/
theorem Ext.unlock {H H' : Hp} {d : Addr} {od : Obj} {u : HO} (e : Ext (upd H d (.frz od u)) H') (h : H d = some u) (n : ¬ Pl u) : Ext H (upd H' d u) := fun b o q => by
  by_cases hb : b = d
  · subst hb
    rw [h] at q; cases q
    exact ⟨fun _ => upd_same, fun z => absurd z n⟩
  · rw [upd_ne hb]
    exact e b o (by rw [upd_ne hb]; exact q)
theorem w_lock {t : TS} {D : Ends} {σ : L2.St} {H : Hp} {d : Addr} {u : HO} (h : H d = some u) (m : Mut (some u)) (q : ∀ od, t ⟨fun σ' H' => H' d = some (.frz od u) ∧ D.nx σ' (upd H' d u), fun v H' => H' d = some (.frz od u) ∧ D.rt v (upd H' d u), fun σ' H' => H' d = some (.frz od u) ∧ D.bk σ' (upd H' d u), fun σ' H' => H' d = some (.frz od u) ∧ D.ct σ' (upd H' d u)⟩ σ (upd H d (.frz od u))) :
    tLock t D σ H := ⟨d, u, h, m, q⟩
/-- for k in d, d locked -/
theorem for_keysK {d : Addr} {o : Obj} {kvs : List (Key × V)} {g : TG} {tb : TS} {D : Ends} {σ : L2.St} {H : Hp} (Pv : Nat → L2.St → Hp → Prop) (h0 : Pv 0 σ H) (hl : ∀ i σ H, i ≤ kvs.length → Pv i σ H → H d = some (.frz o (.dK kvs)))
    (hs : ∀ i k v σ H, kvs[i]? = some (k, v) → Pv i σ H → g (kV k) σ H fun σ2 H2 => tb { D with nx := Pv (i + 1), ct := Pv (i + 1), bk := D.nx } σ2 H2) (hd : ∀ σ H, Pv kvs.length σ H → D.nx σ H) :
    ∃ W : Nat → Nat → L2.St → Hp → Prop, (∃ m, W 0 m σ H) ∧ ∀ i m σ H, W i m σ H →
      ((Itk d o kvs).stop i H ∧ D.nx σ H) ∨ ((Itk d o kvs).go i H ∧ ∃ N : L2.St → Hp → Prop, (∀ σ' H', N σ' H' → ∃ m', m' < m ∧ W (i + 1) m' σ' H') ∧ ∀ x H', (Itk d o kvs).yld i H x H' → g x σ H' fun σ2 H2 => tb { D with nx := N, ct := N, bk := D.nx } σ2 H2) := by
  refine ⟨fun i m σ H => m = kvs.length - i ∧ i ≤ kvs.length ∧ Pv i σ H, ⟨kvs.length, by simp, Nat.zero_le _, h0⟩, ?_⟩
  rintro i m σ H ⟨rfl, hi, p⟩
  have q := hl i σ H hi p
  by_cases hlt : i < kvs.length
  · refine .inr ⟨⟨q, hlt⟩, Pv (i + 1), fun σ' H' p' => ⟨kvs.length - (i + 1), by omega, rfl, hlt, p'⟩, fun x H' y => ?_⟩
    obtain ⟨e, k, v, y, z⟩ := y
    subst e z
    exact hs i k v σ _ y p
  · have e : i = kvs.length := by omega
    subst e
    exact .inl ⟨⟨q, Nat.le_refl _⟩, hd σ H p⟩
theorem w_ikeys {td : TE} {σ : L2.St} {H : Hp} {R : It → Hp → Prop} (h : td σ H fun x H1 => ∃ d o, x = .ref d ∧ ((∃ kvs, H1 d = some (.frz o (.dK kvs)) ∧ R (Itk d o kvs) H1) ∨ ∃ kvs, H1 d = some (.frz o (.dT kvs)) ∧ R (Itkt d o kvs) H1)) : iKeys td σ H R := h
theorem w_ikeysx {H : Hp} {d : Addr} {o : Obj} {kvs : List (Key × V)} {p : It → Prop} (h : H d = some (.frz o (.dK kvs))) (q : p (Itk d o kvs)) : ∃ d' o', V.ref d = .ref d' ∧ ((∃ kvs, H d' = some (.frz o' (.dK kvs)) ∧ p (Itk d' o' kvs)) ∨ ∃ kvs, H d' = some (.frz o' (.dT kvs)) ∧ p (Itkt d' o' kvs)) :=
  ⟨d, o, rfl, .inl ⟨kvs, h, q⟩⟩
/-! ### a range by steps -/
theorem w_rng3 {ta : TA} {R : It → Hp → Prop} {σ : L2.St} {H : Hp} (h : ta σ H fun vs H1 => ∃ (i j c : Int) (n : Nat), vs = [.int i, .int j, .int c] ∧ RgC i j c n ∧ R (Itc i c n) H1) : iRng3 ta σ H R := h
theorem rg_small : ∀ n : Fin 100, Builtin.Range.small 0 ((n.val : Nat) : Int) 2 = true ∧ Builtin.Range.rangeSize 0 ((n.val : Nat) : Int) 2 = (((n.val + 1) / 2 : Nat) : Int) := by decide +kernel
theorem rg_two {n : Nat} (h : n < 100) : RgC 0 (n : Int) 2 ((n + 1) / 2) := ⟨by decide, by decide, (rg_small ⟨n, h⟩).1, (rg_small ⟨n, h⟩).2⟩
theorem lc_rc {lo c : Int} {n : Nat} {g : TG} {tt : TT} {te : TE} {vs : List Nat} {σ : L2.St} {H : Hp} {Qd : Addr → Hp → Prop} (R : Nat → List V → Hp → Prop) (h0 : R 0 [] H) (mono : ∀ i acc H1 H2, Ext H1 H2 → R i acc H1 → R i acc H2)
    (hs : ∀ i acc D H1, i < n → H D = none → H1 D = some (.lst acc) → Ext H H1 → R i acc (del H1 D) → g (.int (lo + (i : Nat) * c)) (wipe σ vs) H1 fun σ2 H2 => wipe σ2 vs = wipe σ vs ∧ tt σ2 H2 fun b H3 =>
      if b = true then te σ2 H3 fun y H4 => ∃ acc, H4 D = some (.lst acc) ∧ acc.length < sizeLine ∧ LcP H D R (i + 1) (upd H4 D (.lst (acc ++ [y]))) else LcP H D R (i + 1) H3)
    (hd : ∀ D acc H1, H D = none → H1 D = some (.lst acc) → Ext H H1 → R n acc H1 → Qd D H1) :
    ∀ D, H D = none → ∃ W : Nat → Nat → Hp → Prop, (∃ m, W 0 m (upd H D (.lst []))) ∧ ∀ i m H, W i m H →
      ((Itc lo c n).stop i H ∧ Qd D H) ∨ ((Itc lo c n).go i H ∧ ∃ Nx : Hp → Prop, (∀ H', Nx H' → ∃ m', m' < m ∧ W (i + 1) m' H') ∧ ∀ x H', (Itc lo c n).yld i H x H' → g x (wipe σ vs) H' fun σ2 H2 => wipe σ2 vs = wipe σ vs ∧ tt σ2 H2 fun b H3 =>
        if b = true then te σ2 H3 fun y H4 => ∃ acc, H4 D = some (.lst acc) ∧ acc.length < sizeLine ∧ Nx (upd H4 D (.lst (acc ++ [y]))) else Nx H3) := fun D hD => by
  refine ⟨fun i m H' => m = n - i ∧ i ≤ n ∧ LcP H D R i H', ⟨n, by simp, Nat.zero_le _, ⟨[], upd_same, Ext.new hD, by rw [del_upd, del_new hD]; exact h0⟩⟩, ?_⟩
  rintro i m H' ⟨rfl, hi, p⟩
  by_cases hlt : i < n
  · refine .inr ⟨hlt, LcP H D R (i + 1), fun H' p' => ⟨n - (i + 1), by omega, rfl, hlt, p'⟩, fun x H' y => ?_⟩
    obtain ⟨e, y⟩ := y
    subst e y
    obtain ⟨acc, h1, e1, r1⟩ := p
    exact hs i acc D _ hlt hD h1 e1 r1
  · have e : i = n := by omega
    subst e
    obtain ⟨acc, h1, e1, r1⟩ := p
    exact .inl ⟨Nat.le_refl _, hd D acc H' hD h1 e1 (mono _ _ _ _ del_sub r1)⟩
/-! ### the last pieces of a list -/
theorem atI_mid {α : Type} {f : α → V} {pre suf : List α} {c : α} {i : Int} (h : i = (pre.length : Nat)) : atI ((pre ++ c :: suf).map f) i = some (f c) := by
  subst h
  refine atI_nat ?_
  rw [List.map_append, List.getElem?_append_right (by simp), List.length_map, Nat.sub_self]; rfl
end Kf

end
section
set_option Elab.async false
set_option linter.all false
set_option maxRecDepth 100000
set_option maxHeartbeats 4000000
local macro_rules | `(tactic| walk_at "npl") => `(tactic| first | exact Kf.npl rfl | exact Kf.npl_ints _ | exact Kf.npl_one _ _ | exact Kf.npl_refs _ | assumption)
local macro_rules | `(tactic| walk_at "nn") => `(tactic| first
  | assumption
  | (refine' Kf.Ext.non ?nne ?nnh; (case nne => assumption); (case nnh => walk_at "nn")))
local macro_rules | `(tactic| walk_at "ext") => `(tactic| first
  | assumption
  | exact Kf.Ext.refl
  | (refine' Kf.Ext.newer ?exa ?exn; (case exn => assumption); (case exa => walk_at "ext"))
  | (refine' Kf.Ext.own ?exa ?exn; (case exn => walk_at "nn"); (case exa => walk_at "ext"))
  | (refine' Kf.Ext.trans ?exa ?exb; (case exb => assumption); (case exa => walk_at "ext")))
local macro_rules | `(tactic| walk_at "pool") => `(tactic| first
  | assumption
  | (refine' Kf.PoolAt.ext ?plh ?ple; (case plh => assumption); (case ple => walk_at "ext"))
  | (refine' Kf.PoolAt.upd ?plh ?plo ?pln; (case plo => assumption); (case pln => walk_at "npl"); (case plh => walk_at "pool")))
local macro_rules | `(tactic| walk_at "lk") => `(tactic| first
  | assumption
  | exact L2.upd_same
  | (refine' Kf.upd_old ?lkn ?lkh; (case lkn => assumption); (case lkh => walk_at "lk"))
  | (refine' Kf.upd_oth ?lkn ?lkh; (case lkn => (first | assumption | (apply Ne.symm; assumption))); (case lkh => walk_at "lk"))
  | (refine' Kf.Ext.get ?lke ?lkh ?lkn; (case lke => assumption); (case lkh => walk_at "lk"); (case lkn => walk_at "npl"))
  | (refine' L2.Same.at ?lke ?lkh; (case lke => assumption); (case lkh => walk_at "lk")))
local macro_rules | `(tactic| walk_at "sq") => `(tactic| first
  | assumption
  | (refine' L2.SqL.of ?sqh; (case sqh => walk_at "lk"))
  | (refine' L2.SqT.of ?sqh; (case sqh => walk_at "lk"))
  | (refine' Kf.Ext.seqL ?sqe ?sqh ?sqn; (case sqh => assumption); (case sqe => walk_at "ext"); (case sqn => walk_at "npl"))
  | (refine' Kf.Ext.seqT ?sqe ?sqh; (case sqh => assumption); (case sqe => walk_at "ext")))
local macro_rules | `(tactic| walk_at "at") => `(tactic| first | exact L2.atI_nat (j := 0) rfl | exact L2.atI_nat (j := 1) rfl | exact L2.atI_nat (j := 2) rfl | exact L2.atI_nat (j := 3) rfl | exact L2.atI_nat (j := 4) rfl | assumption)
local macro_rules | `(tactic| walk_at "ixn") => `(tactic| first | exact Kf.ixN_nat (j := 0) rfl | exact Kf.ixN_nat (j := 1) rfl | exact Kf.ixN_nat (j := 2) rfl | exact Kf.ixN_nat (j := 3) rfl | assumption)
local macro_rules | `(tactic| walk_at "set") => `(tactic| (first | (simp only [List.set_cons_succ, List.set_cons_zero]; rfl) | rfl))
local macro_rules | `(tactic| walk_at "om") => `(tactic| first | decide | omega | (simp only [List.length_map, List.length_cons, List.length_nil] at *; omega))
local macro_rules | `(tactic| walk_at "calls") => `(tactic| first
  | (with_reducible refine' Kf.call_take ?clp ?cla ?clb ?clq; (case clp => walk_at "pool"); (case cla => walk_at "om"); (case clb => walk_at "om"); intro r H' hE h0 h1)
  | (with_reducible refine' Kf.call_pool ?cls ?cla ?clq; (case cls => walk_at "sq"); (case cla => walk_at "om"); intro p H' hE hN hP)
  | (with_reducible refine' Kf.call_turn ?cls ?clp ?cla ?clq; (case cls => walk_at "sq"); (case clp => walk_at "pool"); (case cla => walk_at "om"); intro u H' hE hP))
local macro_rules | `(tactic| walk_at "side") => `(tactic| first
  | exact Kf.cmul_fmod (by decide) (by decide)
  | exact rfl
  | decide
  | omega
  | assumption
  | (refine ⟨?_, ?_⟩ <;> decide)
  | (refine ⟨?_, ?_, ?_⟩ <;> decide)
  | (refine ⟨?_, ?_⟩ <;> omega)
  | (refine Or.inl ⟨?_, ?_⟩ <;> decide)
  | (refine Or.inr ⟨?_, ?_⟩ <;> decide)
  | (refine Or.inl ⟨?_, ?_⟩ <;> omega)
  | (refine Or.inr ⟨?_, ?_⟩ <;> omega))
local macro_rules | `(tactic| walk_at "kit") => `(tactic| first | exact Kf.isi_int_int | exact Kf.isi_int_bool | exact Kf.isi_int_str | exact Kf.isi_int_list | exact Kf.isi_int_tuple | exact Kf.isi_bool_int | exact Kf.isi_bool_bool | exact Kf.isi_bool_str | exact Kf.isi_bool_list | exact Kf.isi_bool_tuple | exact Kf.isi_str_int | exact Kf.isi_str_bool | exact Kf.isi_str_str | exact Kf.isi_str_list | exact Kf.isi_str_tuple | exact Kf.isi_non_list | exact Kf.isi_non_tuple | exact Kf.isi_list_list | exact Kf.isi_list_tuple | exact Kf.isi_tuple_list | exact Kf.isi_tuple_tuple | exact Kf.isi_dict_dict)
local macro_rules | `(tactic| walk_at "ty") => `(tactic| first
  | exact L2.TyX.base (L2.TyOf.int _)
  | exact L2.TyX.base (L2.TyOf.bl _)
  | exact L2.TyX.base (L2.TyOf.str _)
  | exact L2.TyX.base L2.TyOf.non
  | (refine' L2.TyX.base (L2.TyOf.lst ?tyh); (case tyh => walk_at "lk"))
  | (refine' L2.TyX.base (L2.TyOf.tup ?tyh); (case tyh => walk_at "lk"))
  | (refine' L2.TyX.base (L2.TyOf.dK ?tyh); (case tyh => walk_at "lk")))
local macro_rules | `(tactic| walk_at "om2") => `(tactic| first | assumption | decide | omega)
local macro_rules | `(tactic| walk_at "st") => `(tactic| with_reducible first
  | (refine Kf.w_var rfl ?_)
  | (refine Kf.w_c ?_)
  | (refine Kf.w_seq ?_)
  | (refine Kf.w_asg ?_)
  | (refine' Kf.w_gname ?sth ?_; (case sth => with_unfolding_all walk_at "set"))
  | (refine Kf.w_op ?_)
  | (refine Kf.w_un ?_)
  | (refine Kf.w_rU ?_)
  | (refine Kf.w_rI0 ?_)
  | (refine' Kf.w_rI ?sth ?_; (case sth => with_unfolding_all walk_at "side"))
  | (refine' Kf.w_rEq ?sth ?_; (case sth => with_unfolding_all rfl))
  | (refine' Kf.w_rNe ?sth ?_; (case sth => with_unfolding_all rfl))
  | (refine Kf.w_tTest ?_)
  | (refine Kf.w_tB ?_)
  | (refine Kf.w_exbl ?_)
  | (refine Kf.w_exint ?_)
  | (refine Kf.w_ifS ?_)
  | (refine Kf.w_ret ?_)
  | (refine Kf.w_retN ?_)
  | (refine Kf.w_drop ?_)
  | (refine Kf.w_and ?_)
  | (refine Kf.w_or ?_)
  | (refine Kf.w_not ?_)
  | (refine Kf.w_andV ?_)
  | (refine Kf.w_orV ?_)
  | (refine Kf.w_notV ?_)
  | (refine Kf.w_if ?_)
  | (refine Kf.w_lc ?_)
  | (refine Kf.w_for ?_)
  | (refine Kf.w_rng1 ?_)
  | (refine' Kf.w_rng1x ?sth ?stg ?_; (case sth => with_unfolding_all walk_at "om"); (case stg => with_unfolding_all walk_at "om"))
  | (refine Kf.w_ilist ?_)
  | (refine Kf.w_iseq ?_)
  | (refine Kf.w_itup ?_)
  | (refine' Kf.w_ilistx ?sth ?_; (case sth => with_unfolding_all walk_at "sq"))
  | (refine' Kf.w_itupx ?sth ?_; (case sth => with_unfolding_all walk_at "sq"))
  | (refine' Kf.w_wipe ?sth ?_; (case sth => with_unfolding_all rfl))
  | (refine Kf.w_yes ?_)
  | (refine' Kf.w_isi ?sth ?stg ?_; (case sth => with_unfolding_all walk_at "ty"); (case stg => walk_at "kit"))
  | (refine Kf.w_isN ?_)
  | (refine Kf.w_notN ?_)
  | (refine Kf.w_cb ?_)
  | (refine Kf.w_nil ?_)
  | (refine Kf.w_cons ?_)
  | (refine Kf.w_tup ?_)
  | (refine Kf.w_lst ?_)
  | (refine' Kf.w_lines ?sth ?_; (case sth => with_unfolding_all rfl))
  | (refine Kf.w_call ?_)
  | (refine Kf.w_next ?_)
  | (refine Kf.w_break ?_)
  | (refine Kf.w_cont ?_)
  | (refine Kf.w_dnewK ?_)
  | (refine Kf.w_ikeys ?_)
  | (refine Kf.w_dput ?_)
  | (refine Kf.w_dget2 ?_)
  | (refine Kf.w_dget ?_)
  | (refine Kf.w_sl ?_)
  | (refine Kf.w_nopart ?_)
  | (refine Kf.w_part ?_)
  | (refine Kf.w_bm ?_)
  | (refine Kf.w_bm0 ?_)
  | (refine' Kf.w_bmL ?sth ?_; (case sth => with_unfolding_all walk_at "lk"))
  | (refine' Kf.w_cat ?sth ?stg ?stf ?_; (case sth => with_unfolding_all walk_at "lk"); (case stg => with_unfolding_all walk_at "lk"); (case stf => with_unfolding_all walk_at "om"))
  | (refine' Kf.w_slL ?sth ?_; (case sth => with_unfolding_all walk_at "sq"))
  | (refine' Kf.w_inL ?sth ?_; (case sth => with_unfolding_all walk_at "sq"))
  | (refine' Kf.w_inT ?sth ?_; (case sth => with_unfolding_all walk_at "sq"))
  | (refine' Kf.w_ninL ?sth ?_; (case sth => with_unfolding_all walk_at "sq"))
  | (refine' Kf.w_ninT ?sth ?_; (case sth => with_unfolding_all walk_at "sq"))
  | (refine' Kf.w_listof ?sth ?_; (case sth => with_unfolding_all walk_at "sq"))
  | (refine' Kf.w_tupof ?sth ?_; (case sth => with_unfolding_all walk_at "sq"))
  | (refine Kf.w_listRev ?_)
  | (refine Kf.w_gsub ?_)
  | (refine' Kf.w_ixL ?sth ?stg ?_; (case sth => with_unfolding_all walk_at "sq"); (case stg => with_unfolding_all walk_at "at"))
  | (refine' Kf.w_ixT ?sth ?stg ?_; (case sth => with_unfolding_all walk_at "sq"); (case stg => with_unfolding_all walk_at "at"))
  | (refine' Kf.w_setL ?sth ?stg ?_; (case sth => with_unfolding_all walk_at "lk"); (case stg => with_unfolding_all walk_at "ixn"))
  | (refine' Kf.w_len ?sth ?_; (case sth => with_unfolding_all walk_at "sq"))
  | (refine' Kf.w_lenT ?sth ?_; (case sth => with_unfolding_all walk_at "sq"))
  | (refine Kf.w_int1 ?_)
  | (refine Kf.w_intb ?_)
  | (refine Kf.w_abs ?_)
  | (refine Kf.w_aug rfl ?_)
  | (refine Kf.w_par ?_)
  | (refine' Kf.w_gtup ?sth ?stg ?_; (case sth => with_unfolding_all walk_at "sq"); (case stg => with_unfolding_all exact rfl))
  | (refine' Kf.w_glst ?sth ?stg ?_; (case sth => with_unfolding_all walk_at "sq"); (case stg => with_unfolding_all exact rfl))
  | (refine Kf.w_rng2 ?_)
  | (refine Kf.w_rng3 ?_)
  | (refine' Kf.w_rng2x ?sth ?stg ?stf ?ste ?_; (case sth => with_unfolding_all walk_at "om"); (case stg => with_unfolding_all walk_at "om"); (case stf => with_unfolding_all walk_at "om"); (case ste => with_unfolding_all walk_at "om"))
  | (refine Kf.w_gcons ?_)
  | (refine Kf.w_gnil ?_)
  | (refine Kf.w_gcd ?_)
  | (refine Kf.w_bits ?_)
  | (refine Kf.w_two ?_)
  | (refine Kf.w_ipI ?_)
  | (refine L2.iteT ?_)
  | (refine L2.iteF ?_)
  | (refine Kf.iteNT ?_)
  | (refine Kf.iteNF ?_)
  | (refine' Kf.ite_decT ?sth ?_; (case sth => exact rfl))
  | (refine' Kf.ite_decF ?sth ?_; (case sth => with_unfolding_all (intro e; cases e; done)))
  | (refine' Kf.ite_ndecF ?sth ?_; (case sth => exact rfl))
  | (refine' Kf.ite_ndecT ?sth ?_; (case sth => with_unfolding_all (intro e; cases e; done)))
  | (refine' Kf.ite_viT ?sth ?_; (case sth => (with_unfolding_all walk_at "om2")))
  | (refine' Kf.ite_viF ?sth ?_; (case sth => (with_unfolding_all walk_at "om2")))
  | (refine' Kf.ite_nviT ?sth ?_; (case sth => (with_unfolding_all walk_at "om2")))
  | (refine' Kf.ite_nviF ?sth ?_; (case sth => (with_unfolding_all walk_at "om2")))
  | (refine' Kf.ite_decT ?sth ?_; (case sth => (with_unfolding_all walk_at "om2")))
  | (refine' Kf.ite_decF ?sth ?_; (case sth => (with_unfolding_all walk_at "om2")))
  | with_unfolding_all walk_at "calls")
local macro_rules | `(tactic| walk_at "go") => `(tactic| repeat walk_at "st")

namespace Kf
open PySem PySem.Spec PyProof.Rows L2
def topS (i : Nat) : Stmt := PySem.Challenge.pw_solvedpapers_k01_forms_by_roads.main.body.getD i (.Pass ⟨0, 0, 0, 0⟩)
abbrev s__law_pool : Stmt := topS 15
abbrev N__law_pool : List Str := ["script", "k", "cell", "spare"]
abbrev P__law_pool : List Str := ["script", "k"]
theorem sc__law_pool : FnScope N__law_pool P__law_pool (defScope s__law_pool) := ⟨rfl, rfl, rfl, by decide +kernel, rfl, by decide +kernel, by decide +kernel⟩
section
variable {P : Program} {w : World} {K : PySem.W.Frag} {mg : Str → Option Value} {base : Heap}
/-- a pool is made -/
def spPool (K : PySem.W.Frag) : Sp := fun vs H Q _ => ∃ (a : Addr) (ns : List Int) (k : Int), vs = [.ref a, .int k] ∧ SqL K H a (ns.map V.int) ∧ 0 ≤ k ∧ ∀ p H', Ext H H' → H p = none → PoolAt H' (.ref p) → Q (.ref p) H'
theorem atI_ints {ns : List Int} {k : Int} (h0 : 0 ≤ k) (h1 : k < ((ns.map V.int).length : Nat)) : atI (ns.map V.int) k = some (.int (ns.getD k.toNat 0)) := by
  rw [List.length_map] at h1
  have hk : k.toNat < ns.length := by omega
  have e : k = ((k.toNat : Nat) : Int) := by omega
  rw [e]
  refine atI_nat (j := k.toNat) ?_
  rw [List.getElem?_map, List.getElem?_eq_getElem hk, Int.toNat_natCast]
  simp [hk]
theorem ok_pool (D : Df K mg "_law_pool" s__law_pool P__law_pool) (b_len : mg "len" = none) : Pr P w K mg base "_law_pool" 1 P__law_pool (spPool K) := by
  refine D.ok sc__law_pool (fun vs H Q E h => ?_) (fun f cdv A outer s H vs Q E hr h => ?_)
  · obtain ⟨a, ns, k, rfl, _⟩ := h; rfl
  obtain ⟨a, ns, k, rfl, hS, h0, q⟩ := h
  have nd := sc__law_pool.nd
  have fin : ∀ (c s : Int) (b : Bool) (p : Addr), H p = none → Q (.ref p) (upd H p (.lst [.int c, .int 0, .bl b, .int s])) := fun c s b p hp => q p _ (Ext.new hp) hp ⟨p, _, _, _, _, rfl, L2.upd_same⟩
  refine ⟨_, (pss_cons (ps_set (i := 2) nd rfl (Or.inl rfl) (pe_op op_add (pe_op op_mul pe_int (pv 1)) pe_int))
      (pss_cons (ps_set (i := 3) nd rfl (Or.inl rfl) (pe_op op_add (pe_op op_mul pe_int (pv 1)) pe_int))
      (pss_cons (ps_if (pt_cmpR op_lt (pv 1) (pe_callB (call_lenK (K := K) rfl) (by rfl) b_len PySem.boot_len (pa_cons (pv 0) pa_nil)) (nomark _)) (pss_one (ps_set (i := 2) nd rfl (Or.inl rfl) (pe_ix (ix_listK (K := K) rfl) (pv 0) (pv 1) (fun _ _ => rfl)))) pss_nil)
      (pss_cons (ps_if (pt_cmpR op_lt (pe_op op_add (pv 1) pe_int) (pe_callB (call_lenK (K := K) rfl) (by rfl) b_len PySem.boot_len (pa_cons (pv 0) pa_nil)) (nomark _)) (pss_one (ps_set (i := 3) nd rfl (Or.inl rfl) (pe_ix (ix_listK (K := K) rfl) (pv 0) (pe_op op_add (pv 1) pe_int) (fun _ _ => rfl)))) pss_nil)
      (pss_one (ps_ret (pe_lst (pa_cons (pv 2) (pa_cons pe_int (pa_cons (pe_cmpR op_ge (pv 2) (pe_op op_pow pe_int pe_int) (nomark _)) (pa_cons (pv 3) pa_nil))))))))))), ?_⟩
  refine w_start (σ := [some _, some _, none, none]) rfl ?_
  walk_at "go"
  refine ite_d (fun c1 => ?_) (fun c1 => ?_)
  · walk_at "go"
    refine w_ixL hS (atI_ints h0 c1) ?_
    walk_at "go"
    refine ite_d (fun c2 => ?_) (fun c2 => ?_)
    · walk_at "go"
      refine w_ixL hS (atI_ints (by omega) c2) ?_
      walk_at "go"
      exact fun p hp => fin _ _ _ _ hp
    · walk_at "go"
      exact fun p hp => fin _ _ _ _ hp
  · walk_at "go"
    exact fun p hp => fin _ _ _ _ hp
end
end Kf

end
section
set_option Elab.async false
set_option linter.all false
set_option maxRecDepth 100000
set_option maxHeartbeats 4000000
namespace Kf
open PySem PySem.Spec PyProof.Rows L2
abbrev s__law_take : Stmt := topS 16
abbrev N__law_take : List Str := ["pool", "size", "k", "cell", "mixed"]
abbrev P__law_take : List Str := ["pool", "size"]
theorem sc__law_take : FnScope N__law_take P__law_take (defScope s__law_take) := ⟨rfl, rfl, rfl, by decide +kernel, rfl, by decide +kernel, by decide +kernel⟩
end Kf
local macro_rules | `(tactic| walk_at "npl") => `(tactic| first | exact Kf.npl rfl | exact Kf.npl_ints _ | exact Kf.npl_one _ _ | exact Kf.npl_refs _ | assumption)
local macro_rules | `(tactic| walk_at "nn") => `(tactic| first
  | assumption
  | (refine' Kf.Ext.non ?nne ?nnh; (case nne => assumption); (case nnh => walk_at "nn")))
local macro_rules | `(tactic| walk_at "ext") => `(tactic| first
  | assumption
  | exact Kf.Ext.refl
  | (refine' Kf.Ext.newer ?exa ?exn; (case exn => assumption); (case exa => walk_at "ext"))
  | (refine' Kf.Ext.own ?exa ?exn; (case exn => walk_at "nn"); (case exa => walk_at "ext"))
  | (refine' Kf.Ext.trans ?exa ?exb; (case exb => assumption); (case exa => walk_at "ext")))
local macro_rules | `(tactic| walk_at "pool") => `(tactic| first
  | assumption
  | (refine' Kf.PoolAt.ext ?plh ?ple; (case plh => assumption); (case ple => walk_at "ext"))
  | (refine' Kf.PoolAt.upd ?plh ?plo ?pln; (case plo => assumption); (case pln => walk_at "npl"); (case plh => walk_at "pool")))
local macro_rules | `(tactic| walk_at "lk") => `(tactic| first
  | assumption
  | exact L2.upd_same
  | (refine' Kf.upd_old ?lkn ?lkh; (case lkn => assumption); (case lkh => walk_at "lk"))
  | (refine' Kf.upd_oth ?lkn ?lkh; (case lkn => (first | assumption | (apply Ne.symm; assumption))); (case lkh => walk_at "lk"))
  | (refine' Kf.Ext.get ?lke ?lkh ?lkn; (case lke => assumption); (case lkh => walk_at "lk"); (case lkn => walk_at "npl"))
  | (refine' L2.Same.at ?lke ?lkh; (case lke => assumption); (case lkh => walk_at "lk")))
local macro_rules | `(tactic| walk_at "sq") => `(tactic| first
  | assumption
  | (refine' L2.SqL.of ?sqh; (case sqh => walk_at "lk"))
  | (refine' L2.SqT.of ?sqh; (case sqh => walk_at "lk"))
  | (refine' Kf.Ext.seqL ?sqe ?sqh ?sqn; (case sqh => assumption); (case sqe => walk_at "ext"); (case sqn => walk_at "npl"))
  | (refine' Kf.Ext.seqT ?sqe ?sqh; (case sqh => assumption); (case sqe => walk_at "ext")))
local macro_rules | `(tactic| walk_at "at") => `(tactic| first | exact L2.atI_nat (j := 0) rfl | exact L2.atI_nat (j := 1) rfl | exact L2.atI_nat (j := 2) rfl | exact L2.atI_nat (j := 3) rfl | exact L2.atI_nat (j := 4) rfl | assumption)
local macro_rules | `(tactic| walk_at "ixn") => `(tactic| first | exact Kf.ixN_nat (j := 0) rfl | exact Kf.ixN_nat (j := 1) rfl | exact Kf.ixN_nat (j := 2) rfl | exact Kf.ixN_nat (j := 3) rfl | assumption)
local macro_rules | `(tactic| walk_at "set") => `(tactic| (first | (simp only [List.set_cons_succ, List.set_cons_zero]; rfl) | rfl))
local macro_rules | `(tactic| walk_at "om") => `(tactic| first | decide | omega | (simp only [List.length_map, List.length_cons, List.length_nil] at *; omega))
local macro_rules | `(tactic| walk_at "calls") => `(tactic| first
  | (with_reducible refine' Kf.call_take ?clp ?cla ?clb ?clq; (case clp => walk_at "pool"); (case cla => walk_at "om"); (case clb => walk_at "om"); intro r H' hE h0 h1)
  | (with_reducible refine' Kf.call_pool ?cls ?cla ?clq; (case cls => walk_at "sq"); (case cla => walk_at "om"); intro p H' hE hN hP)
  | (with_reducible refine' Kf.call_turn ?cls ?clp ?cla ?clq; (case cls => walk_at "sq"); (case clp => walk_at "pool"); (case cla => walk_at "om"); intro u H' hE hP))
local macro_rules | `(tactic| walk_at "side") => `(tactic| first
  | exact Kf.cmul_fmod (by decide) (by decide)
  | exact rfl
  | decide
  | omega
  | assumption
  | (refine ⟨?_, ?_⟩ <;> decide)
  | (refine ⟨?_, ?_, ?_⟩ <;> decide)
  | (refine ⟨?_, ?_⟩ <;> omega)
  | (refine Or.inl ⟨?_, ?_⟩ <;> decide)
  | (refine Or.inr ⟨?_, ?_⟩ <;> decide)
  | (refine Or.inl ⟨?_, ?_⟩ <;> omega)
  | (refine Or.inr ⟨?_, ?_⟩ <;> omega))
local macro_rules | `(tactic| walk_at "kit") => `(tactic| first | exact Kf.isi_int_int | exact Kf.isi_int_bool | exact Kf.isi_int_str | exact Kf.isi_int_list | exact Kf.isi_int_tuple | exact Kf.isi_bool_int | exact Kf.isi_bool_bool | exact Kf.isi_bool_str | exact Kf.isi_bool_list | exact Kf.isi_bool_tuple | exact Kf.isi_str_int | exact Kf.isi_str_bool | exact Kf.isi_str_str | exact Kf.isi_str_list | exact Kf.isi_str_tuple | exact Kf.isi_non_list | exact Kf.isi_non_tuple | exact Kf.isi_list_list | exact Kf.isi_list_tuple | exact Kf.isi_tuple_list | exact Kf.isi_tuple_tuple | exact Kf.isi_dict_dict)
local macro_rules | `(tactic| walk_at "ty") => `(tactic| first
  | exact L2.TyX.base (L2.TyOf.int _)
  | exact L2.TyX.base (L2.TyOf.bl _)
  | exact L2.TyX.base (L2.TyOf.str _)
  | exact L2.TyX.base L2.TyOf.non
  | (refine' L2.TyX.base (L2.TyOf.lst ?tyh); (case tyh => walk_at "lk"))
  | (refine' L2.TyX.base (L2.TyOf.tup ?tyh); (case tyh => walk_at "lk"))
  | (refine' L2.TyX.base (L2.TyOf.dK ?tyh); (case tyh => walk_at "lk")))
local macro_rules | `(tactic| walk_at "om2") => `(tactic| first | assumption | decide | omega)
local macro_rules | `(tactic| walk_at "st") => `(tactic| with_reducible first
  | (refine Kf.w_var rfl ?_)
  | (refine Kf.w_c ?_)
  | (refine Kf.w_seq ?_)
  | (refine Kf.w_asg ?_)
  | (refine' Kf.w_gname ?sth ?_; (case sth => with_unfolding_all walk_at "set"))
  | (refine Kf.w_op ?_)
  | (refine Kf.w_un ?_)
  | (refine Kf.w_rU ?_)
  | (refine Kf.w_rI0 ?_)
  | (refine' Kf.w_rI ?sth ?_; (case sth => with_unfolding_all walk_at "side"))
  | (refine' Kf.w_rEq ?sth ?_; (case sth => with_unfolding_all rfl))
  | (refine' Kf.w_rNe ?sth ?_; (case sth => with_unfolding_all rfl))
  | (refine Kf.w_tTest ?_)
  | (refine Kf.w_tB ?_)
  | (refine Kf.w_exbl ?_)
  | (refine Kf.w_exint ?_)
  | (refine Kf.w_ifS ?_)
  | (refine Kf.w_ret ?_)
  | (refine Kf.w_retN ?_)
  | (refine Kf.w_drop ?_)
  | (refine Kf.w_and ?_)
  | (refine Kf.w_or ?_)
  | (refine Kf.w_not ?_)
  | (refine Kf.w_andV ?_)
  | (refine Kf.w_orV ?_)
  | (refine Kf.w_notV ?_)
  | (refine Kf.w_if ?_)
  | (refine Kf.w_lc ?_)
  | (refine Kf.w_for ?_)
  | (refine Kf.w_rng1 ?_)
  | (refine' Kf.w_rng1x ?sth ?stg ?_; (case sth => with_unfolding_all walk_at "om"); (case stg => with_unfolding_all walk_at "om"))
  | (refine Kf.w_ilist ?_)
  | (refine Kf.w_iseq ?_)
  | (refine Kf.w_itup ?_)
  | (refine' Kf.w_ilistx ?sth ?_; (case sth => with_unfolding_all walk_at "sq"))
  | (refine' Kf.w_itupx ?sth ?_; (case sth => with_unfolding_all walk_at "sq"))
  | (refine' Kf.w_wipe ?sth ?_; (case sth => with_unfolding_all rfl))
  | (refine Kf.w_yes ?_)
  | (refine' Kf.w_isi ?sth ?stg ?_; (case sth => with_unfolding_all walk_at "ty"); (case stg => walk_at "kit"))
  | (refine Kf.w_isN ?_)
  | (refine Kf.w_notN ?_)
  | (refine Kf.w_cb ?_)
  | (refine Kf.w_nil ?_)
  | (refine Kf.w_cons ?_)
  | (refine Kf.w_tup ?_)
  | (refine Kf.w_lst ?_)
  | (refine' Kf.w_lines ?sth ?_; (case sth => with_unfolding_all rfl))
  | (refine Kf.w_call ?_)
  | (refine Kf.w_next ?_)
  | (refine Kf.w_break ?_)
  | (refine Kf.w_cont ?_)
  | (refine Kf.w_dnewK ?_)
  | (refine Kf.w_ikeys ?_)
  | (refine Kf.w_dput ?_)
  | (refine Kf.w_dget2 ?_)
  | (refine Kf.w_dget ?_)
  | (refine Kf.w_sl ?_)
  | (refine Kf.w_nopart ?_)
  | (refine Kf.w_part ?_)
  | (refine Kf.w_bm ?_)
  | (refine Kf.w_bm0 ?_)
  | (refine' Kf.w_bmL ?sth ?_; (case sth => with_unfolding_all walk_at "lk"))
  | (refine' Kf.w_cat ?sth ?stg ?stf ?_; (case sth => with_unfolding_all walk_at "lk"); (case stg => with_unfolding_all walk_at "lk"); (case stf => with_unfolding_all walk_at "om"))
  | (refine' Kf.w_slL ?sth ?_; (case sth => with_unfolding_all walk_at "sq"))
  | (refine' Kf.w_inL ?sth ?_; (case sth => with_unfolding_all walk_at "sq"))
  | (refine' Kf.w_inT ?sth ?_; (case sth => with_unfolding_all walk_at "sq"))
  | (refine' Kf.w_ninL ?sth ?_; (case sth => with_unfolding_all walk_at "sq"))
  | (refine' Kf.w_ninT ?sth ?_; (case sth => with_unfolding_all walk_at "sq"))
  | (refine' Kf.w_listof ?sth ?_; (case sth => with_unfolding_all walk_at "sq"))
  | (refine' Kf.w_tupof ?sth ?_; (case sth => with_unfolding_all walk_at "sq"))
  | (refine Kf.w_listRev ?_)
  | (refine Kf.w_gsub ?_)
  | (refine' Kf.w_ixL ?sth ?stg ?_; (case sth => with_unfolding_all walk_at "sq"); (case stg => with_unfolding_all walk_at "at"))
  | (refine' Kf.w_ixT ?sth ?stg ?_; (case sth => with_unfolding_all walk_at "sq"); (case stg => with_unfolding_all walk_at "at"))
  | (refine' Kf.w_setL ?sth ?stg ?_; (case sth => with_unfolding_all walk_at "lk"); (case stg => with_unfolding_all walk_at "ixn"))
  | (refine' Kf.w_len ?sth ?_; (case sth => with_unfolding_all walk_at "sq"))
  | (refine' Kf.w_lenT ?sth ?_; (case sth => with_unfolding_all walk_at "sq"))
  | (refine Kf.w_int1 ?_)
  | (refine Kf.w_intb ?_)
  | (refine Kf.w_abs ?_)
  | (refine Kf.w_aug rfl ?_)
  | (refine Kf.w_par ?_)
  | (refine' Kf.w_gtup ?sth ?stg ?_; (case sth => with_unfolding_all walk_at "sq"); (case stg => with_unfolding_all exact rfl))
  | (refine' Kf.w_glst ?sth ?stg ?_; (case sth => with_unfolding_all walk_at "sq"); (case stg => with_unfolding_all exact rfl))
  | (refine Kf.w_rng2 ?_)
  | (refine Kf.w_rng3 ?_)
  | (refine' Kf.w_rng2x ?sth ?stg ?stf ?ste ?_; (case sth => with_unfolding_all walk_at "om"); (case stg => with_unfolding_all walk_at "om"); (case stf => with_unfolding_all walk_at "om"); (case ste => with_unfolding_all walk_at "om"))
  | (refine Kf.w_gcons ?_)
  | (refine Kf.w_gnil ?_)
  | (refine Kf.w_gcd ?_)
  | (refine Kf.w_bits ?_)
  | (refine Kf.w_two ?_)
  | (refine Kf.w_ipI ?_)
  | (refine L2.iteT ?_)
  | (refine L2.iteF ?_)
  | (refine Kf.iteNT ?_)
  | (refine Kf.iteNF ?_)
  | (refine' Kf.ite_decT ?sth ?_; (case sth => exact rfl))
  | (refine' Kf.ite_decF ?sth ?_; (case sth => with_unfolding_all (intro e; cases e; done)))
  | (refine' Kf.ite_ndecF ?sth ?_; (case sth => exact rfl))
  | (refine' Kf.ite_ndecT ?sth ?_; (case sth => with_unfolding_all (intro e; cases e; done)))
  | (refine' Kf.ite_viT ?sth ?_; (case sth => (with_unfolding_all walk_at "om2")))
  | (refine' Kf.ite_viF ?sth ?_; (case sth => (with_unfolding_all walk_at "om2")))
  | (refine' Kf.ite_nviT ?sth ?_; (case sth => (with_unfolding_all walk_at "om2")))
  | (refine' Kf.ite_nviF ?sth ?_; (case sth => (with_unfolding_all walk_at "om2")))
  | (refine' Kf.ite_decT ?sth ?_; (case sth => (with_unfolding_all walk_at "om2")))
  | (refine' Kf.ite_decF ?sth ?_; (case sth => (with_unfolding_all walk_at "om2")))
  | with_unfolding_all walk_at "calls")
local macro_rules | `(tactic| walk_at "go") => `(tactic| repeat walk_at "st")

namespace Kf
open PySem PySem.Spec PyProof.Rows L2
section
variable {P : Program} {w : World} {K : PySem.W.Frag} {mg : Str → Option Value} {base : Heap}
/-- a number below n is drawn -/
def spTake (K : PySem.W.Frag) : Sp := fun vs H Q _ => ∃ (v : V) (n : Int), vs = [v, .int n] ∧ PoolAt H v ∧ 0 < n ∧ n < 1073741824 ∧ ∀ r H', Ext H H' → 0 ≤ r → r < n → Q (.int r) H'
theorem ok_take (D : Df K mg "_law_take" s__law_take P__law_take) (b_int : mg "int" = none) : Pr P w K mg base "_law_take" 1 P__law_take (spTake K) := by
  refine D.ok sc__law_take (fun vs H Q E h => ?_) (fun f cdv A outer s H vs Q E hr h => ?_)
  · obtain ⟨v, n, rfl, _⟩ := h; rfl
  obtain ⟨v, n, rfl, ⟨a, c, k, b, sp, rfl, hH⟩, n0, n1, q⟩ := h
  have nd := sc__law_take.nd
  have fin : ∀ (x c' k' : Int) (b' : Bool) (s' : Int) (H' : Hp), H' = upd H a (.lst [.int c', .int k', .bl b', .int s']) → Q (.int (x.fmod n)) H' := fun x c' k' b' s' H' e => by
    subst e
    exact q _ _ (Ext.pool hH ⟨_, _, _, _, rfl⟩ ⟨_, _, _, _, rfl⟩) (fmod_pos n0).1 (fmod_pos n0).2
  refine ⟨_, (pss_cons (ps_set (i := 2) nd rfl (Or.inl rfl) (pe_ix (ix_listK (K := K) rfl) (pv 0) pe_int (fun _ _ => rfl)))
      (pss_cons (ps_asg (pe_op op_add (pv 2) pe_int) (pg_sub (pv 0) pe_int set_list))
      (pss_cons (ps_set (i := 3) nd rfl (Or.inl rfl) (pe_ix (ix_listK (K := K) rfl) (pv 0) pe_int (fun _ _ => rfl)))
      (pss_cons (ps_if (PW.pt (pw_and (pt_val (pe_ix (ix_listK (K := K) rfl) (pv 0) pe_int (fun _ _ => rfl))) (pw_and1 (pt_cmpR op_gt (pv 3) pe_int (nomark _))))) (pss_cons (ps_asg (pe_op op_fdivN (pv 3) (pv 1)) (pg_sub (pv 0) pe_int set_list))
      (pss_one (ps_ret (pe_op op_modN (pe_callTy call_int1 (by rfl) b_int (by decide +kernel) (pa_cons (pv 3) pa_nil)) (pv 1))))) pss_nil)
      (pss_cons (ps_if (pt_val (pe_ix (ix_listK (K := K) rfl) (pv 0) pe_int (fun _ _ => rfl))) (pss_one (ps_set (i := 3) nd rfl (Or.inl rfl) (pe_ix (ix_listK (K := K) rfl) (pv 0) pe_int (fun _ _ => rfl)))) pss_nil)
      (pss_cons (ps_set (i := 4) nd rfl (Or.inl rfl) (pe_op op_modN (pe_callTy call_int1 (by rfl) b_int (by decide +kernel) (pa_cons (pe_op op_add (pe_op op_add (pv 3) (pe_op op_mul pe_int (pv 2))) pe_int) pa_nil)) pe_int))
      (pss_cons (ps_set (i := 4) nd rfl (Or.inl rfl) (pe_op op_modN (pe_callTy call_int1 (by rfl) b_int (by decide +kernel) (pa_cons (pe_op op_mul (pv 4) (pe_op op_add (pv 4) pe_int)) pa_nil)) pe_int))
      (pss_cons (ps_set (i := 4) nd rfl (Or.inl rfl) (pe_op op_modN (pe_callTy call_int1 (by rfl) b_int (by decide +kernel) (pa_cons (pe_op op_add (pe_op op_mul (pv 4) (pe_op op_add (pv 4) pe_int)) (pe_op op_mul pe_int (pv 2))) pa_nil)) pe_int))
      (pss_one (ps_ret (pe_op op_modN (pe_callTy call_int1 (by rfl) b_int (by decide +kernel) (pa_cons (pe_op op_fdivN (pv 4) pe_int) pa_nil)) (pv 1)))))))))))), ?_⟩
  refine w_start (σ := [some _, some _, none, none, none]) rfl ?_
  walk_at "go"
  refine ite_b (fun c1 => ?_) (fun c1 => ?_)
  · walk_at "go"
    refine ite_d (fun c2 => ?_) (fun c2 => ?_)
    · walk_at "go"
      rw [upd_upd]
      exact fin _ _ _ _ _ _ rfl
    · subst c1
      walk_at "go"
      exact fin _ _ _ _ _ _ rfl
  · subst c1
    walk_at "go"
    exact fin _ _ _ _ _ _ rfl
end
section
variable {P : Program} {w : World} {K : PySem.W.Frag} {mg : Str → Option Value} {base : Heap} {H : Hp} {Q : VK} {E : XK}
theorem call_take {v : V} {n : Int} (hp : PoolAt H v) (n0 : 0 < n) (n1 : n < 1073741824) (q : ∀ r H', Ext H H' → 0 ≤ r → r < n → Q (.int r) H') : spTake K ([v, .int n] ++ []) H Q E := ⟨v, n, rfl, hp, n0, n1, q⟩
theorem call_pool {a : Addr} {ns : List Int} {k : Int} (hs : SqL K H a (ns.map V.int)) (h0 : 0 ≤ k) (q : ∀ p H', Ext H H' → H p = none → PoolAt H' (.ref p) → Q (.ref p) H') : spPool K ([.ref a, .int k] ++ []) H Q E := ⟨a, ns, k, rfl, hs, h0, q⟩
/-- a pool of its own, or the given one -/
def spTurn (K : PySem.W.Frag) : Sp := fun vs H Q _ => ∃ (a : Addr) (ns : List Int) (v : V) (k : Int), vs = [.ref a, v, .int k] ∧ SqL K H a (ns.map V.int) ∧ PoolAt H v ∧ 0 ≤ k ∧ ∀ u H', Ext H H' → PoolAt H' u → Q u H'
theorem call_turn {a : Addr} {ns : List Int} {v : V} {k : Int} (hs : SqL K H a (ns.map V.int)) (hp : PoolAt H v) (h0 : 0 ≤ k) (q : ∀ u H', Ext H H' → PoolAt H' u → Q u H') : spTurn K ([.ref a, v, .int k] ++ []) H Q E := ⟨a, ns, v, k, rfl, hs, hp, h0, q⟩
end
end Kf

end
section
set_option Elab.async false
set_option linter.all false
set_option maxRecDepth 100000
set_option maxHeartbeats 4000000
local macro_rules | `(tactic| walk_at "npl") => `(tactic| first | exact Kf.npl rfl | exact Kf.npl_ints _ | exact Kf.npl_one _ _ | exact Kf.npl_refs _ | assumption)
local macro_rules | `(tactic| walk_at "nn") => `(tactic| first
  | assumption
  | (refine' Kf.Ext.non ?nne ?nnh; (case nne => assumption); (case nnh => walk_at "nn")))
local macro_rules | `(tactic| walk_at "ext") => `(tactic| first
  | assumption
  | exact Kf.Ext.refl
  | (refine' Kf.Ext.newer ?exa ?exn; (case exn => assumption); (case exa => walk_at "ext"))
  | (refine' Kf.Ext.own ?exa ?exn; (case exn => walk_at "nn"); (case exa => walk_at "ext"))
  | (refine' Kf.Ext.trans ?exa ?exb; (case exb => assumption); (case exa => walk_at "ext")))
local macro_rules | `(tactic| walk_at "pool") => `(tactic| first
  | assumption
  | (refine' Kf.PoolAt.ext ?plh ?ple; (case plh => assumption); (case ple => walk_at "ext"))
  | (refine' Kf.PoolAt.upd ?plh ?plo ?pln; (case plo => assumption); (case pln => walk_at "npl"); (case plh => walk_at "pool")))
local macro_rules | `(tactic| walk_at "lk") => `(tactic| first
  | assumption
  | exact L2.upd_same
  | (refine' Kf.upd_old ?lkn ?lkh; (case lkn => assumption); (case lkh => walk_at "lk"))
  | (refine' Kf.upd_oth ?lkn ?lkh; (case lkn => (first | assumption | (apply Ne.symm; assumption))); (case lkh => walk_at "lk"))
  | (refine' Kf.Ext.get ?lke ?lkh ?lkn; (case lke => assumption); (case lkh => walk_at "lk"); (case lkn => walk_at "npl"))
  | (refine' L2.Same.at ?lke ?lkh; (case lke => assumption); (case lkh => walk_at "lk")))
local macro_rules | `(tactic| walk_at "sq") => `(tactic| first
  | assumption
  | (refine' L2.SqL.of ?sqh; (case sqh => walk_at "lk"))
  | (refine' L2.SqT.of ?sqh; (case sqh => walk_at "lk"))
  | (refine' Kf.Ext.seqL ?sqe ?sqh ?sqn; (case sqh => assumption); (case sqe => walk_at "ext"); (case sqn => walk_at "npl"))
  | (refine' Kf.Ext.seqT ?sqe ?sqh; (case sqh => assumption); (case sqe => walk_at "ext")))
local macro_rules | `(tactic| walk_at "at") => `(tactic| first | exact L2.atI_nat (j := 0) rfl | exact L2.atI_nat (j := 1) rfl | exact L2.atI_nat (j := 2) rfl | exact L2.atI_nat (j := 3) rfl | exact L2.atI_nat (j := 4) rfl | assumption)
local macro_rules | `(tactic| walk_at "ixn") => `(tactic| first | exact Kf.ixN_nat (j := 0) rfl | exact Kf.ixN_nat (j := 1) rfl | exact Kf.ixN_nat (j := 2) rfl | exact Kf.ixN_nat (j := 3) rfl | assumption)
local macro_rules | `(tactic| walk_at "set") => `(tactic| (first | (simp only [List.set_cons_succ, List.set_cons_zero]; rfl) | rfl))
local macro_rules | `(tactic| walk_at "om") => `(tactic| first | decide | omega | (simp only [List.length_map, List.length_cons, List.length_nil] at *; omega))
local macro_rules | `(tactic| walk_at "calls") => `(tactic| first
  | (with_reducible refine' Kf.call_take ?clp ?cla ?clb ?clq; (case clp => walk_at "pool"); (case cla => walk_at "om"); (case clb => walk_at "om"); intro r H' hE h0 h1)
  | (with_reducible refine' Kf.call_pool ?cls ?cla ?clq; (case cls => walk_at "sq"); (case cla => walk_at "om"); intro p H' hE hN hP)
  | (with_reducible refine' Kf.call_turn ?cls ?clp ?cla ?clq; (case cls => walk_at "sq"); (case clp => walk_at "pool"); (case cla => walk_at "om"); intro u H' hE hP))
local macro_rules | `(tactic| walk_at "side") => `(tactic| first
  | exact Kf.cmul_fmod (by decide) (by decide)
  | exact rfl
  | decide
  | omega
  | assumption
  | (refine ⟨?_, ?_⟩ <;> decide)
  | (refine ⟨?_, ?_, ?_⟩ <;> decide)
  | (refine ⟨?_, ?_⟩ <;> omega)
  | (refine Or.inl ⟨?_, ?_⟩ <;> decide)
  | (refine Or.inr ⟨?_, ?_⟩ <;> decide)
  | (refine Or.inl ⟨?_, ?_⟩ <;> omega)
  | (refine Or.inr ⟨?_, ?_⟩ <;> omega))
local macro_rules | `(tactic| walk_at "kit") => `(tactic| first | exact Kf.isi_int_int | exact Kf.isi_int_bool | exact Kf.isi_int_str | exact Kf.isi_int_list | exact Kf.isi_int_tuple | exact Kf.isi_bool_int | exact Kf.isi_bool_bool | exact Kf.isi_bool_str | exact Kf.isi_bool_list | exact Kf.isi_bool_tuple | exact Kf.isi_str_int | exact Kf.isi_str_bool | exact Kf.isi_str_str | exact Kf.isi_str_list | exact Kf.isi_str_tuple | exact Kf.isi_non_list | exact Kf.isi_non_tuple | exact Kf.isi_list_list | exact Kf.isi_list_tuple | exact Kf.isi_tuple_list | exact Kf.isi_tuple_tuple | exact Kf.isi_dict_dict)
local macro_rules | `(tactic| walk_at "ty") => `(tactic| first
  | exact L2.TyX.base (L2.TyOf.int _)
  | exact L2.TyX.base (L2.TyOf.bl _)
  | exact L2.TyX.base (L2.TyOf.str _)
  | exact L2.TyX.base L2.TyOf.non
  | (refine' L2.TyX.base (L2.TyOf.lst ?tyh); (case tyh => walk_at "lk"))
  | (refine' L2.TyX.base (L2.TyOf.tup ?tyh); (case tyh => walk_at "lk"))
  | (refine' L2.TyX.base (L2.TyOf.dK ?tyh); (case tyh => walk_at "lk")))
local macro_rules | `(tactic| walk_at "om2") => `(tactic| first | assumption | decide | omega)
local macro_rules | `(tactic| walk_at "st") => `(tactic| with_reducible first
  | (refine Kf.w_var rfl ?_)
  | (refine Kf.w_c ?_)
  | (refine Kf.w_seq ?_)
  | (refine Kf.w_asg ?_)
  | (refine' Kf.w_gname ?sth ?_; (case sth => with_unfolding_all walk_at "set"))
  | (refine Kf.w_op ?_)
  | (refine Kf.w_un ?_)
  | (refine Kf.w_rU ?_)
  | (refine Kf.w_rI0 ?_)
  | (refine' Kf.w_rI ?sth ?_; (case sth => with_unfolding_all walk_at "side"))
  | (refine' Kf.w_rEq ?sth ?_; (case sth => with_unfolding_all rfl))
  | (refine' Kf.w_rNe ?sth ?_; (case sth => with_unfolding_all rfl))
  | (refine Kf.w_tTest ?_)
  | (refine Kf.w_tB ?_)
  | (refine Kf.w_exbl ?_)
  | (refine Kf.w_exint ?_)
  | (refine Kf.w_ifS ?_)
  | (refine Kf.w_ret ?_)
  | (refine Kf.w_retN ?_)
  | (refine Kf.w_drop ?_)
  | (refine Kf.w_and ?_)
  | (refine Kf.w_or ?_)
  | (refine Kf.w_not ?_)
  | (refine Kf.w_andV ?_)
  | (refine Kf.w_orV ?_)
  | (refine Kf.w_notV ?_)
  | (refine Kf.w_if ?_)
  | (refine Kf.w_lc ?_)
  | (refine Kf.w_for ?_)
  | (refine Kf.w_rng1 ?_)
  | (refine' Kf.w_rng1x ?sth ?stg ?_; (case sth => with_unfolding_all walk_at "om"); (case stg => with_unfolding_all walk_at "om"))
  | (refine Kf.w_ilist ?_)
  | (refine Kf.w_iseq ?_)
  | (refine Kf.w_itup ?_)
  | (refine' Kf.w_ilistx ?sth ?_; (case sth => with_unfolding_all walk_at "sq"))
  | (refine' Kf.w_itupx ?sth ?_; (case sth => with_unfolding_all walk_at "sq"))
  | (refine' Kf.w_wipe ?sth ?_; (case sth => with_unfolding_all rfl))
  | (refine Kf.w_yes ?_)
  | (refine' Kf.w_isi ?sth ?stg ?_; (case sth => with_unfolding_all walk_at "ty"); (case stg => walk_at "kit"))
  | (refine Kf.w_isN ?_)
  | (refine Kf.w_notN ?_)
  | (refine Kf.w_cb ?_)
  | (refine Kf.w_nil ?_)
  | (refine Kf.w_cons ?_)
  | (refine Kf.w_tup ?_)
  | (refine Kf.w_lst ?_)
  | (refine' Kf.w_lines ?sth ?_; (case sth => with_unfolding_all rfl))
  | (refine Kf.w_call ?_)
  | (refine Kf.w_next ?_)
  | (refine Kf.w_break ?_)
  | (refine Kf.w_cont ?_)
  | (refine Kf.w_dnewK ?_)
  | (refine Kf.w_ikeys ?_)
  | (refine Kf.w_dput ?_)
  | (refine Kf.w_dget2 ?_)
  | (refine Kf.w_dget ?_)
  | (refine Kf.w_sl ?_)
  | (refine Kf.w_nopart ?_)
  | (refine Kf.w_part ?_)
  | (refine Kf.w_bm ?_)
  | (refine Kf.w_bm0 ?_)
  | (refine' Kf.w_bmL ?sth ?_; (case sth => with_unfolding_all walk_at "lk"))
  | (refine' Kf.w_cat ?sth ?stg ?stf ?_; (case sth => with_unfolding_all walk_at "lk"); (case stg => with_unfolding_all walk_at "lk"); (case stf => with_unfolding_all walk_at "om"))
  | (refine' Kf.w_slL ?sth ?_; (case sth => with_unfolding_all walk_at "sq"))
  | (refine' Kf.w_inL ?sth ?_; (case sth => with_unfolding_all walk_at "sq"))
  | (refine' Kf.w_inT ?sth ?_; (case sth => with_unfolding_all walk_at "sq"))
  | (refine' Kf.w_ninL ?sth ?_; (case sth => with_unfolding_all walk_at "sq"))
  | (refine' Kf.w_ninT ?sth ?_; (case sth => with_unfolding_all walk_at "sq"))
  | (refine' Kf.w_listof ?sth ?_; (case sth => with_unfolding_all walk_at "sq"))
  | (refine' Kf.w_tupof ?sth ?_; (case sth => with_unfolding_all walk_at "sq"))
  | (refine Kf.w_listRev ?_)
  | (refine Kf.w_gsub ?_)
  | (refine' Kf.w_ixL ?sth ?stg ?_; (case sth => with_unfolding_all walk_at "sq"); (case stg => with_unfolding_all walk_at "at"))
  | (refine' Kf.w_ixT ?sth ?stg ?_; (case sth => with_unfolding_all walk_at "sq"); (case stg => with_unfolding_all walk_at "at"))
  | (refine' Kf.w_setL ?sth ?stg ?_; (case sth => with_unfolding_all walk_at "lk"); (case stg => with_unfolding_all walk_at "ixn"))
  | (refine' Kf.w_len ?sth ?_; (case sth => with_unfolding_all walk_at "sq"))
  | (refine' Kf.w_lenT ?sth ?_; (case sth => with_unfolding_all walk_at "sq"))
  | (refine Kf.w_int1 ?_)
  | (refine Kf.w_intb ?_)
  | (refine Kf.w_abs ?_)
  | (refine Kf.w_aug rfl ?_)
  | (refine Kf.w_par ?_)
  | (refine' Kf.w_gtup ?sth ?stg ?_; (case sth => with_unfolding_all walk_at "sq"); (case stg => with_unfolding_all exact rfl))
  | (refine' Kf.w_glst ?sth ?stg ?_; (case sth => with_unfolding_all walk_at "sq"); (case stg => with_unfolding_all exact rfl))
  | (refine Kf.w_rng2 ?_)
  | (refine Kf.w_rng3 ?_)
  | (refine' Kf.w_rng2x ?sth ?stg ?stf ?ste ?_; (case sth => with_unfolding_all walk_at "om"); (case stg => with_unfolding_all walk_at "om"); (case stf => with_unfolding_all walk_at "om"); (case ste => with_unfolding_all walk_at "om"))
  | (refine Kf.w_gcons ?_)
  | (refine Kf.w_gnil ?_)
  | (refine Kf.w_gcd ?_)
  | (refine Kf.w_bits ?_)
  | (refine Kf.w_two ?_)
  | (refine Kf.w_ipI ?_)
  | (refine L2.iteT ?_)
  | (refine L2.iteF ?_)
  | (refine Kf.iteNT ?_)
  | (refine Kf.iteNF ?_)
  | (refine' Kf.ite_decT ?sth ?_; (case sth => exact rfl))
  | (refine' Kf.ite_decF ?sth ?_; (case sth => with_unfolding_all (intro e; cases e; done)))
  | (refine' Kf.ite_ndecF ?sth ?_; (case sth => exact rfl))
  | (refine' Kf.ite_ndecT ?sth ?_; (case sth => with_unfolding_all (intro e; cases e; done)))
  | (refine' Kf.ite_viT ?sth ?_; (case sth => (with_unfolding_all walk_at "om2")))
  | (refine' Kf.ite_viF ?sth ?_; (case sth => (with_unfolding_all walk_at "om2")))
  | (refine' Kf.ite_nviT ?sth ?_; (case sth => (with_unfolding_all walk_at "om2")))
  | (refine' Kf.ite_nviF ?sth ?_; (case sth => (with_unfolding_all walk_at "om2")))
  | (refine' Kf.ite_decT ?sth ?_; (case sth => (with_unfolding_all walk_at "om2")))
  | (refine' Kf.ite_decF ?sth ?_; (case sth => (with_unfolding_all walk_at "om2")))
  | with_unfolding_all walk_at "calls")
local macro_rules | `(tactic| walk_at "go") => `(tactic| repeat walk_at "st")

namespace Kf
open PySem PySem.Spec PyProof.Rows L2
abbrev s__law_turn : Stmt := topS 17
abbrev N__law_turn : List Str := ["script", "pool", "k"]
abbrev P__law_turn : List Str := ["script", "pool", "k"]
theorem sc__law_turn : FnScope N__law_turn P__law_turn (defScope s__law_turn) := ⟨rfl, rfl, rfl, by decide +kernel, rfl, by decide +kernel, by decide +kernel⟩
section
variable {P : Program} {w : World} {K : PySem.W.Frag} {mg : Str → Option Value} {base : Heap} {H : Hp} {Q : VK} {E : XK}
theorem ok_turn (D : Df K mg "_law_turn" s__law_turn P__law_turn) (b_len : mg "len" = none) (p__law_pool : Pr P w K mg base "_law_pool" 1 P__law_pool (spPool K)) : Pr P w K mg base "_law_turn" 2 P__law_turn (spTurn K) := by
  refine D.ok sc__law_turn (fun vs H Q E h => ?_) (fun f cdv A outer s H vs Q E hr h => ?_)
  · obtain ⟨a, ns, v, k, rfl, _⟩ := h; rfl
  obtain ⟨a, ns, v, k, rfl, hS, hP, h0, q⟩ := h
  have nd := sc__law_turn.nd
  refine ⟨_, (pss_cons (ps_if (pt_cmpR op_lt (pv 2) (pe_callB (call_lenK (K := K) rfl) (by rfl) b_len PySem.boot_len (pa_cons (pv 0) pa_nil)) (nomark _)) (pss_one (ps_ret (pe_callP p__law_pool hr (pa_cons (pv 0) (pa_cons (pv 2) pa_nil))))) pss_nil)
      (pss_one (ps_ret (pv 1)))), ?_⟩
  refine w_start (σ := [some _, some _, some _]) rfl ?_
  walk_at "go"
  refine ite_d (fun c1 => ?_) (fun c1 => ?_)
  · walk_at "go"
    exact q _ _ (by assumption) (by assumption)
  · walk_at "go"
    exact q _ _ Ext.refl hP
end
end Kf

end
section
set_option Elab.async false
set_option linter.all false
set_option maxRecDepth 100000
set_option maxHeartbeats 4000000
local macro_rules | `(tactic| walk_at "npl") => `(tactic| first | exact Kf.npl rfl | exact Kf.npl_ints _ | exact Kf.npl_one _ _ | exact Kf.npl_refs _ | assumption)
local macro_rules | `(tactic| walk_at "nn") => `(tactic| first
  | assumption
  | (refine' Kf.Ext.non ?nne ?nnh; (case nne => assumption); (case nnh => walk_at "nn")))
local macro_rules | `(tactic| walk_at "ext") => `(tactic| first
  | assumption
  | exact Kf.Ext.refl
  | (refine' Kf.Ext.newer ?exa ?exn; (case exn => assumption); (case exa => walk_at "ext"))
  | (refine' Kf.Ext.own ?exa ?exn; (case exn => walk_at "nn"); (case exa => walk_at "ext"))
  | (refine' Kf.Ext.trans ?exa ?exb; (case exb => assumption); (case exa => walk_at "ext")))
local macro_rules | `(tactic| walk_at "pool") => `(tactic| first
  | assumption
  | (refine' Kf.PoolAt.ext ?plh ?ple; (case plh => assumption); (case ple => walk_at "ext"))
  | (refine' Kf.PoolAt.upd ?plh ?plo ?pln; (case plo => assumption); (case pln => walk_at "npl"); (case plh => walk_at "pool")))
local macro_rules | `(tactic| walk_at "lk") => `(tactic| first
  | assumption
  | exact L2.upd_same
  | (refine' Kf.upd_old ?lkn ?lkh; (case lkn => assumption); (case lkh => walk_at "lk"))
  | (refine' Kf.upd_oth ?lkn ?lkh; (case lkn => (first | assumption | (apply Ne.symm; assumption))); (case lkh => walk_at "lk"))
  | (refine' Kf.Ext.get ?lke ?lkh ?lkn; (case lke => assumption); (case lkh => walk_at "lk"); (case lkn => walk_at "npl"))
  | (refine' L2.Same.at ?lke ?lkh; (case lke => assumption); (case lkh => walk_at "lk")))
local macro_rules | `(tactic| walk_at "sq") => `(tactic| first
  | assumption
  | (refine' L2.SqL.of ?sqh; (case sqh => walk_at "lk"))
  | (refine' L2.SqT.of ?sqh; (case sqh => walk_at "lk"))
  | (refine' Kf.Ext.seqL ?sqe ?sqh ?sqn; (case sqh => assumption); (case sqe => walk_at "ext"); (case sqn => walk_at "npl"))
  | (refine' Kf.Ext.seqT ?sqe ?sqh; (case sqh => assumption); (case sqe => walk_at "ext")))
local macro_rules | `(tactic| walk_at "at") => `(tactic| first | exact L2.atI_nat (j := 0) rfl | exact L2.atI_nat (j := 1) rfl | exact L2.atI_nat (j := 2) rfl | exact L2.atI_nat (j := 3) rfl | exact L2.atI_nat (j := 4) rfl | assumption)
local macro_rules | `(tactic| walk_at "ixn") => `(tactic| first | exact Kf.ixN_nat (j := 0) rfl | exact Kf.ixN_nat (j := 1) rfl | exact Kf.ixN_nat (j := 2) rfl | exact Kf.ixN_nat (j := 3) rfl | assumption)
local macro_rules | `(tactic| walk_at "set") => `(tactic| (first | (simp only [List.set_cons_succ, List.set_cons_zero]; rfl) | rfl))
local macro_rules | `(tactic| walk_at "om") => `(tactic| first | decide | omega | (simp only [List.length_map, List.length_cons, List.length_nil] at *; omega))
local macro_rules | `(tactic| walk_at "calls") => `(tactic| first
  | (with_reducible refine' Kf.call_take ?clp ?cla ?clb ?clq; (case clp => walk_at "pool"); (case cla => walk_at "om"); (case clb => walk_at "om"); intro r H' hE h0 h1)
  | (with_reducible refine' Kf.call_pool ?cls ?cla ?clq; (case cls => walk_at "sq"); (case cla => walk_at "om"); intro p H' hE hN hP)
  | (with_reducible refine' Kf.call_turn ?cls ?clp ?cla ?clq; (case cls => walk_at "sq"); (case clp => walk_at "pool"); (case cla => walk_at "om"); intro u H' hE hP))
local macro_rules | `(tactic| walk_at "side") => `(tactic| first
  | exact Kf.cmul_fmod (by decide) (by decide)
  | exact rfl
  | decide
  | omega
  | assumption
  | (refine ⟨?_, ?_⟩ <;> decide)
  | (refine ⟨?_, ?_, ?_⟩ <;> decide)
  | (refine ⟨?_, ?_⟩ <;> omega)
  | (refine Or.inl ⟨?_, ?_⟩ <;> decide)
  | (refine Or.inr ⟨?_, ?_⟩ <;> decide)
  | (refine Or.inl ⟨?_, ?_⟩ <;> omega)
  | (refine Or.inr ⟨?_, ?_⟩ <;> omega))
local macro_rules | `(tactic| walk_at "kit") => `(tactic| first | exact Kf.isi_int_int | exact Kf.isi_int_bool | exact Kf.isi_int_str | exact Kf.isi_int_list | exact Kf.isi_int_tuple | exact Kf.isi_bool_int | exact Kf.isi_bool_bool | exact Kf.isi_bool_str | exact Kf.isi_bool_list | exact Kf.isi_bool_tuple | exact Kf.isi_str_int | exact Kf.isi_str_bool | exact Kf.isi_str_str | exact Kf.isi_str_list | exact Kf.isi_str_tuple | exact Kf.isi_non_list | exact Kf.isi_non_tuple | exact Kf.isi_list_list | exact Kf.isi_list_tuple | exact Kf.isi_tuple_list | exact Kf.isi_tuple_tuple | exact Kf.isi_dict_dict)
local macro_rules | `(tactic| walk_at "ty") => `(tactic| first
  | exact L2.TyX.base (L2.TyOf.int _)
  | exact L2.TyX.base (L2.TyOf.bl _)
  | exact L2.TyX.base (L2.TyOf.str _)
  | exact L2.TyX.base L2.TyOf.non
  | (refine' L2.TyX.base (L2.TyOf.lst ?tyh); (case tyh => walk_at "lk"))
  | (refine' L2.TyX.base (L2.TyOf.tup ?tyh); (case tyh => walk_at "lk"))
  | (refine' L2.TyX.base (L2.TyOf.dK ?tyh); (case tyh => walk_at "lk")))
local macro_rules | `(tactic| walk_at "om2") => `(tactic| first | assumption | decide | omega)
local macro_rules | `(tactic| walk_at "st") => `(tactic| with_reducible first
  | (refine Kf.w_var rfl ?_)
  | (refine Kf.w_c ?_)
  | (refine Kf.w_seq ?_)
  | (refine Kf.w_asg ?_)
  | (refine' Kf.w_gname ?sth ?_; (case sth => with_unfolding_all walk_at "set"))
  | (refine Kf.w_op ?_)
  | (refine Kf.w_un ?_)
  | (refine Kf.w_rU ?_)
  | (refine Kf.w_rI0 ?_)
  | (refine' Kf.w_rI ?sth ?_; (case sth => with_unfolding_all walk_at "side"))
  | (refine' Kf.w_rEq ?sth ?_; (case sth => with_unfolding_all rfl))
  | (refine' Kf.w_rNe ?sth ?_; (case sth => with_unfolding_all rfl))
  | (refine Kf.w_tTest ?_)
  | (refine Kf.w_tB ?_)
  | (refine Kf.w_exbl ?_)
  | (refine Kf.w_exint ?_)
  | (refine Kf.w_ifS ?_)
  | (refine Kf.w_ret ?_)
  | (refine Kf.w_retN ?_)
  | (refine Kf.w_drop ?_)
  | (refine Kf.w_and ?_)
  | (refine Kf.w_or ?_)
  | (refine Kf.w_not ?_)
  | (refine Kf.w_andV ?_)
  | (refine Kf.w_orV ?_)
  | (refine Kf.w_notV ?_)
  | (refine Kf.w_if ?_)
  | (refine Kf.w_lc ?_)
  | (refine Kf.w_for ?_)
  | (refine Kf.w_rng1 ?_)
  | (refine' Kf.w_rng1x ?sth ?stg ?_; (case sth => with_unfolding_all walk_at "om"); (case stg => with_unfolding_all walk_at "om"))
  | (refine Kf.w_ilist ?_)
  | (refine Kf.w_iseq ?_)
  | (refine Kf.w_itup ?_)
  | (refine' Kf.w_ilistx ?sth ?_; (case sth => with_unfolding_all walk_at "sq"))
  | (refine' Kf.w_itupx ?sth ?_; (case sth => with_unfolding_all walk_at "sq"))
  | (refine' Kf.w_wipe ?sth ?_; (case sth => with_unfolding_all rfl))
  | (refine Kf.w_yes ?_)
  | (refine' Kf.w_isi ?sth ?stg ?_; (case sth => with_unfolding_all walk_at "ty"); (case stg => walk_at "kit"))
  | (refine Kf.w_isN ?_)
  | (refine Kf.w_notN ?_)
  | (refine Kf.w_cb ?_)
  | (refine Kf.w_nil ?_)
  | (refine Kf.w_cons ?_)
  | (refine Kf.w_tup ?_)
  | (refine Kf.w_lst ?_)
  | (refine' Kf.w_lines ?sth ?_; (case sth => with_unfolding_all rfl))
  | (refine Kf.w_call ?_)
  | (refine Kf.w_next ?_)
  | (refine Kf.w_break ?_)
  | (refine Kf.w_cont ?_)
  | (refine Kf.w_dnewK ?_)
  | (refine Kf.w_ikeys ?_)
  | (refine Kf.w_dput ?_)
  | (refine Kf.w_dget2 ?_)
  | (refine Kf.w_dget ?_)
  | (refine Kf.w_sl ?_)
  | (refine Kf.w_nopart ?_)
  | (refine Kf.w_part ?_)
  | (refine Kf.w_bm ?_)
  | (refine Kf.w_bm0 ?_)
  | (refine' Kf.w_bmL ?sth ?_; (case sth => with_unfolding_all walk_at "lk"))
  | (refine' Kf.w_cat ?sth ?stg ?stf ?_; (case sth => with_unfolding_all walk_at "lk"); (case stg => with_unfolding_all walk_at "lk"); (case stf => with_unfolding_all walk_at "om"))
  | (refine' Kf.w_slL ?sth ?_; (case sth => with_unfolding_all walk_at "sq"))
  | (refine' Kf.w_inL ?sth ?_; (case sth => with_unfolding_all walk_at "sq"))
  | (refine' Kf.w_inT ?sth ?_; (case sth => with_unfolding_all walk_at "sq"))
  | (refine' Kf.w_ninL ?sth ?_; (case sth => with_unfolding_all walk_at "sq"))
  | (refine' Kf.w_ninT ?sth ?_; (case sth => with_unfolding_all walk_at "sq"))
  | (refine' Kf.w_listof ?sth ?_; (case sth => with_unfolding_all walk_at "sq"))
  | (refine' Kf.w_tupof ?sth ?_; (case sth => with_unfolding_all walk_at "sq"))
  | (refine Kf.w_listRev ?_)
  | (refine Kf.w_gsub ?_)
  | (refine' Kf.w_ixL ?sth ?stg ?_; (case sth => with_unfolding_all walk_at "sq"); (case stg => with_unfolding_all walk_at "at"))
  | (refine' Kf.w_ixT ?sth ?stg ?_; (case sth => with_unfolding_all walk_at "sq"); (case stg => with_unfolding_all walk_at "at"))
  | (refine' Kf.w_setL ?sth ?stg ?_; (case sth => with_unfolding_all walk_at "lk"); (case stg => with_unfolding_all walk_at "ixn"))
  | (refine' Kf.w_len ?sth ?_; (case sth => with_unfolding_all walk_at "sq"))
  | (refine' Kf.w_lenT ?sth ?_; (case sth => with_unfolding_all walk_at "sq"))
  | (refine Kf.w_int1 ?_)
  | (refine Kf.w_intb ?_)
  | (refine Kf.w_abs ?_)
  | (refine Kf.w_aug rfl ?_)
  | (refine Kf.w_par ?_)
  | (refine' Kf.w_gtup ?sth ?stg ?_; (case sth => with_unfolding_all walk_at "sq"); (case stg => with_unfolding_all exact rfl))
  | (refine' Kf.w_glst ?sth ?stg ?_; (case sth => with_unfolding_all walk_at "sq"); (case stg => with_unfolding_all exact rfl))
  | (refine Kf.w_rng2 ?_)
  | (refine Kf.w_rng3 ?_)
  | (refine' Kf.w_rng2x ?sth ?stg ?stf ?ste ?_; (case sth => with_unfolding_all walk_at "om"); (case stg => with_unfolding_all walk_at "om"); (case stf => with_unfolding_all walk_at "om"); (case ste => with_unfolding_all walk_at "om"))
  | (refine Kf.w_gcons ?_)
  | (refine Kf.w_gnil ?_)
  | (refine Kf.w_gcd ?_)
  | (refine Kf.w_bits ?_)
  | (refine Kf.w_two ?_)
  | (refine Kf.w_ipI ?_)
  | (refine L2.iteT ?_)
  | (refine L2.iteF ?_)
  | (refine Kf.iteNT ?_)
  | (refine Kf.iteNF ?_)
  | (refine' Kf.ite_decT ?sth ?_; (case sth => exact rfl))
  | (refine' Kf.ite_decF ?sth ?_; (case sth => with_unfolding_all (intro e; cases e; done)))
  | (refine' Kf.ite_ndecF ?sth ?_; (case sth => exact rfl))
  | (refine' Kf.ite_ndecT ?sth ?_; (case sth => with_unfolding_all (intro e; cases e; done)))
  | (refine' Kf.ite_viT ?sth ?_; (case sth => (with_unfolding_all walk_at "om2")))
  | (refine' Kf.ite_viF ?sth ?_; (case sth => (with_unfolding_all walk_at "om2")))
  | (refine' Kf.ite_nviT ?sth ?_; (case sth => (with_unfolding_all walk_at "om2")))
  | (refine' Kf.ite_nviF ?sth ?_; (case sth => (with_unfolding_all walk_at "om2")))
  | (refine' Kf.ite_decT ?sth ?_; (case sth => (with_unfolding_all walk_at "om2")))
  | (refine' Kf.ite_decF ?sth ?_; (case sth => (with_unfolding_all walk_at "om2")))
  | with_unfolding_all walk_at "calls")
local macro_rules | `(tactic| walk_at "go") => `(tactic| repeat walk_at "st")

namespace Kf
open PySem PySem.Spec PyProof.Rows L2
abbrev s__law_pick : Stmt := topS 18
abbrev N__law_pick : List Str := ["pool", "row"]
abbrev P__law_pick : List Str := ["pool", "row"]
theorem sc__law_pick : FnScope N__law_pick P__law_pick (defScope s__law_pick) := ⟨rfl, rfl, rfl, by decide +kernel, rfl, by decide +kernel, by decide +kernel⟩
section
variable {P : Program} {w : World} {K : PySem.W.Frag} {mg : Str → Option Value} {base : Heap} {H : Hp} {Q : VK} {E : XK}
/-- one of the row's items -/
def spPick (K : PySem.W.Frag) : Sp := fun vs H Q _ => ∃ (v : V) (a : Addr) (xs : List V), vs = [v, .ref a] ∧ PoolAt H v ∧ SqL K H a xs ∧ ¬ Pl (.lst xs) ∧ xs ≠ [] ∧ xs.length < 1000000 ∧ ∀ x H', x ∈ xs → Ext H H' → Q x H'
theorem call_pick {v : V} {a : Addr} {xs : List V} (hp : PoolAt H v) (hs : SqL K H a xs) (np : ¬ Pl (.lst xs)) (n0 : xs ≠ []) (n1 : xs.length < 1000000) (q : ∀ x H', x ∈ xs → Ext H H' → Q x H') : spPick K ([v, .ref a] ++ []) H Q E := ⟨v, a, xs, rfl, hp, hs, np, n0, n1, q⟩
theorem atI_in {xs : List V} {k : Int} (h0 : 0 ≤ k) (h1 : k < (xs.length : Nat)) : ∃ x, x ∈ xs ∧ xs[k.toNat]? = some x ∧ atI xs k = some x := by
  have hk : k.toNat < xs.length := by omega
  have e : k = ((k.toNat : Nat) : Int) := by omega
  have q := atI_nat (j := k.toNat) (List.getElem?_eq_getElem hk)
  rw [← e] at q
  exact ⟨xs[k.toNat], List.getElem_mem hk, List.getElem?_eq_getElem hk, q⟩
theorem ok_pick (D : Df K mg "_law_pick" s__law_pick P__law_pick) (b_len : mg "len" = none) (p__law_take : Pr P w K mg base "_law_take" 1 P__law_take (spTake K)) : Pr P w K mg base "_law_pick" 2 P__law_pick (spPick K) := by
  refine D.ok sc__law_pick (fun vs H Q E h => ?_) (fun f cdv A outer s H vs Q E hr h => ?_)
  · obtain ⟨v, a, xs, rfl, _⟩ := h; rfl
  obtain ⟨v, a, xs, rfl, hP, hS, np, n0, n1, q⟩ := h
  have nd := sc__law_pick.nd
  have hl : 0 < xs.length := List.length_pos_iff.mpr n0
  refine ⟨_, (pss_one (ps_ret (pe_ix (ix_listK (K := K) rfl) (pv 1) (pe_callP p__law_take hr (pa_cons (pv 0) (pa_cons (pe_callB (call_lenK (K := K) rfl) (by rfl) b_len PySem.boot_len (pa_cons (pv 1) pa_nil)) pa_nil))) (fun _ _ => rfl)))), ?_⟩
  refine w_start (σ := [some _, some _]) rfl ?_
  walk_at "go"
  rename_i r H' hE h0 h1
  obtain ⟨x, hx, _, e⟩ := atI_in h0 h1
  exact w_ixL (hE.seqL hS np) e (q x H' hx hE)
end
end Kf

end
section
set_option Elab.async false
set_option linter.all false
set_option maxRecDepth 100000
set_option maxHeartbeats 4000000
local macro_rules | `(tactic| walk_at "npl") => `(tactic| first | exact Kf.npl rfl | exact Kf.npl_ints _ | exact Kf.npl_one _ _ | exact Kf.npl_refs _ | assumption)
local macro_rules | `(tactic| walk_at "nn") => `(tactic| first
  | assumption
  | (refine' Kf.Ext.non ?nne ?nnh; (case nne => assumption); (case nnh => walk_at "nn")))
local macro_rules | `(tactic| walk_at "ext") => `(tactic| first
  | assumption
  | exact Kf.Ext.refl
  | (refine' Kf.Ext.newer ?exa ?exn; (case exn => assumption); (case exa => walk_at "ext"))
  | (refine' Kf.Ext.own ?exa ?exn; (case exn => walk_at "nn"); (case exa => walk_at "ext"))
  | (refine' Kf.Ext.trans ?exa ?exb; (case exb => assumption); (case exa => walk_at "ext")))
local macro_rules | `(tactic| walk_at "pool") => `(tactic| first
  | assumption
  | (refine' Kf.PoolAt.ext ?plh ?ple; (case plh => assumption); (case ple => walk_at "ext"))
  | (refine' Kf.PoolAt.upd ?plh ?plo ?pln; (case plo => assumption); (case pln => walk_at "npl"); (case plh => walk_at "pool")))
local macro_rules | `(tactic| walk_at "lk") => `(tactic| first
  | assumption
  | exact L2.upd_same
  | (refine' Kf.upd_old ?lkn ?lkh; (case lkn => assumption); (case lkh => walk_at "lk"))
  | (refine' Kf.upd_oth ?lkn ?lkh; (case lkn => (first | assumption | (apply Ne.symm; assumption))); (case lkh => walk_at "lk"))
  | (refine' Kf.Ext.get ?lke ?lkh ?lkn; (case lke => assumption); (case lkh => walk_at "lk"); (case lkn => walk_at "npl"))
  | (refine' L2.Same.at ?lke ?lkh; (case lke => assumption); (case lkh => walk_at "lk")))
local macro_rules | `(tactic| walk_at "sq") => `(tactic| first
  | assumption
  | (refine' L2.SqL.of ?sqh; (case sqh => walk_at "lk"))
  | (refine' L2.SqT.of ?sqh; (case sqh => walk_at "lk"))
  | (refine' Kf.Ext.seqL ?sqe ?sqh ?sqn; (case sqh => assumption); (case sqe => walk_at "ext"); (case sqn => walk_at "npl"))
  | (refine' Kf.Ext.seqT ?sqe ?sqh; (case sqh => assumption); (case sqe => walk_at "ext")))
local macro_rules | `(tactic| walk_at "at") => `(tactic| first | exact L2.atI_nat (j := 0) rfl | exact L2.atI_nat (j := 1) rfl | exact L2.atI_nat (j := 2) rfl | exact L2.atI_nat (j := 3) rfl | exact L2.atI_nat (j := 4) rfl | assumption)
local macro_rules | `(tactic| walk_at "ixn") => `(tactic| first | exact Kf.ixN_nat (j := 0) rfl | exact Kf.ixN_nat (j := 1) rfl | exact Kf.ixN_nat (j := 2) rfl | exact Kf.ixN_nat (j := 3) rfl | assumption)
local macro_rules | `(tactic| walk_at "set") => `(tactic| (first | (simp only [List.set_cons_succ, List.set_cons_zero]; rfl) | rfl))
local macro_rules | `(tactic| walk_at "om") => `(tactic| first | decide | omega | (simp only [List.length_map, List.length_cons, List.length_nil] at *; omega))
local macro_rules | `(tactic| walk_at "calls") => `(tactic| first
  | (with_reducible refine' Kf.call_take ?clp ?cla ?clb ?clq; (case clp => walk_at "pool"); (case cla => walk_at "om"); (case clb => walk_at "om"); intro r H' hE h0 h1)
  | (with_reducible refine' Kf.call_pool ?cls ?cla ?clq; (case cls => walk_at "sq"); (case cla => walk_at "om"); intro p H' hE hN hP)
  | (with_reducible refine' Kf.call_turn ?cls ?clp ?cla ?clq; (case cls => walk_at "sq"); (case clp => walk_at "pool"); (case cla => walk_at "om"); intro u H' hE hP))
local macro_rules | `(tactic| walk_at "side") => `(tactic| first
  | exact Kf.cmul_fmod (by decide) (by decide)
  | exact rfl
  | decide
  | omega
  | assumption
  | (refine ⟨?_, ?_⟩ <;> decide)
  | (refine ⟨?_, ?_, ?_⟩ <;> decide)
  | (refine ⟨?_, ?_⟩ <;> omega)
  | (refine Or.inl ⟨?_, ?_⟩ <;> decide)
  | (refine Or.inr ⟨?_, ?_⟩ <;> decide)
  | (refine Or.inl ⟨?_, ?_⟩ <;> omega)
  | (refine Or.inr ⟨?_, ?_⟩ <;> omega))
local macro_rules | `(tactic| walk_at "kit") => `(tactic| first | exact Kf.isi_int_int | exact Kf.isi_int_bool | exact Kf.isi_int_str | exact Kf.isi_int_list | exact Kf.isi_int_tuple | exact Kf.isi_bool_int | exact Kf.isi_bool_bool | exact Kf.isi_bool_str | exact Kf.isi_bool_list | exact Kf.isi_bool_tuple | exact Kf.isi_str_int | exact Kf.isi_str_bool | exact Kf.isi_str_str | exact Kf.isi_str_list | exact Kf.isi_str_tuple | exact Kf.isi_non_list | exact Kf.isi_non_tuple | exact Kf.isi_list_list | exact Kf.isi_list_tuple | exact Kf.isi_tuple_list | exact Kf.isi_tuple_tuple | exact Kf.isi_dict_dict)
local macro_rules | `(tactic| walk_at "ty") => `(tactic| first
  | exact L2.TyX.base (L2.TyOf.int _)
  | exact L2.TyX.base (L2.TyOf.bl _)
  | exact L2.TyX.base (L2.TyOf.str _)
  | exact L2.TyX.base L2.TyOf.non
  | (refine' L2.TyX.base (L2.TyOf.lst ?tyh); (case tyh => walk_at "lk"))
  | (refine' L2.TyX.base (L2.TyOf.tup ?tyh); (case tyh => walk_at "lk"))
  | (refine' L2.TyX.base (L2.TyOf.dK ?tyh); (case tyh => walk_at "lk")))
local macro_rules | `(tactic| walk_at "om2") => `(tactic| first | assumption | decide | omega)
local macro_rules | `(tactic| walk_at "st") => `(tactic| with_reducible first
  | (refine Kf.w_var rfl ?_)
  | (refine Kf.w_c ?_)
  | (refine Kf.w_seq ?_)
  | (refine Kf.w_asg ?_)
  | (refine' Kf.w_gname ?sth ?_; (case sth => with_unfolding_all walk_at "set"))
  | (refine Kf.w_op ?_)
  | (refine Kf.w_un ?_)
  | (refine Kf.w_rU ?_)
  | (refine Kf.w_rI0 ?_)
  | (refine' Kf.w_rI ?sth ?_; (case sth => with_unfolding_all walk_at "side"))
  | (refine' Kf.w_rEq ?sth ?_; (case sth => with_unfolding_all rfl))
  | (refine' Kf.w_rNe ?sth ?_; (case sth => with_unfolding_all rfl))
  | (refine Kf.w_tTest ?_)
  | (refine Kf.w_tB ?_)
  | (refine Kf.w_exbl ?_)
  | (refine Kf.w_exint ?_)
  | (refine Kf.w_ifS ?_)
  | (refine Kf.w_ret ?_)
  | (refine Kf.w_retN ?_)
  | (refine Kf.w_drop ?_)
  | (refine Kf.w_and ?_)
  | (refine Kf.w_or ?_)
  | (refine Kf.w_not ?_)
  | (refine Kf.w_andV ?_)
  | (refine Kf.w_orV ?_)
  | (refine Kf.w_notV ?_)
  | (refine Kf.w_if ?_)
  | (refine Kf.w_lc ?_)
  | (refine Kf.w_for ?_)
  | (refine Kf.w_rng1 ?_)
  | (refine' Kf.w_rng1x ?sth ?stg ?_; (case sth => with_unfolding_all walk_at "om"); (case stg => with_unfolding_all walk_at "om"))
  | (refine Kf.w_ilist ?_)
  | (refine Kf.w_iseq ?_)
  | (refine Kf.w_itup ?_)
  | (refine' Kf.w_ilistx ?sth ?_; (case sth => with_unfolding_all walk_at "sq"))
  | (refine' Kf.w_itupx ?sth ?_; (case sth => with_unfolding_all walk_at "sq"))
  | (refine' Kf.w_wipe ?sth ?_; (case sth => with_unfolding_all rfl))
  | (refine Kf.w_yes ?_)
  | (refine' Kf.w_isi ?sth ?stg ?_; (case sth => with_unfolding_all walk_at "ty"); (case stg => walk_at "kit"))
  | (refine Kf.w_isN ?_)
  | (refine Kf.w_notN ?_)
  | (refine Kf.w_cb ?_)
  | (refine Kf.w_nil ?_)
  | (refine Kf.w_cons ?_)
  | (refine Kf.w_tup ?_)
  | (refine Kf.w_lst ?_)
  | (refine' Kf.w_lines ?sth ?_; (case sth => with_unfolding_all rfl))
  | (refine Kf.w_call ?_)
  | (refine Kf.w_next ?_)
  | (refine Kf.w_break ?_)
  | (refine Kf.w_cont ?_)
  | (refine Kf.w_dnewK ?_)
  | (refine Kf.w_ikeys ?_)
  | (refine Kf.w_dput ?_)
  | (refine Kf.w_dget2 ?_)
  | (refine Kf.w_dget ?_)
  | (refine Kf.w_sl ?_)
  | (refine Kf.w_nopart ?_)
  | (refine Kf.w_part ?_)
  | (refine Kf.w_bm ?_)
  | (refine Kf.w_bm0 ?_)
  | (refine' Kf.w_bmL ?sth ?_; (case sth => with_unfolding_all walk_at "lk"))
  | (refine' Kf.w_cat ?sth ?stg ?stf ?_; (case sth => with_unfolding_all walk_at "lk"); (case stg => with_unfolding_all walk_at "lk"); (case stf => with_unfolding_all walk_at "om"))
  | (refine' Kf.w_slL ?sth ?_; (case sth => with_unfolding_all walk_at "sq"))
  | (refine' Kf.w_inL ?sth ?_; (case sth => with_unfolding_all walk_at "sq"))
  | (refine' Kf.w_inT ?sth ?_; (case sth => with_unfolding_all walk_at "sq"))
  | (refine' Kf.w_ninL ?sth ?_; (case sth => with_unfolding_all walk_at "sq"))
  | (refine' Kf.w_ninT ?sth ?_; (case sth => with_unfolding_all walk_at "sq"))
  | (refine' Kf.w_listof ?sth ?_; (case sth => with_unfolding_all walk_at "sq"))
  | (refine' Kf.w_tupof ?sth ?_; (case sth => with_unfolding_all walk_at "sq"))
  | (refine Kf.w_listRev ?_)
  | (refine Kf.w_gsub ?_)
  | (refine' Kf.w_ixL ?sth ?stg ?_; (case sth => with_unfolding_all walk_at "sq"); (case stg => with_unfolding_all walk_at "at"))
  | (refine' Kf.w_ixT ?sth ?stg ?_; (case sth => with_unfolding_all walk_at "sq"); (case stg => with_unfolding_all walk_at "at"))
  | (refine' Kf.w_setL ?sth ?stg ?_; (case sth => with_unfolding_all walk_at "lk"); (case stg => with_unfolding_all walk_at "ixn"))
  | (refine' Kf.w_len ?sth ?_; (case sth => with_unfolding_all walk_at "sq"))
  | (refine' Kf.w_lenT ?sth ?_; (case sth => with_unfolding_all walk_at "sq"))
  | (refine Kf.w_int1 ?_)
  | (refine Kf.w_intb ?_)
  | (refine Kf.w_abs ?_)
  | (refine Kf.w_aug rfl ?_)
  | (refine Kf.w_par ?_)
  | (refine' Kf.w_gtup ?sth ?stg ?_; (case sth => with_unfolding_all walk_at "sq"); (case stg => with_unfolding_all exact rfl))
  | (refine' Kf.w_glst ?sth ?stg ?_; (case sth => with_unfolding_all walk_at "sq"); (case stg => with_unfolding_all exact rfl))
  | (refine Kf.w_rng2 ?_)
  | (refine Kf.w_rng3 ?_)
  | (refine' Kf.w_rng2x ?sth ?stg ?stf ?ste ?_; (case sth => with_unfolding_all walk_at "om"); (case stg => with_unfolding_all walk_at "om"); (case stf => with_unfolding_all walk_at "om"); (case ste => with_unfolding_all walk_at "om"))
  | (refine Kf.w_gcons ?_)
  | (refine Kf.w_gnil ?_)
  | (refine Kf.w_gcd ?_)
  | (refine Kf.w_bits ?_)
  | (refine Kf.w_two ?_)
  | (refine Kf.w_ipI ?_)
  | (refine L2.iteT ?_)
  | (refine L2.iteF ?_)
  | (refine Kf.iteNT ?_)
  | (refine Kf.iteNF ?_)
  | (refine' Kf.ite_decT ?sth ?_; (case sth => exact rfl))
  | (refine' Kf.ite_decF ?sth ?_; (case sth => with_unfolding_all (intro e; cases e; done)))
  | (refine' Kf.ite_ndecF ?sth ?_; (case sth => exact rfl))
  | (refine' Kf.ite_ndecT ?sth ?_; (case sth => with_unfolding_all (intro e; cases e; done)))
  | (refine' Kf.ite_viT ?sth ?_; (case sth => (with_unfolding_all walk_at "om2")))
  | (refine' Kf.ite_viF ?sth ?_; (case sth => (with_unfolding_all walk_at "om2")))
  | (refine' Kf.ite_nviT ?sth ?_; (case sth => (with_unfolding_all walk_at "om2")))
  | (refine' Kf.ite_nviF ?sth ?_; (case sth => (with_unfolding_all walk_at "om2")))
  | (refine' Kf.ite_decT ?sth ?_; (case sth => (with_unfolding_all walk_at "om2")))
  | (refine' Kf.ite_decF ?sth ?_; (case sth => (with_unfolding_all walk_at "om2")))
  | with_unfolding_all walk_at "calls")
local macro_rules | `(tactic| walk_at "go") => `(tactic| repeat walk_at "st")

namespace Kf
open PySem PySem.Spec PyProof.Rows L2
abbrev s__law_whole : Stmt := topS 19
abbrev N__law_whole : List Str := ["value"]
abbrev P__law_whole : List Str := ["value"]
theorem sc__law_whole : FnScope N__law_whole P__law_whole (defScope s__law_whole) := ⟨rfl, rfl, rfl, by decide +kernel, rfl, by decide +kernel, by decide +kernel⟩
/-! ### data: numbers, texts, truths, None, lists, tuples -/
mutual
inductive Dq (H : Hp) : V → PyData → Prop
  | non : Dq H .non .none
  | bl (b : Bool) : Dq H (.bl b) (.bool b)
  | int (i : Int) : Dq H (.int i) (.int i)
  | str (x : Str) : Dq H (.str x) (.str x)
  | lst {a : Addr} {xs : List V} {ds : List PyData} : H a = some (.lst xs) → ¬ Pl (.lst xs) → DqAll H xs ds → Dq H (.ref a) (.list ds)
  | tup {a : Addr} {xs : List V} {ds : List PyData} : H a = some (.tup xs) → DqAll H xs ds → Dq H (.ref a) (.tuple ds)
inductive DqAll (H : Hp) : List V → List PyData → Prop
  | nil : DqAll H [] []
  | cons {v : V} {vs : List V} {d : PyData} {ds : List PyData} : Dq H v d → DqAll H vs ds → DqAll H (v :: vs) (d :: ds)
end
mutual
theorem Dq.ext {H H' : Hp} (e : Ext H H') : ∀ {v : V} {d : PyData}, Dq H v d → Dq H' v d
  | _, _, .non => .non
  | _, _, .bl b => .bl b
  | _, _, .int i => .int i
  | _, _, .str x => .str x
  | _, _, .lst h n r => .lst (e.get h n) n (DqAll.ext e r)
  | _, _, .tup h r => .tup (e.get h (npl rfl)) (DqAll.ext e r)
theorem DqAll.ext {H H' : Hp} (e : Ext H H') : ∀ {vs : List V} {ds : List PyData}, DqAll H vs ds → DqAll H' vs ds
  | _, _, .nil => .nil
  | _, _, .cons h r => .cons (Dq.ext e h) (DqAll.ext e r)
end
mutual
theorem Dq.dp {H : Hp} {K : PySem.W.Frag} : ∀ {v : V} {d : PyData}, Dq H v d → Dp K H v d
  | _, _, .non => .non
  | _, _, .bl b => .bl b
  | _, _, .int i => .int i
  | _, _, .str x => .str x
  | _, _, .lst h _ r => .lst (SqL.of h) (DqAll.dp r)
  | _, _, .tup h r => .tup (SqT.of h) (DqAll.dp r)
theorem DqAll.dp {H : Hp} {K : PySem.W.Frag} : ∀ {vs : List V} {ds : List PyData}, DqAll H vs ds → DpAll K H vs ds
  | _, _, .nil => .nil
  | _, _, .cons h r => .cons (Dq.dp h) (DqAll.dp r)
end
theorem DqAll.len {H : Hp} : ∀ {vs : List V} {ds : List PyData}, DqAll H vs ds → vs.length = ds.length
  | _, _, .nil => rfl
  | _, _, .cons _ r => by simp [DqAll.len r]
theorem DqAll.get {H : Hp} : ∀ {vs : List V} {ds : List PyData} {i : Nat} {v : V}, DqAll H vs ds → vs[i]? = some v → ∃ d, ds[i]? = some d ∧ Dq H v d
  | _, _, _, _, .nil, h => by simp at h
  | _, _, 0, _, .cons q r, h => by
    simp at h
    subst h
    exact ⟨_, rfl, q⟩
  | _, _, i + 1, _, .cons q r, h => by
    obtain ⟨d, e, q'⟩ := DqAll.get (i := i) r (by simpa using h)
    exact ⟨d, by simpa using e, q'⟩
theorem DqAll.ints {H : Hp} : ∀ ns : List Int, DqAll H (ns.map V.int) (ns.map PyData.int)
  | [] => .nil
  | n :: r => .cons (.int n) (DqAll.ints r)
/-- few levels, no list of more than a thousand -/
def Sm : Nat → PyData → Prop
  | 0, .list _ => False
  | 0, .tuple _ => False
  | n + 1, .list ds => ds.length ≤ 1000 ∧ ∀ d ∈ ds, Sm n d
  | n + 1, .tuple ds => ds.length ≤ 1000 ∧ ∀ d ∈ ds, Sm n d
  | _, .dict _ => False
  | _, _ => True
def spWhole (K : PySem.W.Frag) : Sp := fun vs H Q _ => ∃ i : Int, vs = [.int i] ∧ Q (.bl true) H
def spAlike (n : Nat) : Sp := fun vs H Q _ => ∃ (t u : V) (d : PyData), vs = [t, u] ∧ Dq H t d ∧ Dq H u d ∧ Sm n d ∧ ∀ H', Ext H H' → Q (.bl true) H'
section
variable {P : Program} {w : World} {K : PySem.W.Frag} {mg : Str → Option Value} {base : Heap} {H : Hp} {Q : VK} {E : XK}
theorem call_whole {i : Int} (q : Q (.bl true) H) : spWhole K ([.int i] ++ []) H Q E := ⟨i, rfl, q⟩
theorem call_alike {n : Nat} {t u : V} {d : PyData} (h1 : Dq H t d) (h2 : Dq H u d) (hs : Sm n d) (q : ∀ H', Ext H H' → Q (.bl true) H') : spAlike n ([t, u] ++ []) H Q E := ⟨t, u, d, rfl, h1, h2, hs, q⟩
theorem ok_whole (D : Df K mg "_law_whole" s__law_whole P__law_whole) (b_isinstance : mg "isinstance" = none) (b_int : mg "int" = none) (b_bool : mg "bool" = none) : Pr P w K mg base "_law_whole" 1 P__law_whole (spWhole K) := by
  refine D.ok sc__law_whole (fun vs H Q E h => ?_) (fun f cdv A outer s H vs Q E hr h => ?_)
  · obtain ⟨i, rfl, _⟩ := h; rfl
  obtain ⟨i, rfl, q⟩ := h
  have nd := sc__law_whole.nd
  refine ⟨_, (pss_one (ps_ret (pe_and (pe_callB (call_isiK1 (K := K) rfl) (by rfl) b_isinstance (by decide +kernel) (pa_cons (pv 0) (pa_cons (pe_bltn (v := .ty "int") (by rfl) b_int (by decide +kernel) rfl) pa_nil))) (pe_one (pe_not (pe_callB (call_isiK1 (K := K) rfl) (by rfl) b_isinstance (by decide +kernel) (pa_cons (pv 0) (pa_cons (pe_bltn (v := .ty "bool") (by rfl) b_bool (by decide +kernel) rfl) pa_nil)))))))), ?_⟩
  refine w_start (σ := [some _]) rfl ?_
  walk_at "go"
  exact q
theorem Df.never {x : Str} {st : Stmt} {ps : List Str} (D : Df K mg x st ps) (sp : Sp) (h : ∀ vs H Q E, ¬ sp vs H Q E) : Pr P w K mg base x 0 ps sp := by
  obtain ⟨f, fd, F, b, g⟩ := D.ex
  obtain ⟨oc, od, kV, doc, pm, an, cdv, ct, osl, e, lk, hcd⟩ := F.ex
  exact ⟨f, fd, ⟨fun vs H Q E q => absurd q (h _ _ _ _), fun A outer s H args us vs Q E _ _ _ _ q => absurd q (h _ _ _ _)⟩, b, F.kp, g, oc, od, osl, lk⟩
end
abbrev s__law_alike : Stmt := topS 21
abbrev N__law_alike : List Str := ["told", "due", "k"]
abbrev P__law_alike : List Str := ["told", "due"]
theorem sc__law_alike : FnScope N__law_alike P__law_alike (defScope s__law_alike) := ⟨rfl, rfl, rfl, by decide +kernel, rfl, by decide +kernel, by decide +kernel⟩
theorem neB {a : Bool} : (!decide (V.bl a = V.bl a)) = false := by simp
section
variable {P : Program} {w : World} {K : PySem.W.Frag} {mg : Str → Option Value} {base : Heap} {H : Hp} {Q : VK} {E : XK}
theorem ok_alike_step {n m : Nat} (D : Df K mg "_law_alike" s__law_alike P__law_alike) (b_isinstance : mg "isinstance" = none) (b_int : mg "int" = none) (b_bool : mg "bool" = none) (b_list : mg "list" = none) (b_tuple : mg "tuple" = none) (b_str : mg "str" = none) (b_len : mg "len" = none) (b_range : mg "range" = none)
    (p__law_whole : Pr P w K mg base "_law_whole" 1 P__law_whole (spWhole K)) (sp : Sp) (p__law_alike : Pr P w K mg base "_law_alike" m P__law_alike sp) (hm : m ≤ n + 1) (hsp : ∀ k vs H Q E, n = k + 1 → spAlike k vs H Q E → sp vs H Q E) : Pr P w K mg base "_law_alike" (n + 2) P__law_alike (spAlike n) := by
  refine D.ok sc__law_alike (fun vs H Q E h => ?_) (fun f cdv A outer s H vs Q E hr h => ?_)
  · obtain ⟨t, u, d, rfl, _⟩ := h; rfl
  obtain ⟨t, u, d, rfl, h1, h2, hs, q⟩ := h
  have nd := sc__law_alike.nd
  have hr1 : Room 1 _ := hr.mono (j := 1) (by omega)
  have hrm := hr.mono hm
  refine ⟨_, (pss_cons (ps_if (PW.pt (pw_or (pt_val (pe_callB (call_isiK1 (K := K) rfl) (by rfl) b_isinstance (by decide +kernel) (pa_cons (pv 1) (pa_cons (pe_bltn (v := .ty "list") (by rfl) b_list (by decide +kernel) rfl) pa_nil)))) (pw_or1 (pt_val (pe_callB (call_isiK1 (K := K) rfl) (by rfl) b_isinstance (by decide +kernel) (pa_cons (pv 1) (pa_cons (pe_bltn (v := .ty "tuple") (by rfl) b_tuple (by decide +kernel) rfl) pa_nil))))))) (pss_cons (ps_if (PW.pt (pw_or (pt_cmpR op_ne (pe_callB (call_isiK1 (K := K) rfl) (by rfl) b_isinstance (by decide +kernel) (pa_cons (pv 0) (pa_cons (pe_bltn (v := .ty "list") (by rfl) b_list (by decide +kernel) rfl) pa_nil))) (pe_callB (call_isiK1 (K := K) rfl) (by rfl) b_isinstance (by decide +kernel) (pa_cons (pv 1) (pa_cons (pe_bltn (v := .ty "list") (by rfl) b_list (by decide +kernel) rfl) pa_nil))) (nomark _)) (pw_or1 (pt_cmpR op_ne (pe_callB (call_isiK1 (K := K) rfl) (by rfl) b_isinstance (by decide +kernel) (pa_cons (pv 0) (pa_cons (pe_bltn (v := .ty "tuple") (by rfl) b_tuple (by decide +kernel) rfl) pa_nil))) (pe_callB (call_isiK1 (K := K) rfl) (by rfl) b_isinstance (by decide +kernel) (pa_cons (pv 1) (pa_cons (pe_bltn (v := .ty "tuple") (by rfl) b_tuple (by decide +kernel) rfl) pa_nil))) (nomark _))))) (pss_one (ps_ret pe_bl)) pss_nil)
      (pss_cons (ps_if (pt_cmpR op_ne (pe_callB (call_lenK (K := K) rfl) (by rfl) b_len PySem.boot_len (pa_cons (pv 0) pa_nil)) (pe_callB (call_lenK (K := K) rfl) (by rfl) b_len PySem.boot_len (pa_cons (pv 1) pa_nil)) (nomark _)) (pss_one (ps_ret pe_bl)) pss_nil)
      (pss_one (ps_ret (pe_cmpR op_eq (pe_callB (call_lenK (K := K) rfl) (by rfl) b_len PySem.boot_len (pa_cons (pe_lc (own := [("k", 2)]) rfl nd (pi_range1 (by rfl) b_range (pa_cons (pe_callB (call_lenK (K := K) rfl) (by rfl) b_len PySem.boot_len (pa_cons (pv 1) pa_nil)) pa_nil)) (blkOk_by (N := N__law_alike) (sc := defScope s__law_alike) (by decide +kernel)) (fun _ _ _ _ _ => pg_name (i := 2) nd rfl (Or.inl rfl)) (fun _ _ _ _ _ => pts_one (pt_not (pt_val (pe_callP p__law_alike hrm (pa_cons (pe_ix (ix_seqK (K := K) rfl) (pv 0) (pv 2) (fun _ _ => rfl)) (pa_cons (pe_ix (ix_seqK (K := K) rfl) (pv 1) (pv 2) (fun _ _ => rfl)) pa_nil)) (Nat.le_refl _))))) (fun _ _ _ _ _ => (pv 2))) pa_nil)) pe_int (nomark _)))))) pss_nil)
      (pss_cons (ps_if (pt_cmp (pc_isN (pv 1))) (pss_one (ps_ret (pe_cmp (pc_isN (pv 0))))) pss_nil)
      (pss_cons (ps_if (pt_val (pe_callB (call_isiK1 (K := K) rfl) (by rfl) b_isinstance (by decide +kernel) (pa_cons (pv 1) (pa_cons (pe_bltn (v := .ty "bool") (by rfl) b_bool (by decide +kernel) rfl) pa_nil)))) (pss_one (ps_ret (pe_and (pe_callB (call_isiK1 (K := K) rfl) (by rfl) b_isinstance (by decide +kernel) (pa_cons (pv 0) (pa_cons (pe_bltn (v := .ty "bool") (by rfl) b_bool (by decide +kernel) rfl) pa_nil))) (pe_one (pe_cmpR op_eq (pv 0) (pv 1) (nomark _)))))) pss_nil)
      (pss_cons (ps_if (pt_val (pe_callB (call_isiK1 (K := K) rfl) (by rfl) b_isinstance (by decide +kernel) (pa_cons (pv 1) (pa_cons (pe_bltn (v := .ty "str") (by rfl) b_str (by decide +kernel) rfl) pa_nil)))) (pss_one (ps_ret (pe_and (pe_callB (call_isiK1 (K := K) rfl) (by rfl) b_isinstance (by decide +kernel) (pa_cons (pv 0) (pa_cons (pe_bltn (v := .ty "str") (by rfl) b_str (by decide +kernel) rfl) pa_nil))) (pe_one (pe_cmpR op_eq (pv 0) (pv 1) (nomark _)))))) pss_nil)
      (pss_one (ps_ret (pe_and (pe_callP p__law_whole hr1 (pa_cons (pv 0) pa_nil) (Nat.le_refl _)) (pe_one (pe_cmpR op_eq (pv 0) (pv 1) (nomark _)))))))))), ?_⟩
  cases h2 with
  | non =>
    cases h1
    refine w_start (σ := [some _, some _, none]) rfl ?_
    walk_at "go"
    exact q _ Ext.refl
  | bl b =>
    cases h1
    refine w_start (σ := [some _, some _, none]) rfl ?_
    walk_at "go"
    rw [decide_eq_true rfl]
    exact q _ Ext.refl
  | int i =>
    cases h1
    refine w_start (σ := [some _, some _, none]) rfl ?_
    walk_at "go"
    refine call_whole ?_
    walk_at "go"
    rw [decide_eq_true rfl]
    exact q _ Ext.refl
  | str x =>
    cases h1
    refine w_start (σ := [some _, some _, none]) rfl ?_
    walk_at "go"
    rw [decide_eq_true rfl]
    exact q _ Ext.refl
  | @lst b ys ds hb nb rb =>
    cases h1 with
    | @lst a xs _ ha na ra =>
      cases n with
      | zero => exact hs.elim
      | succ n =>
        obtain ⟨hl, hs⟩ := hs
        have e1 := ra.len
        have e2 := rb.len
        refine w_start (σ := [some _, some _, none]) rfl ?_
        walk_at "go"
        refine lc_r (R := fun _ acc _ => acc = []) rfl (fun _ _ _ _ _ h => h) ?_ ?_
        · rintro i acc D' H1 hi hD hacc hE rfl
          have hia : i < xs.length := by omega
          have hib : i < ys.length := by omega
          obtain ⟨d, hd, q1⟩ := ra.get (List.getElem?_eq_getElem hia)
          obtain ⟨d', hd', q2⟩ := rb.get (List.getElem?_eq_getElem hib)
          rw [hd] at hd'
          cases hd'
          walk_at "go"
          simp only [Int.zero_add]
          refine .inl ⟨_, _, _, _, rfl, rfl, SqL.of (hE.get ha na), atI_nat (j := i) (List.getElem?_eq_getElem hia), ?_⟩
          walk_at "go"
          refine .inl ⟨_, _, _, _, rfl, rfl, SqL.of (hE.get hb nb), atI_nat (j := i) (List.getElem?_eq_getElem hib), ?_⟩
          walk_at "go"
          refine hsp n _ _ _ _ rfl (call_alike (q1.ext hE) (q2.ext hE) (hs d (List.mem_of_getElem? hd)) fun H' hE' => ?_)
          walk_at "go"
          exact LcP.skip hacc npl_nil hE hE' rfl
        · rintro D' acc H1 hD hacc hE rfl
          walk_at "go"
          exact q _ hE
  | @tup b ys ds hb rb =>
    cases h1 with
    | @tup a xs _ ha ra =>
      cases n with
      | zero => exact hs.elim
      | succ n =>
        obtain ⟨hl, hs⟩ := hs
        have e1 := ra.len
        have e2 := rb.len
        refine w_start (σ := [some _, some _, none]) rfl ?_
        walk_at "go"
        refine lc_r (R := fun _ acc _ => acc = []) rfl (fun _ _ _ _ _ h => h) ?_ ?_
        · rintro i acc D' H1 hi hD hacc hE rfl
          have hia : i < xs.length := by omega
          have hib : i < ys.length := by omega
          obtain ⟨d, hd, q1⟩ := ra.get (List.getElem?_eq_getElem hia)
          obtain ⟨d', hd', q2⟩ := rb.get (List.getElem?_eq_getElem hib)
          rw [hd] at hd'
          cases hd'
          walk_at "go"
          simp only [Int.zero_add]
          refine .inr (.inl ⟨_, _, _, _, rfl, rfl, SqT.of (hE.get ha (npl rfl)), atI_nat (j := i) (List.getElem?_eq_getElem hia), ?_⟩)
          walk_at "go"
          refine .inr (.inl ⟨_, _, _, _, rfl, rfl, SqT.of (hE.get hb (npl rfl)), atI_nat (j := i) (List.getElem?_eq_getElem hib), ?_⟩)
          walk_at "go"
          refine hsp n _ _ _ _ rfl (call_alike (q1.ext hE) (q2.ext hE) (hs d (List.mem_of_getElem? hd)) fun H' hE' => ?_)
          walk_at "go"
          exact LcP.skip hacc npl_nil hE hE' rfl
        · rintro D' acc H1 hD hacc hE rfl
          walk_at "go"
          exact q _ hE
theorem ok_alike (D : Df K mg "_law_alike" s__law_alike P__law_alike) (b_isinstance : mg "isinstance" = none) (b_int : mg "int" = none) (b_bool : mg "bool" = none) (b_list : mg "list" = none) (b_tuple : mg "tuple" = none) (b_str : mg "str" = none) (b_len : mg "len" = none) (b_range : mg "range" = none)
    (p__law_whole : Pr P w K mg base "_law_whole" 1 P__law_whole (spWhole K)) : ∀ n : Nat, Pr P w K mg base "_law_alike" (n + 2) P__law_alike (spAlike n)
  | 0 => ok_alike_step D b_isinstance b_int b_bool b_list b_tuple b_str b_len b_range p__law_whole (fun _ _ _ _ => False) (D.never _ fun _ _ _ _ h => h) (by omega) (fun k vs H Q E e _ => by omega)
  | n + 1 => ok_alike_step D b_isinstance b_int b_bool b_list b_tuple b_str b_len b_range p__law_whole _ (ok_alike D b_isinstance b_int b_bool b_list b_tuple b_str b_len b_range p__law_whole n) (by omega) (fun k vs H Q E e h => by
    have e' : n = k := by omega
    subst e'
    exact h)
end
end Kf

end
section
set_option Elab.async false
set_option linter.all false
set_option maxRecDepth 100000
set_option maxHeartbeats 4000000
namespace Kf
open PySem PySem.Spec PyProof.Rows L2
theorem npl_nobl {xs : List V} (h : ∀ x ∈ xs, ∀ b, x ≠ .bl b) : ¬ Pl (.lst xs) := by
  rintro ⟨c, k, b, s, e⟩
  have e := HO.lst.inj e
  subst e
  exact h (.bl b) (by simp) b rfl
/-! ### lists of data -/
def isSq : PyData → Prop
  | .list _ => True
  | .tuple _ => True
  | _ => False
theorem DqAll.nobl {H : Hp} : ∀ {vs : List V} {ds : List PyData}, DqAll H vs ds → (∀ d ∈ ds, isSq d) → ∀ x ∈ vs, ∀ b, x ≠ .bl b
  | _, _, .nil, _, x, hx, b, e => by cases hx
  | _, _, .cons h t, hd, x, hx, b, e => by
    rcases List.mem_cons.mp hx with z | z
    · subst z e
      cases h
      exact hd _ List.mem_cons_self
    · exact DqAll.nobl t (fun d hd' => hd d (List.mem_cons_of_mem _ hd')) x z b e
theorem DqAll.npl {H : Hp} {vs : List V} {ds : List PyData} (h : DqAll H vs ds) (hd : ∀ d ∈ ds, isSq d) : ¬ Pl (.lst vs) := npl_nobl (h.nobl hd)
theorem DqAll.snoc {H : Hp} {v : V} {d : PyData} (q : Dq H v d) : ∀ {vs : List V} {ds : List PyData}, DqAll H vs ds → DqAll H (vs ++ [v]) (ds ++ [d])
  | _, _, .nil => .cons q .nil
  | _, _, .cons h t => .cons h (DqAll.snoc q t)
theorem DqAll.append {H : Hp} {ws : List V} {es : List PyData} (q : DqAll H ws es) : ∀ {vs : List V} {ds : List PyData}, DqAll H vs ds → DqAll H (vs ++ ws) (ds ++ es)
  | _, _, .nil => q
  | _, _, .cons h t => .cons h (DqAll.append q t)
theorem DqAll.drop {H : Hp} : ∀ {vs : List V} {ds : List PyData} (n : Nat), DqAll H vs ds → DqAll H (vs.drop n) (ds.drop n)
  | _, _, 0, h => h
  | _, _, _ + 1, .nil => .nil
  | _, _, n + 1, .cons _ t => DqAll.drop n t
theorem DqAll.take {H : Hp} : ∀ {vs : List V} {ds : List PyData} (n : Nat), DqAll H vs ds → DqAll H (vs.take n) (ds.take n)
  | _, _, 0, _ => .nil
  | _, _, _ + 1, .nil => .nil
  | _, _, n + 1, .cons h t => .cons h (DqAll.take n t)
theorem Dq.ls {H : Hp} {v : V} {ds : List PyData} (h : Dq H v (.list ds)) : ∃ a vs, v = .ref a ∧ H a = some (.lst vs) ∧ ¬ Pl (.lst vs) ∧ DqAll H vs ds := by
  cases h with
  | lst h n r => exact ⟨_, _, rfl, h, n, r⟩
abbrev lsD (r : List Int) : PyData := .list (r.map .int)
abbrev tpD (c : List Int) : PyData := .tuple (c.map .int)
theorem sq_ls (rs : List (List Int)) : ∀ d ∈ rs.map lsD, isSq d := fun d hd => by
  obtain ⟨r, _, e⟩ := List.mem_map.mp hd
  subst e; trivial
theorem sq_tp (rs : List (List Int)) : ∀ d ∈ rs.map tpD, isSq d := fun d hd => by
  obtain ⟨r, _, e⟩ := List.mem_map.mp hd
  subst e; trivial
theorem map_at {α : Type} {f : α → PyData} {l : List α} {i : Nat} {d : PyData} (h : (l.map f)[i]? = some d) : ∃ a, l[i]? = some a ∧ d = f a := by
  rw [List.getElem?_map] at h
  cases e : l[i]? with
  | none => rw [e] at h; cases h
  | some a => rw [e] at h; exact ⟨a, rfl, (Option.some.inj h).symm⟩
theorem DqAll.rev {H : Hp} : ∀ {vs : List V} {ds : List PyData}, DqAll H vs ds → DqAll H vs.reverse ds.reverse
  | _, _, .nil => .nil
  | _, _, .cons h t => by rw [List.reverse_cons, List.reverse_cons]; exact DqAll.append (.cons h .nil) (DqAll.rev t)
theorem DqAll.el {H : Hp} {vs : List V} {ds : List PyData} {i : Nat} {d : PyData} (h : DqAll H vs ds) (e : ds[i]? = some d) : ∃ v, vs[i]? = some v ∧ Dq H v d := by
  have hi : i < vs.length := by rw [h.len]; exact (List.getElem?_eq_some_iff.mp e).1
  obtain ⟨d', e', q⟩ := h.get (List.getElem?_eq_getElem hi)
  rw [e] at e'
  cases e'
  exact ⟨_, List.getElem?_eq_getElem hi, q⟩
/-- a list of its own at a, all under it beside it -/
def Own (H : Hp) (a : Addr) (ds : List PyData) : Prop := ∃ vs, H a = some (.lst vs) ∧ DqAll (del H a) vs ds
theorem Own.ext {H H' : Hp} {a : Addr} {ds : List PyData} (o : Own H a ds) (hd : ∀ d ∈ ds, isSq d) (e : Ext H H') : Own H' a ds := by
  obtain ⟨vs, h, r⟩ := o
  exact ⟨vs, e.get h (r.npl hd), r.ext (Ext.del e)⟩
theorem Own.nil {H : Hp} {p : Addr} : Own (upd H p (.lst [])) p [] := ⟨[], upd_same, .nil⟩
theorem Own.push {H : Hp} {a : Addr} {vs : List V} {ds : List PyData} {v : V} {d : PyData} (r : DqAll (del H a) vs ds) (q : Dq (del H a) v d) : Own (upd H a (.lst (vs ++ [v]))) a (ds ++ [d]) := ⟨_, upd_same, by rw [del_upd]; exact r.snoc q⟩
theorem Own.dq {H : Hp} {a : Addr} {ds : List PyData} (o : Own H a ds) (hd : ∀ d ∈ ds, isSq d) : Dq H (.ref a) (.list ds) := by
  obtain ⟨vs, h, r⟩ := o
  exact .lst h (r.npl hd) (r.ext del_sub)
theorem small_len {vs : List V} {n : Nat} (h : vs.length = n) (l : n ≤ 1000) : vs.length < sizeLine := small1000 (by omega)
end Kf

end
section
set_option maxRecDepth 100000
namespace R0
/-- p / q in lowest terms -/
theorem low_num {p q : Int} (h0 : 0 < q) (hc : Int.gcd p q = 1) : (Rat.divInt p q).num = p := by
  rw [Rat.num_divInt, Int.sign_eq_one_of_pos h0, Int.gcd_comm, hc]; simp
theorem low_den {p q : Int} (h0 : 0 < q) (hc : Int.gcd p q = 1) : ((Rat.divInt p q).den : Int) = q := by
  rw [Rat.den_divInt, if_neg (by omega), Int.gcd_comm, hc, Nat.div_one]; omega
theorem gcd_one {p q u v : Int} (h : p * u + q * v = 1 ∨ p * u + q * v = -1) : Int.gcd p q = 1 := by
  have h1 : ((Int.gcd p q : Nat) : Int) ∣ p * u + q * v := Int.dvd_add (Int.dvd_mul_of_dvd_left (Int.gcd_dvd_left _ _)) (Int.dvd_mul_of_dvd_left (Int.gcd_dvd_right _ _))
  have h2 : ((Int.gcd p q : Nat) : Int) ∣ 1 := by
    rcases h with h | h
    · rw [h] at h1; exact h1
    · rw [h] at h1; exact (Int.dvd_neg.mp h1)
  have h3 := Int.natAbs_dvd_natAbs.mpr h2
  simpa using h3
/-- numbers of less than n bits -/
def Bd (n : Nat) (r : Rat) : Prop := r.num.natAbs < 2 ^ n ∧ r.den < 2 ^ n
theorem Bd.up {n m : Nat} {r : Rat} (h : Bd n r) (l : n ≤ m) : Bd m r := ⟨Nat.lt_of_lt_of_le h.1 (Nat.pow_le_pow_right (by decide) l), Nat.lt_of_lt_of_le h.2 (Nat.pow_le_pow_right (by decide) l)⟩
theorem Bd.div {n : Nat} {p q : Int} (hp : p.natAbs < 2 ^ n) (hq : q.natAbs < 2 ^ n) (h0 : q ≠ 0) : Bd n (Rat.divInt p q) := by
  constructor
  · rw [Rat.num_divInt, Int.natAbs_ediv_of_dvd (Int.dvd_mul_of_dvd_right (Int.gcd_dvd_right _ _)), Int.natAbs_mul, Int.natAbs_sign_of_ne_zero h0, Nat.one_mul]
    exact Nat.lt_of_le_of_lt (Nat.div_le_self _ _) hp
  · rw [Rat.den_divInt, if_neg h0]
    exact Nat.lt_of_le_of_lt (Nat.div_le_self _ _) hq
theorem den_ne (a : Rat) : ((a.den : Int) : Rat) ≠ 0 := by
  have := a.den_nz; intro e; exact this (by exact_mod_cast e)
theorem at_div (a : Rat) : ((a.num : Int) : Rat) / ((a.den : Int) : Rat) = a := by
  have ha := Rat.num_divInt_den a
  rw [Rat.divInt_eq_div] at ha
  exact ha
theorem num_ne {a : Rat} (h : a ≠ 0) : ((a.num : Int) : Rat) ≠ 0 := by
  intro e
  have := at_div a
  rw [e] at this
  exact h (by rw [← this]; grind)
theorem add_div (a b : Rat) : Rat.divInt (a.num * b.den + b.num * a.den) (a.den * b.den) = a + b := by
  rw [Rat.divInt_eq_div, Rat.intCast_add, Rat.intCast_mul, Rat.intCast_mul, Rat.intCast_mul]
  have ha := at_div a; have hb := at_div b; have na := den_ne a; have nb := den_ne b
  generalize ((a.num : Int) : Rat) = p at *
  generalize ((b.num : Int) : Rat) = q at *
  generalize ((a.den : Int) : Rat) = s at *
  generalize ((b.den : Int) : Rat) = t at *
  subst ha hb
  grind
theorem sub_div (a b : Rat) : Rat.divInt (a.num * b.den - b.num * a.den) (a.den * b.den) = a - b := by
  rw [Rat.divInt_eq_div, Rat.intCast_sub, Rat.intCast_mul, Rat.intCast_mul, Rat.intCast_mul]
  have ha := at_div a; have hb := at_div b; have na := den_ne a; have nb := den_ne b
  generalize ((a.num : Int) : Rat) = p at *
  generalize ((b.num : Int) : Rat) = q at *
  generalize ((a.den : Int) : Rat) = s at *
  generalize ((b.den : Int) : Rat) = t at *
  subst ha hb
  grind
theorem mul_div (a b : Rat) : Rat.divInt (a.num * b.num) (a.den * b.den) = a * b := by
  rw [Rat.divInt_eq_div, Rat.intCast_mul, Rat.intCast_mul]
  have ha := at_div a; have hb := at_div b; have na := den_ne a; have nb := den_ne b
  generalize ((a.num : Int) : Rat) = p at *
  generalize ((b.num : Int) : Rat) = q at *
  generalize ((a.den : Int) : Rat) = s at *
  generalize ((b.den : Int) : Rat) = t at *
  subst ha hb
  grind
theorem over_div {a b : Rat} (h : b ≠ 0) : Rat.divInt (a.num * b.den) (a.den * b.num) = a / b := by
  rw [Rat.divInt_eq_div, Rat.intCast_mul, Rat.intCast_mul]
  have ha := at_div a; have hb := at_div b; have na := den_ne a; have nb := den_ne b; have nn := num_ne h
  generalize ((a.num : Int) : Rat) = p at *
  generalize ((b.num : Int) : Rat) = q at *
  generalize ((a.den : Int) : Rat) = s at *
  generalize ((b.den : Int) : Rat) = t at *
  subst ha hb
  grind
/-! ### what the two ends of the division give -/
theorem ratio_pos {p q : Int} (h : 0 < q) : (Rat.divInt p q).num = p.fdiv (Nat.gcd p.natAbs q.natAbs : Nat) ∧ ((Rat.divInt p q).den : Int) = q.fdiv (Nat.gcd p.natAbs q.natAbs : Nat) := by
  have e : Nat.gcd p.natAbs q.natAbs = Int.gcd q p := by rw [Int.gcd_comm]; rfl
  rw [e, Int.fdiv_eq_ediv_of_nonneg _ (by omega), Int.fdiv_eq_ediv_of_nonneg _ (by omega), Rat.num_divInt, Rat.den_divInt, if_neg (by omega), Int.sign_eq_one_of_pos h, Int.one_mul]
  refine ⟨rfl, ?_⟩
  rw [Int.natCast_ediv, Int.natAbs_of_nonneg (by omega)]
theorem ratio_neg {p q : Int} (h : q < 0) : (Rat.divInt p q).num = p.fdiv (-(Nat.gcd p.natAbs q.natAbs : Nat)) ∧ ((Rat.divInt p q).den : Int) = q.fdiv (-(Nat.gcd p.natAbs q.natAbs : Nat)) := by
  have e : Rat.divInt p q = Rat.divInt (-p) (-q) := by
    rw [Rat.divInt_eq_div, Rat.divInt_eq_div, Rat.intCast_neg, Rat.intCast_neg]
    have : ((q : Int) : Rat) ≠ 0 := by intro z; have z : q = 0 := by exact_mod_cast z
                                       omega
    grind
  have h2 := ratio_pos (p := -p) (q := -q) (by omega)
  rw [← e, Int.natAbs_neg, Int.natAbs_neg] at h2
  have k : ∀ x g : Int, (-x).fdiv g = x.fdiv (-g) := fun x g => by
    have := Int.neg_fdiv_neg x (-g)
    rw [Int.neg_neg] at this
    exact this
  rw [k, k] at h2
  exact h2
theorem gcd_bits {p q : Int} {n : Nat} (hq : q.natAbs < 2 ^ n) (h0 : q ≠ 0) : Nat.gcd p.natAbs q.natAbs < 2 ^ n ∧ 0 < Nat.gcd p.natAbs q.natAbs := by
  have h : 0 < q.natAbs := by omega
  exact ⟨Nat.lt_of_le_of_lt (Nat.gcd_le_right _ h) hq, Nat.gcd_pos_of_pos_right _ h⟩
/-! ### tails -/
/-- the tail's top and bottom -/
def tt : List Int → Int × Int
  | [] => (1, 0)
  | a :: l => (a * (tt l).1 + (tt l).2, (tt l).1)
def Row (l : List Int) : Prop := ∀ a ∈ l, 1 ≤ a ∧ a ≤ 1000000
theorem tt_pos : ∀ {l : List Int}, Row l → 1 ≤ (tt l).1 ∧ 0 ≤ (tt l).2
  | [], _ => ⟨by decide, by decide⟩
  | a :: l, h => by
    obtain ⟨h1, h2⟩ := tt_pos (l := l) fun x hx => h x (List.mem_cons_of_mem _ hx)
    obtain ⟨h3, h4⟩ := h a List.mem_cons_self
    refine ⟨?_, by show 0 ≤ (tt l).1; omega⟩
    show 1 ≤ a * (tt l).1 + (tt l).2
    have : 1 * 1 ≤ a * (tt l).1 := Int.mul_le_mul h3 h1 (by omega) (by omega)
    omega
theorem tt_gcd : ∀ l : List Int, Int.gcd (tt l).1 (tt l).2 = 1
  | [] => by decide
  | a :: l => by
    show Int.gcd (a * (tt l).1 + (tt l).2) (tt l).1 = 1
    have h := tt_gcd l
    rw [Int.gcd_comm, Int.add_comm, Int.mul_comm, Int.gcd_add_mul_left_right]
    exact h
def Small (l : List Int) : Prop := ∀ a ∈ l, a.natAbs ≤ 1000000
theorem tt_bits : ∀ {l : List Int}, Small l → (tt l).1.natAbs ≤ 2 ^ (21 * l.length) ∧ (tt l).2.natAbs ≤ 2 ^ (21 * l.length)
  | [], _ => ⟨by decide, by decide⟩
  | a :: l, h => by
    obtain ⟨h1, h2⟩ := tt_bits (l := l) fun x hx => h x (List.mem_cons_of_mem _ hx)
    have h3 := h a List.mem_cons_self
    have e : 2 ^ (21 * (a :: l).length) = 2097152 * 2 ^ (21 * l.length) := by
      rw [List.length_cons, Nat.mul_add, Nat.pow_add, Nat.mul_comm]
    rw [e]
    refine ⟨?_, ?_⟩
    · show (a * (tt l).1 + (tt l).2).natAbs ≤ _
      have m := Int.natAbs_add_le (a * (tt l).1) (tt l).2
      have m2 : (a * (tt l).1).natAbs ≤ 1000000 * 2 ^ (21 * l.length) := by rw [Int.natAbs_mul]; exact Nat.mul_le_mul h3 h1
      omega
    · show (tt l).1.natAbs ≤ _
      omega
theorem bits_lt {x n : Nat} (h : x ≤ 2 ^ (21 * n)) (hn : n ≤ 41) : x < 2 ^ 900 := by
  set_option exponentiation.threshold 1000 in
  exact Nat.lt_of_le_of_lt h (Nat.pow_lt_pow_right (by decide) (by omega))
/-! ### the values -/
/-- the tail as a ratio -/
def xr (l : List Int) : Rat := Rat.divInt (tt l).1 (tt l).2
theorem cast_ne {q : Int} (h : q ≠ 0) : ((q : Int) : Rat) ≠ 0 := fun z => h (by exact_mod_cast z)
theorem xr_num {l : List Int} (h : 0 < (tt l).2) : (xr l).num = (tt l).1 := low_num h (tt_gcd l)
theorem xr_den {l : List Int} (h : 0 < (tt l).2) : ((xr l).den : Int) = (tt l).2 := low_den h (tt_gcd l)
theorem xr_one (a : Int) : xr [a] = (a : Rat) := by
  show Rat.divInt (a * 1 + 0) 1 = _
  rw [Rat.divInt_eq_div]; simp; grind
/-- one step of the fraction -/
theorem xr_step {a b : Int} {l : List Int} (h : Row (b :: l)) : xr (a :: b :: l) = (a : Rat) + 1 / xr (b :: l) := by
  have h1 := (tt_pos h).1
  have h2 := (tt_pos (l := l) fun x hx => h x (List.mem_cons_of_mem _ hx)).1
  have e1 : (tt (a :: b :: l)).1 = a * (tt (b :: l)).1 + (tt l).1 := rfl
  have e2 : (tt (a :: b :: l)).2 = (tt (b :: l)).1 := rfl
  have e3 : (tt (b :: l)).2 = (tt l).1 := rfl
  unfold xr
  rw [Rat.divInt_eq_div, Rat.divInt_eq_div, e1, e2, e3, Rat.intCast_add, Rat.intCast_mul]
  have n1 := cast_ne (q := (tt (b :: l)).1) (by omega)
  have n2 := cast_ne (q := (tt l).1) (by omega)
  generalize (((tt (b :: l)).1 : Int) : Rat) = p at *
  generalize (((tt l).1 : Int) : Rat) = q at *
  grind
theorem inv_low {p q : Int} (hp : 0 < p) (hq : q ≠ 0) : (1 : Rat) / Rat.divInt p q = Rat.divInt q p := by
  rw [Rat.divInt_eq_div, Rat.divInt_eq_div]
  have n1 := cast_ne (q := p) (by omega)
  have n2 := cast_ne hq
  generalize ((p : Int) : Rat) = p at *
  generalize ((q : Int) : Rat) = q at *
  grind
/-- the product of the tails is the first one's top -/
theorem prod_step {a b : Int} {l : List Int} (h : Row (b :: l)) : xr (a :: b :: l) * (((tt (b :: l)).1 : Int) : Rat) = (((tt (a :: b :: l)).1 : Int) : Rat) := by
  have h1 := (tt_pos h).1
  have e2 : (tt (a :: b :: l)).2 = (tt (b :: l)).1 := rfl
  unfold xr
  rw [Rat.divInt_eq_div, e2]
  have n1 := cast_ne (q := (tt (b :: l)).1) (by omega)
  generalize (((tt (b :: l)).1 : Int) : Rat) = p at *
  generalize (((tt (a :: b :: l)).1 : Int) : Rat) = q at *
  grind
/-! ### fronts -/
/-- before, last behind the numbers l (the first number stands in last) -/
def fr : (Int × Int) × (Int × Int) → List Int → (Int × Int) × (Int × Int)
  | s, [] => s
  | s, a :: l => fr (s.2, (a * s.2.1 + s.1.1, a * s.2.2 + s.1.2)) l
/-- what is held all the way: the determinant, the signs, the sum -/
structure Fok (T0 S0 : Int) (k : Nat) (s : (Int × Int) × (Int × Int)) (l : List Int) : Prop where
  det : s.2.1 * s.1.2 - s.1.1 * s.2.2 = 2 * ((k : Int) % 2) - 1
  q1 : 1 ≤ s.2.2
  q0 : 0 ≤ s.1.2
  top : T0 = s.2.1 * (tt l).1 + s.1.1 * (tt l).2
  bot : S0 = s.2.2 * (tt l).1 + s.1.2 * (tt l).2
  b1 : s.2.1.natAbs ≤ 2 ^ (21 * (k + 1))
  b2 : s.2.2.natAbs ≤ 2 ^ (21 * (k + 1))
  b3 : s.1.1.natAbs ≤ 2 ^ (21 * (k + 1))
  b4 : s.1.2.natAbs ≤ 2 ^ (21 * (k + 1))
theorem Fok.init {a : Int} {l : List Int} (h : a.natAbs ≤ 1000000) : Fok (tt (a :: l)).1 (tt (a :: l)).2 0 ((1, 0), (a, 1)) l where
  det := by simp
  q1 := by simp
  q0 := by simp
  top := by show a * (tt l).1 + (tt l).2 = a * (tt l).1 + 1 * (tt l).2; omega
  bot := by show (tt l).1 = 1 * (tt l).1 + 0 * (tt l).2; omega
  b1 := by show a.natAbs ≤ 2 ^ 21; omega
  b2 := by show (1 : Int).natAbs ≤ 2 ^ 21; decide
  b3 := by show (1 : Int).natAbs ≤ 2 ^ 21; decide
  b4 := by show (0 : Int).natAbs ≤ 2 ^ 21; decide
theorem Fok.next {T0 S0 a : Int} {k : Nat} {s : (Int × Int) × (Int × Int)} {l : List Int} (f : Fok T0 S0 k s (a :: l)) (h1 : 1 ≤ a) (h2 : a ≤ 1000000) : Fok T0 S0 (k + 1) (s.2, (a * s.2.1 + s.1.1, a * s.2.2 + s.1.2)) l := by
  obtain ⟨⟨p0, q0⟩, ⟨p1, q1⟩⟩ := s
  obtain ⟨det, f1, f0, top, bot, b1, b2, b3, b4⟩ := f
  dsimp only at *
  have tt1 : (tt (a :: l)).1 = a * (tt l).1 + (tt l).2 := rfl
  have tt2 : (tt (a :: l)).2 = (tt l).1 := rfl
  rw [tt1, tt2] at top bot
  have e : 2 ^ (21 * (k + 1 + 1)) = 2097152 * 2 ^ (21 * (k + 1)) := by
    rw [Nat.mul_add 21 (k + 1) 1, Nat.pow_add, Nat.mul_comm]
  have ab : a.natAbs ≤ 1000000 := by omega
  have bn : ∀ x y : Int, x.natAbs ≤ 2 ^ (21 * (k + 1)) → y.natAbs ≤ 2 ^ (21 * (k + 1)) → (a * x + y).natAbs ≤ 2 ^ (21 * (k + 1 + 1)) := fun x y hx hy => by
    rw [e]
    have m := Int.natAbs_add_le (a * x) y
    have m2 : (a * x).natAbs ≤ 1000000 * 2 ^ (21 * (k + 1)) := by rw [Int.natAbs_mul]; exact Nat.mul_le_mul ab hx
    omega
  constructor
  · dsimp only
    have : (a * p1 + p0) * q1 - p1 * (a * q1 + q0) = -(p1 * q0 - p0 * q1) := by grind
    rw [this, det]; omega
  · dsimp only
    have : 1 * 1 ≤ a * q1 := Int.mul_le_mul h1 f1 (by omega) (by omega)
    omega
  · dsimp only; omega
  · dsimp only; rw [top]; grind
  · dsimp only; rw [bot]; grind
  · exact bn _ _ b1 b3
  · exact bn _ _ b2 b4
  · rw [e]; dsimp only; omega
  · rw [e]; dsimp only; omega
theorem Fok.gcd {T0 S0 : Int} {k : Nat} {s : (Int × Int) × (Int × Int)} {l : List Int} (f : Fok T0 S0 k s l) : Int.gcd s.2.1 s.2.2 = 1 := by
  refine gcd_one (u := s.1.2) (v := -s.1.1) ?_
  have h := f.det
  have : s.2.1 * s.1.2 + s.2.2 * -s.1.1 = s.2.1 * s.1.2 - s.1.1 * s.2.2 := by grind
  rw [this, h]; omega
/-! ### the way down to the greatest common divisor -/
structure Eu (p q : Int) (L i : Nat) (a b : Int) : Prop where
  g : Nat.gcd a.natAbs b.natAbs = Nat.gcd p.natAbs q.natAbs
  b0 : 0 ≤ b
  a0 : 0 ≤ a
  z : i = 0 → b = q
  s : 1 ≤ i → b < a ∧ a * b * 2 ^ (i - 1) < 2 ^ (2 * L)
theorem Eu.init {p q : Int} {L : Nat} {a : Int} (hq : 0 < q) (h0 : 0 ≤ a) (h : a.natAbs = p.natAbs) : Eu p q L 0 a q := ⟨by rw [h], by omega, h0, fun _ => rfl, fun h => by omega⟩
theorem Eu.next {p q : Int} {L i : Nat} {a b : Int} (e : Eu p q L i a b) (hq : q < 2 ^ L) (hb : b ≠ 0) : Eu p q L (i + 1) b (a.fmod b) := by
  obtain ⟨g, b0, a0, z, s⟩ := e
  have bp : 0 < b := by omega
  have f : a.fmod b = a % b := Int.fmod_eq_emod_of_nonneg a b0
  have m0 := Int.emod_nonneg a hb
  have m1 := Int.emod_lt_of_pos a bp
  refine ⟨?_, by rw [f]; exact m0, b0, fun h => by omega, fun _ => ⟨by rw [f]; exact m1, ?_⟩⟩
  · rw [← g, f]
    have e1 : (a % b).natAbs = a.natAbs % b.natAbs := by rw [Int.natAbs_emod_of_nonneg a0]
    rw [e1, Nat.gcd_comm b.natAbs, ← Nat.gcd_rec, Nat.gcd_comm]
  · rw [f, Nat.add_sub_cancel]
    by_cases hi : i = 0
    · subst hi
      have hz := z rfl
      rw [Int.pow_zero, Int.mul_one]
      have l1 : b * (a % b) ≤ b * b := Int.mul_le_mul_of_nonneg_left (by omega) b0
      have l2 : b * b < 2 ^ L * 2 ^ L := by
        have hb' : b < 2 ^ L := by omega
        have x1 : b * b ≤ b * 2 ^ L := Int.mul_le_mul_of_nonneg_left (by omega) b0
        have x2 : b * 2 ^ L < 2 ^ L * 2 ^ L := Int.mul_lt_mul_of_pos_right hb' (by omega)
        omega
      have e2 : (2 : Int) ^ (2 * L) = 2 ^ L * 2 ^ L := by rw [Nat.two_mul, Int.pow_add]
      omega
    · obtain ⟨s1, s2⟩ := s (by omega)
      have d := Int.mul_ediv_add_emod a b
      have d1 : 1 ≤ a / b := Int.le_ediv_of_mul_le bp (by omega)
      have d2 : b * 1 ≤ b * (a / b) := Int.mul_le_mul_of_nonneg_left d1 b0
      have h2 : 2 * (a % b) ≤ a := by omega
      have e3 : (2 : Int) ^ i = 2 ^ (i - 1) * 2 := by
        have : i = i - 1 + 1 := by omega
        rw [this, Int.pow_succ, Nat.add_sub_cancel]
      have P : (0 : Int) < 2 ^ (i - 1) := Int.pow_pos (by decide)
      have l1 : b * (2 * (a % b)) ≤ b * a := Int.mul_le_mul_of_nonneg_left h2 b0
      have l2 : b * (2 * (a % b)) * 2 ^ (i - 1) ≤ b * a * 2 ^ (i - 1) := Int.mul_le_mul_of_nonneg_right l1 (by omega)
      have e4 : b * (a % b) * 2 ^ i = b * (2 * (a % b)) * 2 ^ (i - 1) := by rw [e3]; grind
      rw [e4]
      have e5 : b * a * 2 ^ (i - 1) = a * b * 2 ^ (i - 1) := by grind
      omega
theorem Eu.ends {p q : Int} {L : Nat} {a b : Int} (e : Eu p q L (2 * L + 5) a b) : b = 0 := by
  obtain ⟨s1, s2⟩ := e.s (by omega)
  have b0 := e.b0
  by_cases h : b = 0
  · exact h
  · exfalso
    have h1 : 1 * 1 ≤ a * b := Int.mul_le_mul (by omega) (by omega) (by omega) (by omega)
    have P : (0 : Int) < 2 ^ (2 * L + 5 - 1) := Int.pow_pos (by decide)
    have l1 : 1 * 2 ^ (2 * L + 5 - 1) ≤ a * b * 2 ^ (2 * L + 5 - 1) := Int.mul_le_mul_of_nonneg_right (by omega) (by omega)
    have e5 : (2 : Int) ^ (2 * L + 5 - 1) = 2 ^ (2 * L) * 16 := by
      have : 2 * L + 5 - 1 = 2 * L + 4 := by omega
      rw [this, Int.pow_add]; rfl
    have P2 : (0 : Int) < 2 ^ (2 * L) := Int.pow_pos (by decide)
    omega
theorem Eu.gcd {p q : Int} {L i : Nat} {a b : Int} (e : Eu p q L i a b) (h : b = 0) : a = (Nat.gcd p.natAbs q.natAbs : Nat) := by
  subst h
  have g := e.g
  have a0 := e.a0
  rw [Int.natAbs_zero, Nat.gcd_zero_right] at g
  omega
end R0

end
section
set_option Elab.async false
set_option linter.all false
set_option maxRecDepth 100000
set_option maxHeartbeats 4000000
local macro_rules | `(tactic| walk_at "npl") => `(tactic| first | exact Kf.npl rfl | exact Kf.npl_ints _ | exact Kf.npl_one _ _ | exact Kf.npl_refs _ | assumption)
local macro_rules | `(tactic| walk_at "nn") => `(tactic| first
  | assumption
  | (refine' Kf.Ext.non ?nne ?nnh; (case nne => assumption); (case nnh => walk_at "nn")))
local macro_rules | `(tactic| walk_at "ext") => `(tactic| first
  | assumption
  | exact Kf.Ext.refl
  | (refine' Kf.Ext.newer ?exa ?exn; (case exn => assumption); (case exa => walk_at "ext"))
  | (refine' Kf.Ext.own ?exa ?exn; (case exn => walk_at "nn"); (case exa => walk_at "ext"))
  | (refine' Kf.Ext.trans ?exa ?exb; (case exb => assumption); (case exa => walk_at "ext")))
local macro_rules | `(tactic| walk_at "pool") => `(tactic| first
  | assumption
  | (refine' Kf.PoolAt.ext ?plh ?ple; (case plh => assumption); (case ple => walk_at "ext"))
  | (refine' Kf.PoolAt.upd ?plh ?plo ?pln; (case plo => assumption); (case pln => walk_at "npl"); (case plh => walk_at "pool")))
local macro_rules | `(tactic| walk_at "lk") => `(tactic| first
  | assumption
  | exact L2.upd_same
  | (refine' Kf.upd_old ?lkn ?lkh; (case lkn => assumption); (case lkh => walk_at "lk"))
  | (refine' Kf.upd_oth ?lkn ?lkh; (case lkn => (first | assumption | (apply Ne.symm; assumption))); (case lkh => walk_at "lk"))
  | (refine' Kf.Ext.get ?lke ?lkh ?lkn; (case lke => assumption); (case lkh => walk_at "lk"); (case lkn => walk_at "npl"))
  | (refine' L2.Same.at ?lke ?lkh; (case lke => assumption); (case lkh => walk_at "lk")))
local macro_rules | `(tactic| walk_at "sq") => `(tactic| first
  | assumption
  | (refine' L2.SqL.of ?sqh; (case sqh => walk_at "lk"))
  | (refine' L2.SqT.of ?sqh; (case sqh => walk_at "lk"))
  | (refine' Kf.Ext.seqL ?sqe ?sqh ?sqn; (case sqh => assumption); (case sqe => walk_at "ext"); (case sqn => walk_at "npl"))
  | (refine' Kf.Ext.seqT ?sqe ?sqh; (case sqh => assumption); (case sqe => walk_at "ext")))
local macro_rules | `(tactic| walk_at "at") => `(tactic| first | exact L2.atI_nat (j := 0) rfl | exact L2.atI_nat (j := 1) rfl | exact L2.atI_nat (j := 2) rfl | exact L2.atI_nat (j := 3) rfl | exact L2.atI_nat (j := 4) rfl | assumption)
local macro_rules | `(tactic| walk_at "ixn") => `(tactic| first | exact Kf.ixN_nat (j := 0) rfl | exact Kf.ixN_nat (j := 1) rfl | exact Kf.ixN_nat (j := 2) rfl | exact Kf.ixN_nat (j := 3) rfl | assumption)
local macro_rules | `(tactic| walk_at "set") => `(tactic| (first | (simp only [List.set_cons_succ, List.set_cons_zero]; rfl) | rfl))
local macro_rules | `(tactic| walk_at "om") => `(tactic| first | decide | omega | (simp only [List.length_map, List.length_cons, List.length_nil] at *; omega))
local macro_rules | `(tactic| walk_at "calls") => `(tactic| first
  | (with_reducible refine' Kf.call_take ?clp ?cla ?clb ?clq; (case clp => walk_at "pool"); (case cla => walk_at "om"); (case clb => walk_at "om"); intro r H' hE h0 h1)
  | (with_reducible refine' Kf.call_pool ?cls ?cla ?clq; (case cls => walk_at "sq"); (case cla => walk_at "om"); intro p H' hE hN hP)
  | (with_reducible refine' Kf.call_turn ?cls ?clp ?cla ?clq; (case cls => walk_at "sq"); (case clp => walk_at "pool"); (case cla => walk_at "om"); intro u H' hE hP))
local macro_rules | `(tactic| walk_at "side") => `(tactic| first
  | exact Kf.cmul_fmod (by decide) (by decide)
  | exact rfl
  | decide
  | omega
  | assumption
  | (refine ⟨?_, ?_⟩ <;> decide)
  | (refine ⟨?_, ?_, ?_⟩ <;> decide)
  | (refine ⟨?_, ?_⟩ <;> omega)
  | (refine Or.inl ⟨?_, ?_⟩ <;> decide)
  | (refine Or.inr ⟨?_, ?_⟩ <;> decide)
  | (refine Or.inl ⟨?_, ?_⟩ <;> omega)
  | (refine Or.inr ⟨?_, ?_⟩ <;> omega))
local macro_rules | `(tactic| walk_at "kit") => `(tactic| first | exact Kf.isi_int_int | exact Kf.isi_int_bool | exact Kf.isi_int_str | exact Kf.isi_int_list | exact Kf.isi_int_tuple | exact Kf.isi_bool_int | exact Kf.isi_bool_bool | exact Kf.isi_bool_str | exact Kf.isi_bool_list | exact Kf.isi_bool_tuple | exact Kf.isi_str_int | exact Kf.isi_str_bool | exact Kf.isi_str_str | exact Kf.isi_str_list | exact Kf.isi_str_tuple | exact Kf.isi_non_list | exact Kf.isi_non_tuple | exact Kf.isi_list_list | exact Kf.isi_list_tuple | exact Kf.isi_tuple_list | exact Kf.isi_tuple_tuple | exact Kf.isi_dict_dict)
local macro_rules | `(tactic| walk_at "ty") => `(tactic| first
  | exact L2.TyX.base (L2.TyOf.int _)
  | exact L2.TyX.base (L2.TyOf.bl _)
  | exact L2.TyX.base (L2.TyOf.str _)
  | exact L2.TyX.base L2.TyOf.non
  | (refine' L2.TyX.base (L2.TyOf.lst ?tyh); (case tyh => walk_at "lk"))
  | (refine' L2.TyX.base (L2.TyOf.tup ?tyh); (case tyh => walk_at "lk"))
  | (refine' L2.TyX.base (L2.TyOf.dK ?tyh); (case tyh => walk_at "lk")))
local macro_rules | `(tactic| walk_at "om2") => `(tactic| first | assumption | decide | omega)
local macro_rules | `(tactic| walk_at "st") => `(tactic| with_reducible first
  | (refine Kf.w_var rfl ?_)
  | (refine Kf.w_c ?_)
  | (refine Kf.w_seq ?_)
  | (refine Kf.w_asg ?_)
  | (refine' Kf.w_gname ?sth ?_; (case sth => with_unfolding_all walk_at "set"))
  | (refine Kf.w_op ?_)
  | (refine Kf.w_un ?_)
  | (refine Kf.w_rU ?_)
  | (refine Kf.w_rI0 ?_)
  | (refine' Kf.w_rI ?sth ?_; (case sth => with_unfolding_all walk_at "side"))
  | (refine' Kf.w_rEq ?sth ?_; (case sth => with_unfolding_all rfl))
  | (refine' Kf.w_rNe ?sth ?_; (case sth => with_unfolding_all rfl))
  | (refine Kf.w_tTest ?_)
  | (refine Kf.w_tB ?_)
  | (refine Kf.w_exbl ?_)
  | (refine Kf.w_exint ?_)
  | (refine Kf.w_ifS ?_)
  | (refine Kf.w_ret ?_)
  | (refine Kf.w_retN ?_)
  | (refine Kf.w_drop ?_)
  | (refine Kf.w_and ?_)
  | (refine Kf.w_or ?_)
  | (refine Kf.w_not ?_)
  | (refine Kf.w_andV ?_)
  | (refine Kf.w_orV ?_)
  | (refine Kf.w_notV ?_)
  | (refine Kf.w_if ?_)
  | (refine Kf.w_lc ?_)
  | (refine Kf.w_for ?_)
  | (refine Kf.w_rng1 ?_)
  | (refine' Kf.w_rng1x ?sth ?stg ?_; (case sth => with_unfolding_all walk_at "om"); (case stg => with_unfolding_all walk_at "om"))
  | (refine Kf.w_ilist ?_)
  | (refine Kf.w_iseq ?_)
  | (refine Kf.w_itup ?_)
  | (refine' Kf.w_ilistx ?sth ?_; (case sth => with_unfolding_all walk_at "sq"))
  | (refine' Kf.w_itupx ?sth ?_; (case sth => with_unfolding_all walk_at "sq"))
  | (refine' Kf.w_wipe ?sth ?_; (case sth => with_unfolding_all rfl))
  | (refine Kf.w_yes ?_)
  | (refine' Kf.w_isi ?sth ?stg ?_; (case sth => with_unfolding_all walk_at "ty"); (case stg => walk_at "kit"))
  | (refine Kf.w_isN ?_)
  | (refine Kf.w_notN ?_)
  | (refine Kf.w_cb ?_)
  | (refine Kf.w_nil ?_)
  | (refine Kf.w_cons ?_)
  | (refine Kf.w_tup ?_)
  | (refine Kf.w_lst ?_)
  | (refine' Kf.w_lines ?sth ?_; (case sth => with_unfolding_all rfl))
  | (refine Kf.w_call ?_)
  | (refine Kf.w_next ?_)
  | (refine Kf.w_break ?_)
  | (refine Kf.w_cont ?_)
  | (refine Kf.w_dnewK ?_)
  | (refine Kf.w_ikeys ?_)
  | (refine Kf.w_dput ?_)
  | (refine Kf.w_dget2 ?_)
  | (refine Kf.w_dget ?_)
  | (refine Kf.w_sl ?_)
  | (refine Kf.w_nopart ?_)
  | (refine Kf.w_part ?_)
  | (refine Kf.w_bm ?_)
  | (refine Kf.w_bm0 ?_)
  | (refine' Kf.w_bmL ?sth ?_; (case sth => with_unfolding_all walk_at "lk"))
  | (refine' Kf.w_cat ?sth ?stg ?stf ?_; (case sth => with_unfolding_all walk_at "lk"); (case stg => with_unfolding_all walk_at "lk"); (case stf => with_unfolding_all walk_at "om"))
  | (refine' Kf.w_slL ?sth ?_; (case sth => with_unfolding_all walk_at "sq"))
  | (refine' Kf.w_inL ?sth ?_; (case sth => with_unfolding_all walk_at "sq"))
  | (refine' Kf.w_inT ?sth ?_; (case sth => with_unfolding_all walk_at "sq"))
  | (refine' Kf.w_ninL ?sth ?_; (case sth => with_unfolding_all walk_at "sq"))
  | (refine' Kf.w_ninT ?sth ?_; (case sth => with_unfolding_all walk_at "sq"))
  | (refine' Kf.w_listof ?sth ?_; (case sth => with_unfolding_all walk_at "sq"))
  | (refine' Kf.w_tupof ?sth ?_; (case sth => with_unfolding_all walk_at "sq"))
  | (refine Kf.w_listRev ?_)
  | (refine Kf.w_gsub ?_)
  | (refine' Kf.w_ixL ?sth ?stg ?_; (case sth => with_unfolding_all walk_at "sq"); (case stg => with_unfolding_all walk_at "at"))
  | (refine' Kf.w_ixT ?sth ?stg ?_; (case sth => with_unfolding_all walk_at "sq"); (case stg => with_unfolding_all walk_at "at"))
  | (refine' Kf.w_setL ?sth ?stg ?_; (case sth => with_unfolding_all walk_at "lk"); (case stg => with_unfolding_all walk_at "ixn"))
  | (refine' Kf.w_len ?sth ?_; (case sth => with_unfolding_all walk_at "sq"))
  | (refine' Kf.w_lenT ?sth ?_; (case sth => with_unfolding_all walk_at "sq"))
  | (refine Kf.w_int1 ?_)
  | (refine Kf.w_intb ?_)
  | (refine Kf.w_abs ?_)
  | (refine Kf.w_aug rfl ?_)
  | (refine Kf.w_par ?_)
  | (refine' Kf.w_gtup ?sth ?stg ?_; (case sth => with_unfolding_all walk_at "sq"); (case stg => with_unfolding_all exact rfl))
  | (refine' Kf.w_glst ?sth ?stg ?_; (case sth => with_unfolding_all walk_at "sq"); (case stg => with_unfolding_all exact rfl))
  | (refine Kf.w_rng2 ?_)
  | (refine Kf.w_rng3 ?_)
  | (refine' Kf.w_rng2x ?sth ?stg ?stf ?ste ?_; (case sth => with_unfolding_all walk_at "om"); (case stg => with_unfolding_all walk_at "om"); (case stf => with_unfolding_all walk_at "om"); (case ste => with_unfolding_all walk_at "om"))
  | (refine Kf.w_gcons ?_)
  | (refine Kf.w_gnil ?_)
  | (refine Kf.w_gcd ?_)
  | (refine Kf.w_bits ?_)
  | (refine Kf.w_two ?_)
  | (refine Kf.w_ipI ?_)
  | (refine L2.iteT ?_)
  | (refine L2.iteF ?_)
  | (refine Kf.iteNT ?_)
  | (refine Kf.iteNF ?_)
  | (refine' Kf.ite_decT ?sth ?_; (case sth => exact rfl))
  | (refine' Kf.ite_decF ?sth ?_; (case sth => with_unfolding_all (intro e; cases e; done)))
  | (refine' Kf.ite_ndecF ?sth ?_; (case sth => exact rfl))
  | (refine' Kf.ite_ndecT ?sth ?_; (case sth => with_unfolding_all (intro e; cases e; done)))
  | (refine' Kf.ite_viT ?sth ?_; (case sth => (with_unfolding_all walk_at "om2")))
  | (refine' Kf.ite_viF ?sth ?_; (case sth => (with_unfolding_all walk_at "om2")))
  | (refine' Kf.ite_nviT ?sth ?_; (case sth => (with_unfolding_all walk_at "om2")))
  | (refine' Kf.ite_nviF ?sth ?_; (case sth => (with_unfolding_all walk_at "om2")))
  | (refine' Kf.ite_decT ?sth ?_; (case sth => (with_unfolding_all walk_at "om2")))
  | (refine' Kf.ite_decF ?sth ?_; (case sth => (with_unfolding_all walk_at "om2")))
  | with_unfolding_all walk_at "calls")
local macro_rules | `(tactic| walk_at "go") => `(tactic| repeat walk_at "st")

namespace Kf
open PySem PySem.Spec PyProof.Rows L2
open R0 (Bd)
abbrev pD (p q : Int) : PyData := .tuple [.int p, .int q]
abbrev rD (r : Rat) : PyData := pD r.num (r.den : Int)
theorem Dq.pair {H : Hp} {v : V} {p q : Int} (h : Dq H v (pD p q)) : ∃ a, v = .ref a ∧ H a = some (.tup [.int p, .int q]) := by
  cases h with
  | tup ha r =>
    cases r with
    | cons h1 r =>
      cases r with
      | cons h2 r => cases r; cases h1; cases h2; exact ⟨_, rfl, ha⟩
theorem Dq.of_pair {H : Hp} {a : Addr} {p q : Int} (h : H a = some (.tup [.int p, .int q])) : Dq H (.ref a) (pD p q) := .tup h (.cons (.int _) (.cons (.int _) .nil))
abbrev s_ratio : Stmt := topS 5
abbrev N_ratio : List Str := ["p", "q", "divisor"]
abbrev P_ratio : List Str := ["p", "q"]
theorem sc_ratio : FnScope N_ratio P_ratio (defScope s_ratio) := ⟨rfl, rfl, rfl, by decide +kernel, rfl, by decide +kernel, by decide +kernel⟩
section
variable {P : Program} {w : World} {K : PySem.W.Frag} {mg : Str → Option Value} {base : Heap} {H : Hp} {Q : VK} {E : XK}
def spRatio (K : PySem.W.Frag) : Sp := fun vs H Q _ => ∃ p q : Int, vs = [.int p, .int q] ∧ q ≠ 0 ∧ p.natAbs < 2 ^ 8000 ∧ q.natAbs < 2 ^ 8000 ∧ ∀ v H', Ext H H' → Dq H' v (rD (Rat.divInt p q)) → Q v H'
theorem call_ratio {p q : Int} (h0 : q ≠ 0) (h1 : p.natAbs < 2 ^ 8000) (h2 : q.natAbs < 2 ^ 8000) (k : ∀ v H', Ext H H' → Dq H' v (rD (Rat.divInt p q)) → Q v H') : spRatio K [.int p, .int q] H Q E := ⟨p, q, rfl, h0, h1, h2, k⟩
theorem ok_ratio (D : DfD K mg "ratio" s_ratio [.int 1] P_ratio) (m_gcd : mg "gcd" = some (.builtin "math.gcd")) : Pr P w K mg base "ratio" 1 P_ratio (spRatio K) ∧ PrD P w K mg base "ratio" 1 P_ratio [.int 1] (spRatio K) := by
  refine D.ok sc_ratio (fun vs H Q E h => ?_) (fun f cdv A outer s H vs Q E hr h => ?_)
  · obtain ⟨p, q, rfl, _⟩ := h; rfl
  obtain ⟨p, q, rfl, h0, h1, h2, k⟩ := h
  have nd := sc_ratio.nd
  have fin : ∀ (g : Int) (a : Addr), H a = none → (Rat.divInt p q).num = p.fdiv g ∧ ((Rat.divInt p q).den : Int) = q.fdiv g → Q (.ref a) (upd H a (.tup [.int (p.fdiv g), .int (q.fdiv g)])) := fun g a ha e => by
    rw [← e.1, ← e.2]
    exact k _ _ (Ext.new ha) (.of_pair L2.upd_same)
  obtain ⟨gb, g0⟩ := R0.gcd_bits (p := p) h2 h0
  refine ⟨_, (pss_cons (ps_if (pt_cmpR op_eq (pv 1) pe_int (nomark _)) (pss_one (ps_dead)) pss_nil)
      (pss_cons (ps_set (i := 2) nd rfl (Or.inl rfl) (pe_callBfun cr_gcd (by rfl) m_gcd (pa_cons (pv 0) (pa_cons (pv 1) pa_nil))))
      (pss_cons (ps_if (pt_cmpR op_lt (pv 1) pe_int (nomark _)) (pss_one (ps_set (i := 2) nd rfl (Or.inl rfl) (pe_un un_neg (pv 2)))) pss_nil)
      (pss_one (ps_ret (pe_tup (pa_cons (pe_op op_fdivX (pv 0) (pv 2)) (pa_cons (pe_op op_fdivX (pv 1) (pv 2)) pa_nil)))))))), ?_⟩
  refine w_start (σ := [some _, some _, none]) rfl ?_
  walk_at "go"
  generalize hg : Nat.gcd p.natAbs q.natAbs = g at gb g0 ⊢
  refine ite_d (fun c => ?_) (fun c => ?_)
  · walk_at "go"
    have gb' : (-(g : Int)).natAbs < 2 ^ 8000 := by omega
    refine w_wdiv (by omega) gb' (by decide) (by decide) ?_
    walk_at "go"
    refine w_wdiv (by omega) gb' (by decide) (by decide) ?_
    walk_at "go"
    intro a ha
    exact fin _ a ha (by rw [← hg]; exact R0.ratio_neg c)
  · walk_at "go"
    have gb' : ((g : Int)).natAbs < 2 ^ 8000 := by omega
    refine w_wdiv (by omega) gb' (by decide) (by decide) ?_
    walk_at "go"
    refine w_wdiv (by omega) gb' (by decide) (by decide) ?_
    walk_at "go"
    intro a ha
    exact fin _ a ha (by rw [← hg]; exact R0.ratio_pos (by omega))
end
end Kf

end
section
set_option Elab.async false
set_option linter.all false
set_option maxRecDepth 100000
set_option maxHeartbeats 4000000
local macro_rules | `(tactic| walk_at "npl") => `(tactic| first | exact Kf.npl rfl | exact Kf.npl_ints _ | exact Kf.npl_one _ _ | exact Kf.npl_refs _ | assumption)
local macro_rules | `(tactic| walk_at "nn") => `(tactic| first
  | assumption
  | (refine' Kf.Ext.non ?nne ?nnh; (case nne => assumption); (case nnh => walk_at "nn")))
local macro_rules | `(tactic| walk_at "ext") => `(tactic| first
  | assumption
  | exact Kf.Ext.refl
  | (refine' Kf.Ext.newer ?exa ?exn; (case exn => assumption); (case exa => walk_at "ext"))
  | (refine' Kf.Ext.own ?exa ?exn; (case exn => walk_at "nn"); (case exa => walk_at "ext"))
  | (refine' Kf.Ext.trans ?exa ?exb; (case exb => assumption); (case exa => walk_at "ext")))
local macro_rules | `(tactic| walk_at "pool") => `(tactic| first
  | assumption
  | (refine' Kf.PoolAt.ext ?plh ?ple; (case plh => assumption); (case ple => walk_at "ext"))
  | (refine' Kf.PoolAt.upd ?plh ?plo ?pln; (case plo => assumption); (case pln => walk_at "npl"); (case plh => walk_at "pool")))
local macro_rules | `(tactic| walk_at "lk") => `(tactic| first
  | assumption
  | exact L2.upd_same
  | (refine' Kf.upd_old ?lkn ?lkh; (case lkn => assumption); (case lkh => walk_at "lk"))
  | (refine' Kf.upd_oth ?lkn ?lkh; (case lkn => (first | assumption | (apply Ne.symm; assumption))); (case lkh => walk_at "lk"))
  | (refine' Kf.Ext.get ?lke ?lkh ?lkn; (case lke => assumption); (case lkh => walk_at "lk"); (case lkn => walk_at "npl"))
  | (refine' L2.Same.at ?lke ?lkh; (case lke => assumption); (case lkh => walk_at "lk")))
local macro_rules | `(tactic| walk_at "sq") => `(tactic| first
  | assumption
  | (refine' L2.SqL.of ?sqh; (case sqh => walk_at "lk"))
  | (refine' L2.SqT.of ?sqh; (case sqh => walk_at "lk"))
  | (refine' Kf.Ext.seqL ?sqe ?sqh ?sqn; (case sqh => assumption); (case sqe => walk_at "ext"); (case sqn => walk_at "npl"))
  | (refine' Kf.Ext.seqT ?sqe ?sqh; (case sqh => assumption); (case sqe => walk_at "ext")))
local macro_rules | `(tactic| walk_at "at") => `(tactic| first | exact L2.atI_nat (j := 0) rfl | exact L2.atI_nat (j := 1) rfl | exact L2.atI_nat (j := 2) rfl | exact L2.atI_nat (j := 3) rfl | exact L2.atI_nat (j := 4) rfl | assumption)
local macro_rules | `(tactic| walk_at "ixn") => `(tactic| first | exact Kf.ixN_nat (j := 0) rfl | exact Kf.ixN_nat (j := 1) rfl | exact Kf.ixN_nat (j := 2) rfl | exact Kf.ixN_nat (j := 3) rfl | assumption)
local macro_rules | `(tactic| walk_at "set") => `(tactic| (first | (simp only [List.set_cons_succ, List.set_cons_zero]; rfl) | rfl))
local macro_rules | `(tactic| walk_at "om") => `(tactic| first | decide | omega | (simp only [List.length_map, List.length_cons, List.length_nil] at *; omega))
local macro_rules | `(tactic| walk_at "calls") => `(tactic| first
  | (with_reducible refine' Kf.call_take ?clp ?cla ?clb ?clq; (case clp => walk_at "pool"); (case cla => walk_at "om"); (case clb => walk_at "om"); intro r H' hE h0 h1)
  | (with_reducible refine' Kf.call_pool ?cls ?cla ?clq; (case cls => walk_at "sq"); (case cla => walk_at "om"); intro p H' hE hN hP)
  | (with_reducible refine' Kf.call_turn ?cls ?clp ?cla ?clq; (case cls => walk_at "sq"); (case clp => walk_at "pool"); (case cla => walk_at "om"); intro u H' hE hP))
local macro_rules | `(tactic| walk_at "side") => `(tactic| first
  | exact Kf.cmul_fmod (by decide) (by decide)
  | exact rfl
  | decide
  | omega
  | assumption
  | (refine ⟨?_, ?_⟩ <;> decide)
  | (refine ⟨?_, ?_, ?_⟩ <;> decide)
  | (refine ⟨?_, ?_⟩ <;> omega)
  | (refine Or.inl ⟨?_, ?_⟩ <;> decide)
  | (refine Or.inr ⟨?_, ?_⟩ <;> decide)
  | (refine Or.inl ⟨?_, ?_⟩ <;> omega)
  | (refine Or.inr ⟨?_, ?_⟩ <;> omega))
local macro_rules | `(tactic| walk_at "kit") => `(tactic| first | exact Kf.isi_int_int | exact Kf.isi_int_bool | exact Kf.isi_int_str | exact Kf.isi_int_list | exact Kf.isi_int_tuple | exact Kf.isi_bool_int | exact Kf.isi_bool_bool | exact Kf.isi_bool_str | exact Kf.isi_bool_list | exact Kf.isi_bool_tuple | exact Kf.isi_str_int | exact Kf.isi_str_bool | exact Kf.isi_str_str | exact Kf.isi_str_list | exact Kf.isi_str_tuple | exact Kf.isi_non_list | exact Kf.isi_non_tuple | exact Kf.isi_list_list | exact Kf.isi_list_tuple | exact Kf.isi_tuple_list | exact Kf.isi_tuple_tuple | exact Kf.isi_dict_dict)
local macro_rules | `(tactic| walk_at "ty") => `(tactic| first
  | exact L2.TyX.base (L2.TyOf.int _)
  | exact L2.TyX.base (L2.TyOf.bl _)
  | exact L2.TyX.base (L2.TyOf.str _)
  | exact L2.TyX.base L2.TyOf.non
  | (refine' L2.TyX.base (L2.TyOf.lst ?tyh); (case tyh => walk_at "lk"))
  | (refine' L2.TyX.base (L2.TyOf.tup ?tyh); (case tyh => walk_at "lk"))
  | (refine' L2.TyX.base (L2.TyOf.dK ?tyh); (case tyh => walk_at "lk")))
local macro_rules | `(tactic| walk_at "om2") => `(tactic| first | assumption | decide | omega)
local macro_rules | `(tactic| walk_at "st") => `(tactic| with_reducible first
  | (refine Kf.w_var rfl ?_)
  | (refine Kf.w_c ?_)
  | (refine Kf.w_seq ?_)
  | (refine Kf.w_asg ?_)
  | (refine' Kf.w_gname ?sth ?_; (case sth => with_unfolding_all walk_at "set"))
  | (refine Kf.w_op ?_)
  | (refine Kf.w_un ?_)
  | (refine Kf.w_rU ?_)
  | (refine Kf.w_rI0 ?_)
  | (refine' Kf.w_rI ?sth ?_; (case sth => with_unfolding_all walk_at "side"))
  | (refine' Kf.w_rEq ?sth ?_; (case sth => with_unfolding_all rfl))
  | (refine' Kf.w_rNe ?sth ?_; (case sth => with_unfolding_all rfl))
  | (refine Kf.w_tTest ?_)
  | (refine Kf.w_tB ?_)
  | (refine Kf.w_exbl ?_)
  | (refine Kf.w_exint ?_)
  | (refine Kf.w_ifS ?_)
  | (refine Kf.w_ret ?_)
  | (refine Kf.w_retN ?_)
  | (refine Kf.w_drop ?_)
  | (refine Kf.w_and ?_)
  | (refine Kf.w_or ?_)
  | (refine Kf.w_not ?_)
  | (refine Kf.w_andV ?_)
  | (refine Kf.w_orV ?_)
  | (refine Kf.w_notV ?_)
  | (refine Kf.w_if ?_)
  | (refine Kf.w_lc ?_)
  | (refine Kf.w_for ?_)
  | (refine Kf.w_rng1 ?_)
  | (refine' Kf.w_rng1x ?sth ?stg ?_; (case sth => with_unfolding_all walk_at "om"); (case stg => with_unfolding_all walk_at "om"))
  | (refine Kf.w_ilist ?_)
  | (refine Kf.w_iseq ?_)
  | (refine Kf.w_itup ?_)
  | (refine' Kf.w_ilistx ?sth ?_; (case sth => with_unfolding_all walk_at "sq"))
  | (refine' Kf.w_itupx ?sth ?_; (case sth => with_unfolding_all walk_at "sq"))
  | (refine' Kf.w_wipe ?sth ?_; (case sth => with_unfolding_all rfl))
  | (refine Kf.w_yes ?_)
  | (refine' Kf.w_isi ?sth ?stg ?_; (case sth => with_unfolding_all walk_at "ty"); (case stg => walk_at "kit"))
  | (refine Kf.w_isN ?_)
  | (refine Kf.w_notN ?_)
  | (refine Kf.w_cb ?_)
  | (refine Kf.w_nil ?_)
  | (refine Kf.w_cons ?_)
  | (refine Kf.w_tup ?_)
  | (refine Kf.w_lst ?_)
  | (refine' Kf.w_lines ?sth ?_; (case sth => with_unfolding_all rfl))
  | (refine Kf.w_call ?_)
  | (refine Kf.w_next ?_)
  | (refine Kf.w_break ?_)
  | (refine Kf.w_cont ?_)
  | (refine Kf.w_dnewK ?_)
  | (refine Kf.w_ikeys ?_)
  | (refine Kf.w_dput ?_)
  | (refine Kf.w_dget2 ?_)
  | (refine Kf.w_dget ?_)
  | (refine Kf.w_sl ?_)
  | (refine Kf.w_nopart ?_)
  | (refine Kf.w_part ?_)
  | (refine Kf.w_bm ?_)
  | (refine Kf.w_bm0 ?_)
  | (refine' Kf.w_bmL ?sth ?_; (case sth => with_unfolding_all walk_at "lk"))
  | (refine' Kf.w_cat ?sth ?stg ?stf ?_; (case sth => with_unfolding_all walk_at "lk"); (case stg => with_unfolding_all walk_at "lk"); (case stf => with_unfolding_all walk_at "om"))
  | (refine' Kf.w_slL ?sth ?_; (case sth => with_unfolding_all walk_at "sq"))
  | (refine' Kf.w_inL ?sth ?_; (case sth => with_unfolding_all walk_at "sq"))
  | (refine' Kf.w_inT ?sth ?_; (case sth => with_unfolding_all walk_at "sq"))
  | (refine' Kf.w_ninL ?sth ?_; (case sth => with_unfolding_all walk_at "sq"))
  | (refine' Kf.w_ninT ?sth ?_; (case sth => with_unfolding_all walk_at "sq"))
  | (refine' Kf.w_listof ?sth ?_; (case sth => with_unfolding_all walk_at "sq"))
  | (refine' Kf.w_tupof ?sth ?_; (case sth => with_unfolding_all walk_at "sq"))
  | (refine Kf.w_listRev ?_)
  | (refine Kf.w_gsub ?_)
  | (refine' Kf.w_ixL ?sth ?stg ?_; (case sth => with_unfolding_all walk_at "sq"); (case stg => with_unfolding_all walk_at "at"))
  | (refine' Kf.w_ixT ?sth ?stg ?_; (case sth => with_unfolding_all walk_at "sq"); (case stg => with_unfolding_all walk_at "at"))
  | (refine' Kf.w_setL ?sth ?stg ?_; (case sth => with_unfolding_all walk_at "lk"); (case stg => with_unfolding_all walk_at "ixn"))
  | (refine' Kf.w_len ?sth ?_; (case sth => with_unfolding_all walk_at "sq"))
  | (refine' Kf.w_lenT ?sth ?_; (case sth => with_unfolding_all walk_at "sq"))
  | (refine Kf.w_int1 ?_)
  | (refine Kf.w_intb ?_)
  | (refine Kf.w_abs ?_)
  | (refine Kf.w_aug rfl ?_)
  | (refine Kf.w_par ?_)
  | (refine' Kf.w_gtup ?sth ?stg ?_; (case sth => with_unfolding_all walk_at "sq"); (case stg => with_unfolding_all exact rfl))
  | (refine' Kf.w_glst ?sth ?stg ?_; (case sth => with_unfolding_all walk_at "sq"); (case stg => with_unfolding_all exact rfl))
  | (refine Kf.w_rng2 ?_)
  | (refine Kf.w_rng3 ?_)
  | (refine' Kf.w_rng2x ?sth ?stg ?stf ?ste ?_; (case sth => with_unfolding_all walk_at "om"); (case stg => with_unfolding_all walk_at "om"); (case stf => with_unfolding_all walk_at "om"); (case ste => with_unfolding_all walk_at "om"))
  | (refine Kf.w_gcons ?_)
  | (refine Kf.w_gnil ?_)
  | (refine Kf.w_gcd ?_)
  | (refine Kf.w_bits ?_)
  | (refine Kf.w_two ?_)
  | (refine Kf.w_ipI ?_)
  | (refine L2.iteT ?_)
  | (refine L2.iteF ?_)
  | (refine Kf.iteNT ?_)
  | (refine Kf.iteNF ?_)
  | (refine' Kf.ite_decT ?sth ?_; (case sth => exact rfl))
  | (refine' Kf.ite_decF ?sth ?_; (case sth => with_unfolding_all (intro e; cases e; done)))
  | (refine' Kf.ite_ndecF ?sth ?_; (case sth => exact rfl))
  | (refine' Kf.ite_ndecT ?sth ?_; (case sth => with_unfolding_all (intro e; cases e; done)))
  | (refine' Kf.ite_viT ?sth ?_; (case sth => (with_unfolding_all walk_at "om2")))
  | (refine' Kf.ite_viF ?sth ?_; (case sth => (with_unfolding_all walk_at "om2")))
  | (refine' Kf.ite_nviT ?sth ?_; (case sth => (with_unfolding_all walk_at "om2")))
  | (refine' Kf.ite_nviF ?sth ?_; (case sth => (with_unfolding_all walk_at "om2")))
  | (refine' Kf.ite_decT ?sth ?_; (case sth => (with_unfolding_all walk_at "om2")))
  | (refine' Kf.ite_decF ?sth ?_; (case sth => (with_unfolding_all walk_at "om2")))
  | with_unfolding_all walk_at "calls")
local macro_rules | `(tactic| walk_at "go") => `(tactic| repeat walk_at "st")

namespace Kf
open PySem PySem.Spec PyProof.Rows L2
open R0 (Bd)
abbrev s_plus : Stmt := topS 6
abbrev N_plus : List Str := ["a", "b"]
abbrev P_plus : List Str := ["a", "b"]
theorem sc_plus : FnScope N_plus P_plus (defScope s_plus) := ⟨rfl, rfl, rfl, by decide +kernel, rfl, by decide +kernel, by decide +kernel⟩
abbrev s_times : Stmt := topS 7
abbrev N_times : List Str := ["a", "b"]
abbrev P_times : List Str := ["a", "b"]
theorem sc_times : FnScope N_times P_times (defScope s_times) := ⟨rfl, rfl, rfl, by decide +kernel, rfl, by decide +kernel, by decide +kernel⟩
theorem Bd.n {k : Nat} {r : Rat} (h : Bd k r) : r.num.natAbs < 2 ^ k := h.1
theorem Bd.d {k : Nat} {r : Rat} (h : Bd k r) : ((r.den : Int)).natAbs < 2 ^ k := h.2
theorem den_nz (r : Rat) : (r.den : Int) ≠ 0 := by have := r.den_nz; omega
theorem num_nz {r : Rat} (h : r ≠ 0) : r.num ≠ 0 := fun e => R0.num_ne h (by rw [e]; rfl)
theorem lt_up {x : Nat} {n m : Nat} (h : x < 2 ^ n) (l : n ≤ m) : x < 2 ^ m := Nat.lt_of_lt_of_le h (Nat.pow_le_pow_right (by decide) l)
theorem mul_bits {i j : Int} {a b m : Nat} (ha : i.natAbs < 2 ^ a) (hb : j.natAbs < 2 ^ b) (l : a + b ≤ m) : (i * j).natAbs < 2 ^ m := lt_up (wide_lt ha hb) l
theorem add_bits {i j : Int} {a m : Nat} (ha : i.natAbs < 2 ^ a) (hb : j.natAbs < 2 ^ a) (l : a + 1 ≤ m) : (i + j).natAbs < 2 ^ m := by
  refine lt_up (n := a + 1) ?_ l
  have := Int.natAbs_add_le i j
  rw [Nat.pow_succ]; omega
theorem sub_bits {i j : Int} {a m : Nat} (ha : i.natAbs < 2 ^ a) (hb : j.natAbs < 2 ^ a) (l : a + 1 ≤ m) : (i - j).natAbs < 2 ^ m := by
  rw [Int.sub_eq_add_neg]
  exact add_bits ha (by rw [Int.natAbs_neg]; exact hb) l
theorem Bd.add {n m : Nat} {a b : Rat} (ha : Bd n a) (hb : Bd m b) : Bd (n + m + 1) (a + b) := by
  rw [← R0.add_div]
  exact Bd.div (add_bits (a := n + m) (mul_bits (Bd.n ha) (Bd.d hb) (by omega)) (mul_bits (Bd.n hb) (Bd.d ha) (by omega)) (by omega)) (mul_bits (Bd.d ha) (Bd.d hb) (by omega)) (Int.mul_ne_zero (den_nz a) (den_nz b))
theorem Bd.mul {n m : Nat} {a b : Rat} (ha : Bd n a) (hb : Bd m b) : Bd (n + m) (a * b) := by
  rw [← R0.mul_div]
  exact Bd.div (mul_bits (Bd.n ha) (Bd.n hb) (by omega)) (mul_bits (Bd.d ha) (Bd.d hb) (by omega)) (Int.mul_ne_zero (den_nz a) (den_nz b))
section
variable {P : Program} {w : World} {K : PySem.W.Frag} {mg : Str → Option Value} {base : Heap} {H : Hp} {Q : VK} {E : XK}
def spTwo (K : PySem.W.Frag) (g : Rat → Rat → Rat) : Sp := fun vs H Q _ => ∃ (x y : V) (a b : Rat) (n m : Nat), vs = [x, y] ∧ Dq H x (rD a) ∧ Dq H y (rD b) ∧ Bd n a ∧ Bd m b ∧ 0 < n ∧ 0 < m ∧ n + m ≤ 7900 ∧ ∀ v H', Ext H H' → Dq H' v (rD (g a b)) → Q v H'
theorem call_two {g : Rat → Rat → Rat} {x y : V} {a b : Rat} {n m : Nat} (hx : Dq H x (rD a)) (hy : Dq H y (rD b)) (ba : Bd n a) (bb : Bd m b) (n0 : 0 < n) (m0 : 0 < m) (nm : n + m ≤ 7900) (q : ∀ v H', Ext H H' → Dq H' v (rD (g a b)) → Q v H') : spTwo K g ([x, y] ++ []) H Q E := ⟨x, y, a, b, n, m, rfl, hx, hy, ba, bb, n0, m0, nm, q⟩
theorem ok_plus (D : Df K mg "plus" s_plus P_plus) (p_ratio : Pr P w K mg base "ratio" 1 P_ratio (spRatio K)) : Pr P w K mg base "plus" 2 P_plus (spTwo K (fun a b => a + b)) := by
  refine D.ok sc_plus (fun vs H Q E h => ?_) (fun f cdv A outer s H vs Q E hr h => ?_)
  · obtain ⟨x, y, a, b, n, m, rfl, _⟩ := h; rfl
  obtain ⟨x, y, a, b, n, m, rfl, hx, hy, ba, bb, n0, m0, nm, k⟩ := h
  obtain ⟨ax, rfl, hx⟩ := hx.pair
  obtain ⟨ay, rfl, hy⟩ := hy.pair
  have nd := sc_plus.nd
  refine ⟨_, (pss_one (ps_ret (pe_callP p_ratio hr (pa_cons (pe_op op_add (pe_op op_mulW (pe_ix (ix_tupK (K := K) rfl) (pv 0) pe_int (fun _ _ => rfl)) (pe_ix (ix_tupK (K := K) rfl) (pv 1) pe_int (fun _ _ => rfl))) (pe_op op_mulW (pe_ix (ix_tupK (K := K) rfl) (pv 1) pe_int (fun _ _ => rfl)) (pe_ix (ix_tupK (K := K) rfl) (pv 0) pe_int (fun _ _ => rfl)))) (pa_cons (pe_op op_mulW (pe_ix (ix_tupK (K := K) rfl) (pv 0) pe_int (fun _ _ => rfl)) (pe_ix (ix_tupK (K := K) rfl) (pv 1) pe_int (fun _ _ => rfl))) pa_nil))))), ?_⟩
  refine w_start (σ := [some _, some _]) rfl ?_
  walk_at "go"
  refine w_wmul (Bd.n ba) (Bd.d bb) (by omega) (by omega) (by omega) ?_
  walk_at "go"
  refine w_wmul (Bd.n bb) (Bd.d ba) (by omega) (by omega) (by omega) ?_
  walk_at "go"
  refine w_wmul (Bd.d ba) (Bd.d bb) (by omega) (by omega) (by omega) ?_
  walk_at "go"
  refine call_ratio (Int.mul_ne_zero (den_nz a) (den_nz b)) (add_bits (a := n + m) (mul_bits (Bd.n ba) (Bd.d bb) (by omega)) (mul_bits (Bd.n bb) (Bd.d ba) (by omega)) (by omega)) (mul_bits (Bd.d ba) (Bd.d bb) (by omega)) fun v H' hE hv => ?_
  walk_at "go"
  rw [R0.add_div] at hv
  exact k v H' hE hv
theorem ok_times (D : Df K mg "times" s_times P_times) (p_ratio : Pr P w K mg base "ratio" 1 P_ratio (spRatio K)) : Pr P w K mg base "times" 2 P_times (spTwo K (fun a b => a * b)) := by
  refine D.ok sc_times (fun vs H Q E h => ?_) (fun f cdv A outer s H vs Q E hr h => ?_)
  · obtain ⟨x, y, a, b, n, m, rfl, _⟩ := h; rfl
  obtain ⟨x, y, a, b, n, m, rfl, hx, hy, ba, bb, n0, m0, nm, k⟩ := h
  obtain ⟨ax, rfl, hx⟩ := hx.pair
  obtain ⟨ay, rfl, hy⟩ := hy.pair
  have nd := sc_times.nd
  refine ⟨_, (pss_one (ps_ret (pe_callP p_ratio hr (pa_cons (pe_op op_mulW (pe_ix (ix_tupK (K := K) rfl) (pv 0) pe_int (fun _ _ => rfl)) (pe_ix (ix_tupK (K := K) rfl) (pv 1) pe_int (fun _ _ => rfl))) (pa_cons (pe_op op_mulW (pe_ix (ix_tupK (K := K) rfl) (pv 0) pe_int (fun _ _ => rfl)) (pe_ix (ix_tupK (K := K) rfl) (pv 1) pe_int (fun _ _ => rfl))) pa_nil))))), ?_⟩
  refine w_start (σ := [some _, some _]) rfl ?_
  walk_at "go"
  refine w_wmul (Bd.n ba) (Bd.n bb) (by omega) (by omega) (by omega) ?_
  walk_at "go"
  refine w_wmul (Bd.d ba) (Bd.d bb) (by omega) (by omega) (by omega) ?_
  walk_at "go"
  refine call_ratio (Int.mul_ne_zero (den_nz a) (den_nz b)) (mul_bits (Bd.n ba) (Bd.n bb) (by omega)) (mul_bits (Bd.d ba) (Bd.d bb) (by omega)) fun v H' hE hv => ?_
  walk_at "go"
  rw [R0.mul_div] at hv
  exact k v H' hE hv
end
end Kf

end
section
set_option Elab.async false
set_option linter.all false
set_option maxRecDepth 100000
set_option maxHeartbeats 4000000
local macro_rules | `(tactic| walk_at "npl") => `(tactic| first | exact Kf.npl rfl | exact Kf.npl_ints _ | exact Kf.npl_one _ _ | exact Kf.npl_refs _ | assumption)
local macro_rules | `(tactic| walk_at "nn") => `(tactic| first
  | assumption
  | (refine' Kf.Ext.non ?nne ?nnh; (case nne => assumption); (case nnh => walk_at "nn")))
local macro_rules | `(tactic| walk_at "ext") => `(tactic| first
  | assumption
  | exact Kf.Ext.refl
  | (refine' Kf.Ext.newer ?exa ?exn; (case exn => assumption); (case exa => walk_at "ext"))
  | (refine' Kf.Ext.own ?exa ?exn; (case exn => walk_at "nn"); (case exa => walk_at "ext"))
  | (refine' Kf.Ext.trans ?exa ?exb; (case exb => assumption); (case exa => walk_at "ext")))
local macro_rules | `(tactic| walk_at "pool") => `(tactic| first
  | assumption
  | (refine' Kf.PoolAt.ext ?plh ?ple; (case plh => assumption); (case ple => walk_at "ext"))
  | (refine' Kf.PoolAt.upd ?plh ?plo ?pln; (case plo => assumption); (case pln => walk_at "npl"); (case plh => walk_at "pool")))
local macro_rules | `(tactic| walk_at "lk") => `(tactic| first
  | assumption
  | exact L2.upd_same
  | (refine' Kf.upd_old ?lkn ?lkh; (case lkn => assumption); (case lkh => walk_at "lk"))
  | (refine' Kf.upd_oth ?lkn ?lkh; (case lkn => (first | assumption | (apply Ne.symm; assumption))); (case lkh => walk_at "lk"))
  | (refine' Kf.Ext.get ?lke ?lkh ?lkn; (case lke => assumption); (case lkh => walk_at "lk"); (case lkn => walk_at "npl"))
  | (refine' L2.Same.at ?lke ?lkh; (case lke => assumption); (case lkh => walk_at "lk")))
local macro_rules | `(tactic| walk_at "sq") => `(tactic| first
  | assumption
  | (refine' L2.SqL.of ?sqh; (case sqh => walk_at "lk"))
  | (refine' L2.SqT.of ?sqh; (case sqh => walk_at "lk"))
  | (refine' Kf.Ext.seqL ?sqe ?sqh ?sqn; (case sqh => assumption); (case sqe => walk_at "ext"); (case sqn => walk_at "npl"))
  | (refine' Kf.Ext.seqT ?sqe ?sqh; (case sqh => assumption); (case sqe => walk_at "ext")))
local macro_rules | `(tactic| walk_at "at") => `(tactic| first | exact L2.atI_nat (j := 0) rfl | exact L2.atI_nat (j := 1) rfl | exact L2.atI_nat (j := 2) rfl | exact L2.atI_nat (j := 3) rfl | exact L2.atI_nat (j := 4) rfl | assumption)
local macro_rules | `(tactic| walk_at "ixn") => `(tactic| first | exact Kf.ixN_nat (j := 0) rfl | exact Kf.ixN_nat (j := 1) rfl | exact Kf.ixN_nat (j := 2) rfl | exact Kf.ixN_nat (j := 3) rfl | assumption)
local macro_rules | `(tactic| walk_at "set") => `(tactic| (first | (simp only [List.set_cons_succ, List.set_cons_zero]; rfl) | rfl))
local macro_rules | `(tactic| walk_at "om") => `(tactic| first | decide | omega | (simp only [List.length_map, List.length_cons, List.length_nil] at *; omega))
local macro_rules | `(tactic| walk_at "calls") => `(tactic| first
  | (with_reducible refine' Kf.call_take ?clp ?cla ?clb ?clq; (case clp => walk_at "pool"); (case cla => walk_at "om"); (case clb => walk_at "om"); intro r H' hE h0 h1)
  | (with_reducible refine' Kf.call_pool ?cls ?cla ?clq; (case cls => walk_at "sq"); (case cla => walk_at "om"); intro p H' hE hN hP)
  | (with_reducible refine' Kf.call_turn ?cls ?clp ?cla ?clq; (case cls => walk_at "sq"); (case clp => walk_at "pool"); (case cla => walk_at "om"); intro u H' hE hP))
local macro_rules | `(tactic| walk_at "side") => `(tactic| first
  | exact Kf.cmul_fmod (by decide) (by decide)
  | exact rfl
  | decide
  | omega
  | assumption
  | (refine ⟨?_, ?_⟩ <;> decide)
  | (refine ⟨?_, ?_, ?_⟩ <;> decide)
  | (refine ⟨?_, ?_⟩ <;> omega)
  | (refine Or.inl ⟨?_, ?_⟩ <;> decide)
  | (refine Or.inr ⟨?_, ?_⟩ <;> decide)
  | (refine Or.inl ⟨?_, ?_⟩ <;> omega)
  | (refine Or.inr ⟨?_, ?_⟩ <;> omega))
local macro_rules | `(tactic| walk_at "kit") => `(tactic| first | exact Kf.isi_int_int | exact Kf.isi_int_bool | exact Kf.isi_int_str | exact Kf.isi_int_list | exact Kf.isi_int_tuple | exact Kf.isi_bool_int | exact Kf.isi_bool_bool | exact Kf.isi_bool_str | exact Kf.isi_bool_list | exact Kf.isi_bool_tuple | exact Kf.isi_str_int | exact Kf.isi_str_bool | exact Kf.isi_str_str | exact Kf.isi_str_list | exact Kf.isi_str_tuple | exact Kf.isi_non_list | exact Kf.isi_non_tuple | exact Kf.isi_list_list | exact Kf.isi_list_tuple | exact Kf.isi_tuple_list | exact Kf.isi_tuple_tuple | exact Kf.isi_dict_dict)
local macro_rules | `(tactic| walk_at "ty") => `(tactic| first
  | exact L2.TyX.base (L2.TyOf.int _)
  | exact L2.TyX.base (L2.TyOf.bl _)
  | exact L2.TyX.base (L2.TyOf.str _)
  | exact L2.TyX.base L2.TyOf.non
  | (refine' L2.TyX.base (L2.TyOf.lst ?tyh); (case tyh => walk_at "lk"))
  | (refine' L2.TyX.base (L2.TyOf.tup ?tyh); (case tyh => walk_at "lk"))
  | (refine' L2.TyX.base (L2.TyOf.dK ?tyh); (case tyh => walk_at "lk")))
local macro_rules | `(tactic| walk_at "om2") => `(tactic| first | assumption | decide | omega)
local macro_rules | `(tactic| walk_at "st") => `(tactic| with_reducible first
  | (refine Kf.w_var rfl ?_)
  | (refine Kf.w_c ?_)
  | (refine Kf.w_seq ?_)
  | (refine Kf.w_asg ?_)
  | (refine' Kf.w_gname ?sth ?_; (case sth => with_unfolding_all walk_at "set"))
  | (refine Kf.w_op ?_)
  | (refine Kf.w_un ?_)
  | (refine Kf.w_rU ?_)
  | (refine Kf.w_rI0 ?_)
  | (refine' Kf.w_rI ?sth ?_; (case sth => with_unfolding_all walk_at "side"))
  | (refine' Kf.w_rEq ?sth ?_; (case sth => with_unfolding_all rfl))
  | (refine' Kf.w_rNe ?sth ?_; (case sth => with_unfolding_all rfl))
  | (refine Kf.w_tTest ?_)
  | (refine Kf.w_tB ?_)
  | (refine Kf.w_exbl ?_)
  | (refine Kf.w_exint ?_)
  | (refine Kf.w_ifS ?_)
  | (refine Kf.w_ret ?_)
  | (refine Kf.w_retN ?_)
  | (refine Kf.w_drop ?_)
  | (refine Kf.w_and ?_)
  | (refine Kf.w_or ?_)
  | (refine Kf.w_not ?_)
  | (refine Kf.w_andV ?_)
  | (refine Kf.w_orV ?_)
  | (refine Kf.w_notV ?_)
  | (refine Kf.w_if ?_)
  | (refine Kf.w_lc ?_)
  | (refine Kf.w_for ?_)
  | (refine Kf.w_rng1 ?_)
  | (refine' Kf.w_rng1x ?sth ?stg ?_; (case sth => with_unfolding_all walk_at "om"); (case stg => with_unfolding_all walk_at "om"))
  | (refine Kf.w_ilist ?_)
  | (refine Kf.w_iseq ?_)
  | (refine Kf.w_itup ?_)
  | (refine' Kf.w_ilistx ?sth ?_; (case sth => with_unfolding_all walk_at "sq"))
  | (refine' Kf.w_itupx ?sth ?_; (case sth => with_unfolding_all walk_at "sq"))
  | (refine' Kf.w_wipe ?sth ?_; (case sth => with_unfolding_all rfl))
  | (refine Kf.w_yes ?_)
  | (refine' Kf.w_isi ?sth ?stg ?_; (case sth => with_unfolding_all walk_at "ty"); (case stg => walk_at "kit"))
  | (refine Kf.w_isN ?_)
  | (refine Kf.w_notN ?_)
  | (refine Kf.w_cb ?_)
  | (refine Kf.w_nil ?_)
  | (refine Kf.w_cons ?_)
  | (refine Kf.w_tup ?_)
  | (refine Kf.w_lst ?_)
  | (refine' Kf.w_lines ?sth ?_; (case sth => with_unfolding_all rfl))
  | (refine Kf.w_call ?_)
  | (refine Kf.w_next ?_)
  | (refine Kf.w_break ?_)
  | (refine Kf.w_cont ?_)
  | (refine Kf.w_dnewK ?_)
  | (refine Kf.w_ikeys ?_)
  | (refine Kf.w_dput ?_)
  | (refine Kf.w_dget2 ?_)
  | (refine Kf.w_dget ?_)
  | (refine Kf.w_sl ?_)
  | (refine Kf.w_nopart ?_)
  | (refine Kf.w_part ?_)
  | (refine Kf.w_bm ?_)
  | (refine Kf.w_bm0 ?_)
  | (refine' Kf.w_bmL ?sth ?_; (case sth => with_unfolding_all walk_at "lk"))
  | (refine' Kf.w_cat ?sth ?stg ?stf ?_; (case sth => with_unfolding_all walk_at "lk"); (case stg => with_unfolding_all walk_at "lk"); (case stf => with_unfolding_all walk_at "om"))
  | (refine' Kf.w_slL ?sth ?_; (case sth => with_unfolding_all walk_at "sq"))
  | (refine' Kf.w_inL ?sth ?_; (case sth => with_unfolding_all walk_at "sq"))
  | (refine' Kf.w_inT ?sth ?_; (case sth => with_unfolding_all walk_at "sq"))
  | (refine' Kf.w_ninL ?sth ?_; (case sth => with_unfolding_all walk_at "sq"))
  | (refine' Kf.w_ninT ?sth ?_; (case sth => with_unfolding_all walk_at "sq"))
  | (refine' Kf.w_listof ?sth ?_; (case sth => with_unfolding_all walk_at "sq"))
  | (refine' Kf.w_tupof ?sth ?_; (case sth => with_unfolding_all walk_at "sq"))
  | (refine Kf.w_listRev ?_)
  | (refine Kf.w_gsub ?_)
  | (refine' Kf.w_ixL ?sth ?stg ?_; (case sth => with_unfolding_all walk_at "sq"); (case stg => with_unfolding_all walk_at "at"))
  | (refine' Kf.w_ixT ?sth ?stg ?_; (case sth => with_unfolding_all walk_at "sq"); (case stg => with_unfolding_all walk_at "at"))
  | (refine' Kf.w_setL ?sth ?stg ?_; (case sth => with_unfolding_all walk_at "lk"); (case stg => with_unfolding_all walk_at "ixn"))
  | (refine' Kf.w_len ?sth ?_; (case sth => with_unfolding_all walk_at "sq"))
  | (refine' Kf.w_lenT ?sth ?_; (case sth => with_unfolding_all walk_at "sq"))
  | (refine Kf.w_int1 ?_)
  | (refine Kf.w_intb ?_)
  | (refine Kf.w_abs ?_)
  | (refine Kf.w_aug rfl ?_)
  | (refine Kf.w_par ?_)
  | (refine' Kf.w_gtup ?sth ?stg ?_; (case sth => with_unfolding_all walk_at "sq"); (case stg => with_unfolding_all exact rfl))
  | (refine' Kf.w_glst ?sth ?stg ?_; (case sth => with_unfolding_all walk_at "sq"); (case stg => with_unfolding_all exact rfl))
  | (refine Kf.w_rng2 ?_)
  | (refine Kf.w_rng3 ?_)
  | (refine' Kf.w_rng2x ?sth ?stg ?stf ?ste ?_; (case sth => with_unfolding_all walk_at "om"); (case stg => with_unfolding_all walk_at "om"); (case stf => with_unfolding_all walk_at "om"); (case ste => with_unfolding_all walk_at "om"))
  | (refine Kf.w_gcons ?_)
  | (refine Kf.w_gnil ?_)
  | (refine Kf.w_gcd ?_)
  | (refine Kf.w_bits ?_)
  | (refine Kf.w_two ?_)
  | (refine Kf.w_ipI ?_)
  | (refine L2.iteT ?_)
  | (refine L2.iteF ?_)
  | (refine Kf.iteNT ?_)
  | (refine Kf.iteNF ?_)
  | (refine' Kf.ite_decT ?sth ?_; (case sth => exact rfl))
  | (refine' Kf.ite_decF ?sth ?_; (case sth => with_unfolding_all (intro e; cases e; done)))
  | (refine' Kf.ite_ndecF ?sth ?_; (case sth => exact rfl))
  | (refine' Kf.ite_ndecT ?sth ?_; (case sth => with_unfolding_all (intro e; cases e; done)))
  | (refine' Kf.ite_viT ?sth ?_; (case sth => (with_unfolding_all walk_at "om2")))
  | (refine' Kf.ite_viF ?sth ?_; (case sth => (with_unfolding_all walk_at "om2")))
  | (refine' Kf.ite_nviT ?sth ?_; (case sth => (with_unfolding_all walk_at "om2")))
  | (refine' Kf.ite_nviF ?sth ?_; (case sth => (with_unfolding_all walk_at "om2")))
  | (refine' Kf.ite_decT ?sth ?_; (case sth => (with_unfolding_all walk_at "om2")))
  | (refine' Kf.ite_decF ?sth ?_; (case sth => (with_unfolding_all walk_at "om2")))
  | with_unfolding_all walk_at "calls")
local macro_rules | `(tactic| walk_at "go") => `(tactic| repeat walk_at "st")

namespace Kf
open PySem PySem.Spec PyProof.Rows L2
open R0 (Bd Eu)
abbrev s__law_lowest : Stmt := topS 20
abbrev N__law_lowest : List Str := ["p", "q", "a", "b", "k"]
abbrev P__law_lowest : List Str := ["p", "q"]
theorem sc__law_lowest : FnScope N__law_lowest P__law_lowest (defScope s__law_lowest) := ⟨rfl, rfl, rfl, by decide +kernel, rfl, by decide +kernel, by decide +kernel⟩
section
variable {P : Program} {w : World} {K : PySem.W.Frag} {mg : Str → Option Value} {base : Heap} {H : Hp} {Q : VK} {E : XK}
def spLow (K : PySem.W.Frag) : Sp := fun vs H Q _ => ∃ p q : Int, vs = [.int p, .int q] ∧ 0 < q ∧ q.natAbs < 2 ^ 8000 ∧ ∀ v H', Ext H H' → Dq H' v (rD (Rat.divInt p q)) → Q v H'
theorem call_low {p q : Int} (h0 : 0 < q) (h2 : q.natAbs < 2 ^ 8000) (k : ∀ v H', Ext H H' → Dq H' v (rD (Rat.divInt p q)) → Q v H') : spLow K ([.int p, .int q] ++ []) H Q E := ⟨p, q, rfl, h0, h2, k⟩
theorem bits_lt {q : Int} (h : 0 < q) : q < 2 ^ Builtin.Int.intBits q := by
  unfold Builtin.Int.intBits
  rw [if_neg (by simp; omega)]
  have h1 := Nat.lt_log2_self (n := q.natAbs)
  have h2 : ((q.natAbs : Nat) : Int) < ((2 ^ (q.natAbs.log2 + 1) : Nat) : Int) := by exact_mod_cast h1
  have h3 : ((2 ^ (q.natAbs.log2 + 1) : Nat) : Int) = (2 : Int) ^ (q.natAbs.log2 + 1) := by exact_mod_cast rfl
  omega
theorem bits_le {q : Int} {n : Nat} (h : q.natAbs < 2 ^ n) (h0 : 0 < n) : Builtin.Int.intBits q ≤ n := by
  unfold Builtin.Int.intBits
  have := PySem.Flt.log2_lt_of h0 h
  split <;> omega
theorem ok_lowest (D : Df K mg "_law_lowest" s__law_lowest P__law_lowest) (b_abs : mg "abs" = none) (b_int : mg "int" = none) (b_range : mg "range" = none) : Pr P w K mg base "_law_lowest" 1 P__law_lowest (spLow K) := by
  refine D.ok sc__law_lowest (fun vs H Q E h => ?_) (fun f cdv A outer s H vs Q E hr h => ?_)
  · obtain ⟨p, q, rfl, _⟩ := h; rfl
  obtain ⟨p, q, rfl, h0, h2, k⟩ := h
  have nd := sc__law_lowest.nd
  obtain ⟨gb, g0⟩ := R0.gcd_bits (p := p) h2 (by omega)
  have L0 := bits_lt h0
  have L1 := bits_le h2 (by decide)
  generalize hL : Builtin.Int.intBits q = L at L0 L1
  have fin : ∀ (a : Addr) (g : Int) (H' : Hp), Ext H H' → H' a = none → g = (Nat.gcd p.natAbs q.natAbs : Nat) → Q (.ref a) (upd H' a (.tup [.int (p.fdiv g), .int (q.fdiv g)])) := fun a g H' hE ha e => by
    subst e
    rw [← (R0.ratio_pos (p := p) h0).1, ← (R0.ratio_pos (p := p) h0).2]
    exact k _ _ (hE.newer ha) (.of_pair L2.upd_same)
  refine ⟨_, (pss_cons (ps_set (i := 2) nd rfl (Or.inl rfl) (pe_callB call_abs (by rfl) b_abs (by decide +kernel) (pa_cons (pv 0) pa_nil)))
      (pss_cons (ps_set (i := 3) nd rfl (Or.inl rfl) (pv 1))
      (pss_cons (ps_for PassesOwn.never rfl (pi_range1 (by rfl) b_range (pa_cons (pe_op op_add (pe_op op_mulW pe_int (pe_bits (pv 3))) pe_int) pa_nil)) (pg_name (i := 4) nd rfl (Or.inl rfl)) (pss_cons (ps_if (pt_cmpR op_eq (pv 3) pe_int (nomark _)) (pss_one (ps_break)) pss_nil)
      (pss_one (ps_par (i := 2) (j := 3) rfl nd rfl rfl (by decide) rfl rfl (pa_cons (pv 3) (pa_cons (pe_op op_modN (pe_callTy call_int1 (by rfl) b_int (by decide +kernel) (pa_cons (pv 2) pa_nil)) (pe_callTy call_int1 (by rfl) b_int (by decide +kernel) (pa_cons (pv 3) pa_nil))) pa_nil)) (by rfl)))))
      (pss_one (ps_ret (pe_tup (pa_cons (pe_op op_fdivX (pv 0) (pv 2)) (pa_cons (pe_op op_fdivX (pv 1) (pv 2)) pa_nil)))))))), ?_⟩
  refine w_start (σ := [some _, some _, none, none, none]) rfl ?_
  walk_at "go"
  rw [hL]
  refine w_wmul (a := 2) (b := 14) (by decide) (by omega) (by decide) (by decide) (by decide) ?_
  walk_at "go"
  have en : ((2 * (L : Int)) + 5).toNat = 2 * L + 5 := by omega
  rw [en]
  refine for_range (fun i σ H' => ∃ (a b : Int) (y : Option V), σ = [some (.int p), some (.int q), some (.int a), some (.int b), y] ∧ Ext H H' ∧ Eu p q L i a b) ⟨_, _, _, rfl, Ext.refl, Eu.init h0 (by split <;> omega) (by split <;> omega)⟩ ?_ ?_
  · rintro i σ H1 hi ⟨a, b, y, rfl, hE, eu⟩
    walk_at "go"
    refine ite_vi (fun c => ?_) (fun c => ?_)
    · walk_at "go"
      have eg := eu.gcd c
      refine w_wdiv (b := 8000) (by omega) (by omega) (by decide) (by decide) ?_
      walk_at "go"
      refine w_wdiv (b := 8000) (by omega) (by omega) (by decide) (by decide) ?_
      walk_at "go"
      intro x hx
      exact fin x a H1 hE hx eg
    · walk_at "go"
      exact ⟨_, _, _, rfl, hE, eu.next L0 c⟩
  · rintro σ H1 ⟨a, b, y, rfl, hE, eu⟩
    have eg := eu.gcd eu.ends
    walk_at "go"
    refine w_wdiv (b := 8000) (by omega) (by omega) (by decide) (by decide) ?_
    walk_at "go"
    refine w_wdiv (b := 8000) (by omega) (by omega) (by decide) (by decide) ?_
    walk_at "go"
    intro x hx
    exact fin x a H1 hE hx eg
end
end Kf

end
section
set_option maxRecDepth 100000
namespace R1
abbrev Rows := List (Int × Rat)
/-- the coefficient of a node -/
def val : Rows → Int → Rat
  | [], _ => 0
  | (m, r) :: l, n => if m = n then r else val l n
structure Ok (l : Rows) : Prop where
  srt : l.Pairwise fun a b => a.1 < b.1
  nz : ∀ x ∈ l, x.2 ≠ 0
theorem Ok.nil : Ok [] := ⟨.nil, by simp⟩
theorem Ok.tl {x : Int × Rat} {l : Rows} (h : Ok (x :: l)) : Ok l := ⟨(List.pairwise_cons.mp h.srt).2, fun y hy => h.nz y (List.mem_cons_of_mem _ hy)⟩
theorem Ok.lt {x : Int × Rat} {l : Rows} (h : Ok (x :: l)) : ∀ y ∈ l, x.1 < y.1 := (List.pairwise_cons.mp h.srt).1
theorem Ok.cons {x : Int × Rat} {l : Rows} (h : Ok l) (z : x.2 ≠ 0) (lt : ∀ y ∈ l, x.1 < y.1) : Ok (x :: l) := ⟨List.pairwise_cons.mpr ⟨lt, h.srt⟩, fun y hy => by
  rcases List.mem_cons.mp hy with e | e
  · subst e; exact z
  · exact h.nz y e⟩
theorem val_out : ∀ {l : Rows} {n : Int}, (∀ y ∈ l, y.1 ≠ n) → val l n = 0
  | [], _, _ => rfl
  | (m, r) :: l, n, h => by
    show (if m = n then r else val l n) = 0
    rw [if_neg (h (m, r) (by simp))]
    exact val_out fun y hy => h y (List.mem_cons_of_mem _ hy)
theorem val_lt {l : Rows} {n : Int} (h : ∀ y ∈ l, n < y.1) : val l n = 0 := val_out fun y hy => by have := h y hy; omega
theorem val_hd {m : Int} {r : Rat} {l : Rows} : val ((m, r) :: l) m = r := if_pos rfl
theorem val_ne {m n : Int} {r : Rat} {l : Rows} (h : m ≠ n) : val ((m, r) :: l) n = val l n := if_neg h
theorem Ok.ext : ∀ {a b : Rows}, Ok a → Ok b → (∀ n, val a n = val b n) → a = b
  | [], [], _, _, _ => rfl
  | [], (m, r) :: b, _, hb, e => by
    have := e m
    rw [val_hd] at this
    exact absurd this.symm (hb.nz (m, r) (by simp))
  | (m, r) :: a, [], ha, _, e => by
    have := e m
    rw [val_hd] at this
    exact absurd this (ha.nz (m, r) (by simp))
  | (m, r) :: a, (m', r') :: b, ha, hb, e => by
    have h1 : m = m' := by
      rcases Int.lt_trichotomy m m' with l | l | l
      · have := e m
        rw [val_hd, val_lt (l := (m', r') :: b) fun y hy => by
          rcases List.mem_cons.mp hy with z | z
          · subst z; exact l
          · have := hb.lt y z; dsimp only at this; omega] at this
        exact absurd this (ha.nz (m, r) (by simp))
      · exact l
      · have := e m'
        rw [val_hd, val_lt (l := (m, r) :: a) fun y hy => by
          rcases List.mem_cons.mp hy with z | z
          · subst z; exact l
          · have := ha.lt y z; dsimp only at this; omega] at this
        exact absurd this.symm (hb.nz (m', r') (by simp))
    subst h1
    have h2 : r = r' := by have := e m; rwa [val_hd, val_hd] at this
    subst h2
    rw [Ok.ext ha.tl hb.tl fun n => ?_]
    by_cases hn : m = n
    · subst hn
      rw [val_lt ha.lt, val_lt hb.lt]
    · have := e n
      rwa [val_ne hn, val_ne hn] at this
/-- the two merged, as form_plus goes -/
def mg : Rows → Rows → Rows
  | [], g => g
  | a :: f, [] => a :: f
  | a :: f, b :: g =>
    if a.1 < b.1 then a :: mg f (b :: g)
    else if b.1 < a.1 then b :: mg (a :: f) g
    else if a.2 + b.2 ≠ 0 then (a.1, a.2 + b.2) :: mg f g else mg f g
  termination_by f g => f.length + g.length
theorem mg_nil (g : Rows) : mg [] g = g := by unfold mg; rfl
theorem mg_nil' (f : Rows) : mg f [] = f := by cases f <;> (unfold mg; rfl)
theorem mg_cons (a b : Int × Rat) (f g : Rows) : mg (a :: f) (b :: g) = if a.1 < b.1 then a :: mg f (b :: g) else if b.1 < a.1 then b :: mg (a :: f) g else if a.2 + b.2 ≠ 0 then (a.1, a.2 + b.2) :: mg f g else mg f g := by
  rw [mg]
theorem mg_mem : ∀ (f g : Rows) (x : Int × Rat), x ∈ mg f g → (∃ y ∈ f, y.1 = x.1) ∨ ∃ y ∈ g, y.1 = x.1
  | [], g, x, h => by rw [mg_nil] at h; exact .inr ⟨x, h, rfl⟩
  | a :: f, [], x, h => by rw [mg_nil'] at h; exact .inl ⟨x, h, rfl⟩
  | a :: f, b :: g, x, h => by
    rw [mg_cons] at h
    split at h
    · rcases List.mem_cons.mp h with e | e
      · exact .inl ⟨a, by simp, by rw [e]⟩
      · rcases mg_mem f (b :: g) x e with ⟨y, hy, q⟩ | q
        · exact .inl ⟨y, by simp [hy], q⟩
        · exact .inr q
    · split at h
      · rcases List.mem_cons.mp h with e | e
        · exact .inr ⟨b, by simp, by rw [e]⟩
        · rcases mg_mem (a :: f) g x e with q | ⟨y, hy, q⟩
          · exact .inl q
          · exact .inr ⟨y, by simp [hy], q⟩
      · split at h
        · rcases List.mem_cons.mp h with e | e
          · exact .inl ⟨a, by simp, by rw [e]⟩
          · rcases mg_mem f g x e with ⟨y, hy, q⟩ | ⟨y, hy, q⟩
            · exact .inl ⟨y, by simp [hy], q⟩
            · exact .inr ⟨y, by simp [hy], q⟩
        · rcases mg_mem f g x h with ⟨y, hy, q⟩ | ⟨y, hy, q⟩
          · exact .inl ⟨y, by simp [hy], q⟩
          · exact .inr ⟨y, by simp [hy], q⟩
  termination_by f g => f.length + g.length
theorem mg_all {f g : Rows} {m : Int} (hf : ∀ y ∈ f, m < y.1) (hg : ∀ y ∈ g, m < y.1) : ∀ x ∈ mg f g, m < x.1 := fun x hx => by
  rcases mg_mem f g x hx with ⟨y, hy, e⟩ | ⟨y, hy, e⟩
  · rw [← e]; exact hf y hy
  · rw [← e]; exact hg y hy
theorem mg_ok : ∀ {f g : Rows}, Ok f → Ok g → Ok (mg f g)
  | [], g, _, hg => by rw [mg_nil]; exact hg
  | a :: f, [], hf, _ => by rw [mg_nil']; exact hf
  | a :: f, b :: g, hf, hg => by
    rw [mg_cons]
    split
    · rename_i c
      refine (mg_ok hf.tl hg).cons (hf.nz a (by simp)) (mg_all hf.lt fun y hy => ?_)
      rcases List.mem_cons.mp hy with e | e
      · rw [e]; exact c
      · have := hg.lt y e; omega
    · rename_i c
      split
      · rename_i c2
        refine (mg_ok hf hg.tl).cons (hg.nz b (by simp)) (mg_all (fun y hy => ?_) hg.lt)
        rcases List.mem_cons.mp hy with e | e
        · rw [e]; exact c2
        · have := hf.lt y e; omega
      · rename_i c2
        split
        · rename_i c3
          exact (mg_ok hf.tl hg.tl).cons c3 (mg_all hf.lt fun y hy => by have := hg.lt y hy; dsimp only; omega)
        · exact mg_ok hf.tl hg.tl
  termination_by f g => f.length + g.length
theorem val_cons (a : Int × Rat) (l : Rows) (n : Int) : val (a :: l) n = if a.1 = n then a.2 else val l n := rfl
theorem mg_val : ∀ {f g : Rows}, Ok f → Ok g → ∀ n, val (mg f g) n = val f n + val g n
  | [], g, _, hg, n => by rw [mg_nil]; show _ = 0 + _; grind
  | a :: f, [], hf, _, n => by rw [mg_nil']; show _ = _ + 0; grind
  | a :: f, b :: g, hf, hg, n => by
    rw [mg_cons]
    split
    · rename_i c
      rw [val_cons a (mg f (b :: g)), val_cons a f]
      split
      · rename_i e
        rw [val_lt (l := b :: g) fun y hy => by
          rcases List.mem_cons.mp hy with z | z
          · rw [z]; omega
          · have := hg.lt y z; omega]
        grind
      · exact mg_val hf.tl hg n
    · rename_i c
      split
      · rename_i c2
        rw [val_cons b (mg (a :: f) g), val_cons b g]
        split
        · rename_i e
          rw [val_lt (l := a :: f) fun y hy => by
            rcases List.mem_cons.mp hy with z | z
            · rw [z]; omega
            · have := hf.lt y z; omega]
          grind
        · exact mg_val hf hg.tl n
      · rename_i c2
        have hab : a.1 = b.1 := by omega
        have ih := mg_val hf.tl hg.tl n
        split
        · rename_i c3
          rw [val_cons _ (mg f g), val_cons a f, val_cons b g, ← hab]
          split
          · rfl
          · exact ih
        · rename_i c3
          rw [ih, val_cons a f, val_cons b g, ← hab]
          split
          · rename_i e
            rw [val_lt (l := f) fun y hy => by have := hf.lt y hy; omega, val_lt (l := g) fun y hy => by have := hg.lt y hy; omega]
            grind
          · rfl
  termination_by f g => f.length + g.length
/-- a times the rows -/
def sc (a : Rat) (f : Rows) : Rows := if a = 0 then [] else f.map fun x => (x.1, a * x.2)
theorem val_map (a : Rat) : ∀ (f : Rows) (n : Int), val (f.map fun x => (x.1, a * x.2)) n = a * val f n
  | [], n => by show (0 : Rat) = a * 0; grind
  | (m, r) :: f, n => by
    show (if m = n then a * r else val (f.map fun x => (x.1, a * x.2)) n) = a * (if m = n then r else val f n)
    split
    · rfl
    · exact val_map a f n
theorem sc_val (a : Rat) (f : Rows) (n : Int) : val (sc a f) n = a * val f n := by
  unfold sc
  split
  · rename_i h; subst h; show (0 : Rat) = 0 * _; grind
  · exact val_map a f n
theorem mul_nz {a b : Rat} (ha : a ≠ 0) (hb : b ≠ 0) : a * b ≠ 0 := fun h => by
  rcases Rat.mul_eq_zero.mp h with z | z
  · exact ha z
  · exact hb z
theorem sc_ok {a : Rat} {f : Rows} (h : Ok f) : Ok (sc a f) := by
  unfold sc
  split
  · exact .nil
  · rename_i ha
    refine ⟨List.pairwise_map.mpr h.srt, fun x hx => ?_⟩
    obtain ⟨y, hy, rfl⟩ := List.mem_map.mp hx
    exact mul_nz ha (h.nz y hy)
/-- the value of a form -/
def ev (v : Int → Rat) : Rat → Rows → Rat
  | c, [] => c
  | c, x :: f => ev v (c + x.2 * v x.1) f
theorem ev_snoc (v : Int → Rat) : ∀ (f : Rows) (c : Rat) (x : Int × Rat), ev v c (f ++ [x]) = ev v c f + x.2 * v x.1
  | [], c, x => rfl
  | y :: f, c, x => ev_snoc v f _ x
/-! ### the own dicts -/
/-- a store -/
def put (l : Rows) (n : Int) (r : Rat) : Rows := if (l.any fun x => decide (x.1 = n)) = true then l.map (fun x => if x.1 = n then (x.1, r) else x) else l ++ [(n, r)]
def Nd (l : Rows) : Prop := (l.map (·.1)).Nodup
theorem any_iff {l : Rows} {n : Int} : (l.any fun x => decide (x.1 = n)) = true ↔ ∃ x ∈ l, x.1 = n := by simp
theorem val_map_put : ∀ (l : Rows) (n : Int) (r : Rat) (m : Int), val (l.map fun x => if x.1 = n then (x.1, r) else x) m = if n = m ∧ (∃ x ∈ l, x.1 = n) then r else val l m
  | [], n, r, m => by simp [val]
  | (k, s) :: l, n, r, m => by
    have ih := val_map_put l n r m
    show val ((if k = n then (k, r) else (k, s)) :: l.map _) m = _
    by_cases hk : k = n
    · subst hk
      rw [if_pos rfl, val_cons]
      dsimp only
      by_cases hm : k = m
      · rw [if_pos hm, if_pos ⟨hm, (k, s), by simp, rfl⟩]
      · rw [if_neg hm, ih, if_neg (fun z => hm z.1), if_neg (fun z => hm z.1), val_ne hm]
    · rw [if_neg hk, val_cons]
      dsimp only
      by_cases hm : k = m
      · subst hm
        rw [if_pos rfl, if_neg (fun z => hk z.1.symm)]
        exact val_hd.symm
      · rw [if_neg hm, ih, val_ne hm]
        by_cases hn : n = m
        · by_cases he : ∃ x ∈ l, x.1 = n
          · obtain ⟨x, hx, e⟩ := he
            rw [if_pos ⟨hn, x, hx, e⟩, if_pos ⟨hn, x, by simp [hx], e⟩]
          · rw [if_neg (fun z => he z.2), if_neg fun z => ?_]
            obtain ⟨_, x, hx, e⟩ := z
            rcases List.mem_cons.mp hx with q | q
            · subst q; exact hk e
            · exact he ⟨x, q, e⟩
        · rw [if_neg (fun z => hn z.1), if_neg (fun z => hn z.1)]
theorem val_app : ∀ (l : Rows) (n : Int) (r : Rat) (m : Int), (∀ x ∈ l, x.1 ≠ n) → val (l ++ [(n, r)]) m = if n = m then r else val l m
  | [], n, r, m, _ => rfl
  | (k, s) :: l, n, r, m, h => by
    have ih := val_app l n r m fun x hx => h x (by simp [hx])
    have hk : k ≠ n := h (k, s) (by simp)
    show val ((k, s) :: (l ++ [(n, r)])) m = _
    rw [val_cons, val_cons, ih]
    dsimp only
    by_cases hm : k = m
    · subst hm
      rw [if_pos rfl, if_neg hk.symm, if_pos rfl]
    · rw [if_neg hm, if_neg hm]
theorem put_val (l : Rows) (n : Int) (r : Rat) (m : Int) : val (put l n r) m = if n = m then r else val l m := by
  unfold put
  split
  · rename_i h
    have h := any_iff.mp h
    rw [val_map_put]
    by_cases hn : n = m
    · rw [if_pos ⟨hn, h⟩, if_pos hn]
    · rw [if_neg (fun z => hn z.1), if_neg hn]
  · rename_i h
    exact val_app l n r m fun x hx e => h (any_iff.mpr ⟨x, hx, e⟩)
theorem put_nd {l : Rows} {n : Int} {r : Rat} (h : Nd l) : Nd (put l n r) := by
  unfold put Nd
  split
  · rw [List.map_map]
    have : ((fun x : Int × Rat => x.1) ∘ fun x => if x.1 = n then (x.1, r) else x) = fun x => x.1 := by
      funext x; dsimp only [Function.comp]; split <;> rfl
    rw [this]; exact h
  · rename_i hn
    rw [List.map_append]
    refine List.nodup_append.mpr ⟨h, by simp, fun a ha b hb e => ?_⟩
    rw [List.map_singleton, List.mem_singleton] at hb
    obtain ⟨x, hx, q⟩ := List.mem_map.mp ha
    exact hn (any_iff.mpr ⟨x, hx, by rw [q, e, hb]⟩)
/-- the rows of a dict in the order of its nodes, the zeros left out -/
def pl (l : Rows) (ks : List Int) : Rows := ks.filterMap fun n => if val l n = 0 then none else some (n, val l n)
theorem pl_mem {l : Rows} {ks : List Int} {x : Int × Rat} (h : x ∈ pl l ks) : x.1 ∈ ks ∧ x.2 = val l x.1 ∧ x.2 ≠ 0 := by
  unfold pl at h
  obtain ⟨n, hn, e⟩ := List.mem_filterMap.mp h
  split at e
  · cases e
  · rename_i z
    cases e
    exact ⟨hn, rfl, z⟩
theorem pl_ok {l : Rows} : ∀ {ks : List Int}, ks.Pairwise (· < ·) → Ok (pl l ks)
  | [], _ => .nil
  | n :: ks, h => by
    have h2 := List.pairwise_cons.mp h
    have ih := pl_ok (l := l) h2.2
    unfold pl
    rw [List.filterMap_cons]
    split
    · exact ih
    · rename_i x e
      split at e
      · cases e
      · rename_i z
        cases e
        exact ih.cons z fun y hy => h2.1 _ (pl_mem hy).1
theorem pl_val {l : Rows} : ∀ {ks : List Int}, ks.Pairwise (· < ·) → ∀ n, val (pl l ks) n = if n ∈ ks then val l n else 0
  | [], _, n => by simp [pl, val]
  | k :: ks, h, n => by
    have h2 := List.pairwise_cons.mp h
    have ih := pl_val (l := l) h2.2 n
    have out : ∀ m ∈ ks, k ≠ m := fun m hm => by have := h2.1 m hm; omega
    unfold pl
    rw [List.filterMap_cons]
    split
    · rename_i e
      split at e
      · rename_i z
        show val (pl l ks) n = _
        rw [ih]
        by_cases hn : n = k
        · subst hn
          rw [if_neg (fun q => out _ q rfl), if_pos (by simp), z]
        · by_cases hk : n ∈ ks
          · rw [if_pos hk, if_pos (by simp [hk])]
          · rw [if_neg hk, if_neg (by simp [hn, hk])]
      · cases e
    · rename_i x e
      split at e
      · cases e
      · cases e
        show val ((k, val l k) :: pl l ks) n = _
        rw [val_cons]
        dsimp only
        by_cases hn : k = n
        · subst hn
          rw [if_pos rfl, if_pos (by simp)]
        · rw [if_neg hn, ih]
          by_cases hk : n ∈ ks
          · rw [if_pos hk, if_pos (by simp [hk])]
          · rw [if_neg hk, if_neg (by simp [hk, Ne.symm hn])]
theorem val_key {l : Rows} {n : Int} (h : n ∉ l.map (·.1)) : val l n = 0 := val_out fun y hy e => h (List.mem_map.mpr ⟨y, hy, e⟩)
/-- behind the own sorting: the rows told by their coefficients -/
theorem pl_is {l f : Rows} {ks : List Int} (hs : ks.Pairwise (· < ·)) (hk : ∀ n, n ∈ ks ↔ n ∈ l.map (·.1)) (hf : Ok f) (e : ∀ n, val f n = val l n) : pl l ks = f := by
  refine Ok.ext (pl_ok hs) hf fun n => ?_
  rw [pl_val hs, e]
  by_cases h : n ∈ ks
  · rw [if_pos h]
  · rw [if_neg h, val_key fun q => h ((hk n).mpr q)]
end R1

end
section
set_option Elab.async false
set_option linter.all false
set_option maxRecDepth 100000
set_option maxHeartbeats 4000000
local macro_rules | `(tactic| walk_at "npl") => `(tactic| first | exact Kf.npl rfl | exact Kf.npl_ints _ | exact Kf.npl_one _ _ | exact Kf.npl_refs _ | assumption)
local macro_rules | `(tactic| walk_at "nn") => `(tactic| first
  | assumption
  | (refine' Kf.Ext.non ?nne ?nnh; (case nne => assumption); (case nnh => walk_at "nn")))
local macro_rules | `(tactic| walk_at "ext") => `(tactic| first
  | assumption
  | exact Kf.Ext.refl
  | (refine' Kf.Ext.newer ?exa ?exn; (case exn => assumption); (case exa => walk_at "ext"))
  | (refine' Kf.Ext.own ?exa ?exn; (case exn => walk_at "nn"); (case exa => walk_at "ext"))
  | (refine' Kf.Ext.trans ?exa ?exb; (case exb => assumption); (case exa => walk_at "ext")))
local macro_rules | `(tactic| walk_at "pool") => `(tactic| first
  | assumption
  | (refine' Kf.PoolAt.ext ?plh ?ple; (case plh => assumption); (case ple => walk_at "ext"))
  | (refine' Kf.PoolAt.upd ?plh ?plo ?pln; (case plo => assumption); (case pln => walk_at "npl"); (case plh => walk_at "pool")))
local macro_rules | `(tactic| walk_at "lk") => `(tactic| first
  | assumption
  | exact L2.upd_same
  | (refine' Kf.upd_old ?lkn ?lkh; (case lkn => assumption); (case lkh => walk_at "lk"))
  | (refine' Kf.upd_oth ?lkn ?lkh; (case lkn => (first | assumption | (apply Ne.symm; assumption))); (case lkh => walk_at "lk"))
  | (refine' Kf.Ext.get ?lke ?lkh ?lkn; (case lke => assumption); (case lkh => walk_at "lk"); (case lkn => walk_at "npl"))
  | (refine' L2.Same.at ?lke ?lkh; (case lke => assumption); (case lkh => walk_at "lk")))
local macro_rules | `(tactic| walk_at "sq") => `(tactic| first
  | assumption
  | (refine' L2.SqL.of ?sqh; (case sqh => walk_at "lk"))
  | (refine' L2.SqT.of ?sqh; (case sqh => walk_at "lk"))
  | (refine' Kf.Ext.seqL ?sqe ?sqh ?sqn; (case sqh => assumption); (case sqe => walk_at "ext"); (case sqn => walk_at "npl"))
  | (refine' Kf.Ext.seqT ?sqe ?sqh; (case sqh => assumption); (case sqe => walk_at "ext")))
local macro_rules | `(tactic| walk_at "at") => `(tactic| first | exact L2.atI_nat (j := 0) rfl | exact L2.atI_nat (j := 1) rfl | exact L2.atI_nat (j := 2) rfl | exact L2.atI_nat (j := 3) rfl | exact L2.atI_nat (j := 4) rfl | assumption)
local macro_rules | `(tactic| walk_at "ixn") => `(tactic| first | exact Kf.ixN_nat (j := 0) rfl | exact Kf.ixN_nat (j := 1) rfl | exact Kf.ixN_nat (j := 2) rfl | exact Kf.ixN_nat (j := 3) rfl | assumption)
local macro_rules | `(tactic| walk_at "set") => `(tactic| (first | (simp only [List.set_cons_succ, List.set_cons_zero]; rfl) | rfl))
local macro_rules | `(tactic| walk_at "om") => `(tactic| first | decide | omega | (simp only [List.length_map, List.length_cons, List.length_nil] at *; omega))
local macro_rules | `(tactic| walk_at "calls") => `(tactic| first
  | (with_reducible refine' Kf.call_take ?clp ?cla ?clb ?clq; (case clp => walk_at "pool"); (case cla => walk_at "om"); (case clb => walk_at "om"); intro r H' hE h0 h1)
  | (with_reducible refine' Kf.call_pool ?cls ?cla ?clq; (case cls => walk_at "sq"); (case cla => walk_at "om"); intro p H' hE hN hP)
  | (with_reducible refine' Kf.call_turn ?cls ?clp ?cla ?clq; (case cls => walk_at "sq"); (case clp => walk_at "pool"); (case cla => walk_at "om"); intro u H' hE hP))
local macro_rules | `(tactic| walk_at "side") => `(tactic| first
  | exact Kf.cmul_fmod (by decide) (by decide)
  | exact rfl
  | decide
  | omega
  | assumption
  | (refine ⟨?_, ?_⟩ <;> decide)
  | (refine ⟨?_, ?_, ?_⟩ <;> decide)
  | (refine ⟨?_, ?_⟩ <;> omega)
  | (refine Or.inl ⟨?_, ?_⟩ <;> decide)
  | (refine Or.inr ⟨?_, ?_⟩ <;> decide)
  | (refine Or.inl ⟨?_, ?_⟩ <;> omega)
  | (refine Or.inr ⟨?_, ?_⟩ <;> omega))
local macro_rules | `(tactic| walk_at "kit") => `(tactic| first | exact Kf.isi_int_int | exact Kf.isi_int_bool | exact Kf.isi_int_str | exact Kf.isi_int_list | exact Kf.isi_int_tuple | exact Kf.isi_bool_int | exact Kf.isi_bool_bool | exact Kf.isi_bool_str | exact Kf.isi_bool_list | exact Kf.isi_bool_tuple | exact Kf.isi_str_int | exact Kf.isi_str_bool | exact Kf.isi_str_str | exact Kf.isi_str_list | exact Kf.isi_str_tuple | exact Kf.isi_non_list | exact Kf.isi_non_tuple | exact Kf.isi_list_list | exact Kf.isi_list_tuple | exact Kf.isi_tuple_list | exact Kf.isi_tuple_tuple | exact Kf.isi_dict_dict)
local macro_rules | `(tactic| walk_at "ty") => `(tactic| first
  | exact L2.TyX.base (L2.TyOf.int _)
  | exact L2.TyX.base (L2.TyOf.bl _)
  | exact L2.TyX.base (L2.TyOf.str _)
  | exact L2.TyX.base L2.TyOf.non
  | (refine' L2.TyX.base (L2.TyOf.lst ?tyh); (case tyh => walk_at "lk"))
  | (refine' L2.TyX.base (L2.TyOf.tup ?tyh); (case tyh => walk_at "lk"))
  | (refine' L2.TyX.base (L2.TyOf.dK ?tyh); (case tyh => walk_at "lk")))
local macro_rules | `(tactic| walk_at "om2") => `(tactic| first | assumption | decide | omega)
local macro_rules | `(tactic| walk_at "st") => `(tactic| with_reducible first
  | (refine Kf.w_var rfl ?_)
  | (refine Kf.w_c ?_)
  | (refine Kf.w_seq ?_)
  | (refine Kf.w_asg ?_)
  | (refine' Kf.w_gname ?sth ?_; (case sth => with_unfolding_all walk_at "set"))
  | (refine Kf.w_op ?_)
  | (refine Kf.w_un ?_)
  | (refine Kf.w_rU ?_)
  | (refine Kf.w_rI0 ?_)
  | (refine' Kf.w_rI ?sth ?_; (case sth => with_unfolding_all walk_at "side"))
  | (refine' Kf.w_rEq ?sth ?_; (case sth => with_unfolding_all rfl))
  | (refine' Kf.w_rNe ?sth ?_; (case sth => with_unfolding_all rfl))
  | (refine Kf.w_tTest ?_)
  | (refine Kf.w_tB ?_)
  | (refine Kf.w_exbl ?_)
  | (refine Kf.w_exint ?_)
  | (refine Kf.w_ifS ?_)
  | (refine Kf.w_ret ?_)
  | (refine Kf.w_retN ?_)
  | (refine Kf.w_drop ?_)
  | (refine Kf.w_and ?_)
  | (refine Kf.w_or ?_)
  | (refine Kf.w_not ?_)
  | (refine Kf.w_andV ?_)
  | (refine Kf.w_orV ?_)
  | (refine Kf.w_notV ?_)
  | (refine Kf.w_if ?_)
  | (refine Kf.w_lc ?_)
  | (refine Kf.w_for ?_)
  | (refine Kf.w_rng1 ?_)
  | (refine' Kf.w_rng1x ?sth ?stg ?_; (case sth => with_unfolding_all walk_at "om"); (case stg => with_unfolding_all walk_at "om"))
  | (refine Kf.w_ilist ?_)
  | (refine Kf.w_iseq ?_)
  | (refine Kf.w_itup ?_)
  | (refine' Kf.w_ilistx ?sth ?_; (case sth => with_unfolding_all walk_at "sq"))
  | (refine' Kf.w_itupx ?sth ?_; (case sth => with_unfolding_all walk_at "sq"))
  | (refine' Kf.w_wipe ?sth ?_; (case sth => with_unfolding_all rfl))
  | (refine Kf.w_yes ?_)
  | (refine' Kf.w_isi ?sth ?stg ?_; (case sth => with_unfolding_all walk_at "ty"); (case stg => walk_at "kit"))
  | (refine Kf.w_isN ?_)
  | (refine Kf.w_notN ?_)
  | (refine Kf.w_cb ?_)
  | (refine Kf.w_nil ?_)
  | (refine Kf.w_cons ?_)
  | (refine Kf.w_tup ?_)
  | (refine Kf.w_lst ?_)
  | (refine' Kf.w_lines ?sth ?_; (case sth => with_unfolding_all rfl))
  | (refine Kf.w_call ?_)
  | (refine Kf.w_next ?_)
  | (refine Kf.w_break ?_)
  | (refine Kf.w_cont ?_)
  | (refine Kf.w_dnewK ?_)
  | (refine Kf.w_ikeys ?_)
  | (refine Kf.w_dput ?_)
  | (refine Kf.w_dget2 ?_)
  | (refine Kf.w_dget ?_)
  | (refine Kf.w_sl ?_)
  | (refine Kf.w_nopart ?_)
  | (refine Kf.w_part ?_)
  | (refine Kf.w_bm ?_)
  | (refine Kf.w_bm0 ?_)
  | (refine' Kf.w_bmL ?sth ?_; (case sth => with_unfolding_all walk_at "lk"))
  | (refine' Kf.w_cat ?sth ?stg ?stf ?_; (case sth => with_unfolding_all walk_at "lk"); (case stg => with_unfolding_all walk_at "lk"); (case stf => with_unfolding_all walk_at "om"))
  | (refine' Kf.w_slL ?sth ?_; (case sth => with_unfolding_all walk_at "sq"))
  | (refine' Kf.w_inL ?sth ?_; (case sth => with_unfolding_all walk_at "sq"))
  | (refine' Kf.w_inT ?sth ?_; (case sth => with_unfolding_all walk_at "sq"))
  | (refine' Kf.w_ninL ?sth ?_; (case sth => with_unfolding_all walk_at "sq"))
  | (refine' Kf.w_ninT ?sth ?_; (case sth => with_unfolding_all walk_at "sq"))
  | (refine' Kf.w_listof ?sth ?_; (case sth => with_unfolding_all walk_at "sq"))
  | (refine' Kf.w_tupof ?sth ?_; (case sth => with_unfolding_all walk_at "sq"))
  | (refine Kf.w_listRev ?_)
  | (refine Kf.w_gsub ?_)
  | (refine' Kf.w_ixL ?sth ?stg ?_; (case sth => with_unfolding_all walk_at "sq"); (case stg => with_unfolding_all walk_at "at"))
  | (refine' Kf.w_ixT ?sth ?stg ?_; (case sth => with_unfolding_all walk_at "sq"); (case stg => with_unfolding_all walk_at "at"))
  | (refine' Kf.w_setL ?sth ?stg ?_; (case sth => with_unfolding_all walk_at "lk"); (case stg => with_unfolding_all walk_at "ixn"))
  | (refine' Kf.w_len ?sth ?_; (case sth => with_unfolding_all walk_at "sq"))
  | (refine' Kf.w_lenT ?sth ?_; (case sth => with_unfolding_all walk_at "sq"))
  | (refine Kf.w_int1 ?_)
  | (refine Kf.w_intb ?_)
  | (refine Kf.w_abs ?_)
  | (refine Kf.w_aug rfl ?_)
  | (refine Kf.w_par ?_)
  | (refine' Kf.w_gtup ?sth ?stg ?_; (case sth => with_unfolding_all walk_at "sq"); (case stg => with_unfolding_all exact rfl))
  | (refine' Kf.w_glst ?sth ?stg ?_; (case sth => with_unfolding_all walk_at "sq"); (case stg => with_unfolding_all exact rfl))
  | (refine Kf.w_rng2 ?_)
  | (refine Kf.w_rng3 ?_)
  | (refine' Kf.w_rng2x ?sth ?stg ?stf ?ste ?_; (case sth => with_unfolding_all walk_at "om"); (case stg => with_unfolding_all walk_at "om"); (case stf => with_unfolding_all walk_at "om"); (case ste => with_unfolding_all walk_at "om"))
  | (refine Kf.w_gcons ?_)
  | (refine Kf.w_gnil ?_)
  | (refine Kf.w_gcd ?_)
  | (refine Kf.w_bits ?_)
  | (refine Kf.w_two ?_)
  | (refine Kf.w_ipI ?_)
  | (refine L2.iteT ?_)
  | (refine L2.iteF ?_)
  | (refine Kf.iteNT ?_)
  | (refine Kf.iteNF ?_)
  | (refine' Kf.ite_decT ?sth ?_; (case sth => exact rfl))
  | (refine' Kf.ite_decF ?sth ?_; (case sth => with_unfolding_all (intro e; cases e; done)))
  | (refine' Kf.ite_ndecF ?sth ?_; (case sth => exact rfl))
  | (refine' Kf.ite_ndecT ?sth ?_; (case sth => with_unfolding_all (intro e; cases e; done)))
  | (refine' Kf.ite_viT ?sth ?_; (case sth => (with_unfolding_all walk_at "om2")))
  | (refine' Kf.ite_viF ?sth ?_; (case sth => (with_unfolding_all walk_at "om2")))
  | (refine' Kf.ite_nviT ?sth ?_; (case sth => (with_unfolding_all walk_at "om2")))
  | (refine' Kf.ite_nviF ?sth ?_; (case sth => (with_unfolding_all walk_at "om2")))
  | (refine' Kf.ite_decT ?sth ?_; (case sth => (with_unfolding_all walk_at "om2")))
  | (refine' Kf.ite_decF ?sth ?_; (case sth => (with_unfolding_all walk_at "om2")))
  | with_unfolding_all walk_at "calls")
local macro_rules | `(tactic| walk_at "go") => `(tactic| repeat walk_at "st")

namespace Kf
open PySem PySem.Spec PyProof.Rows L2
open R0 (Bd)
open R1 (mg Ok Rows)
abbrev rwD (x : Int × Rat) : PyData := .tuple [.int x.1, rD x.2]
abbrev fD (c : Rat) (f : Rows) : PyData := .tuple [rD c, .tuple (f.map rwD)]
theorem sq_rw (l : Rows) : ∀ d ∈ l.map rwD, isSq d := fun d hd => by
  obtain ⟨r, _, e⟩ := List.mem_map.mp hd
  subst e; trivial
theorem Ext.delN {H H' : Hp} {D : Addr} (e : Ext H H') (n : H D = none) : Ext H (Kf.del H' D) := fun b o h => by
  have hb : b ≠ D := ne_of_none h n
  rw [del_ne hb]
  exact e b o h
theorem Dq.tp {H : Hp} {v : V} {ds : List PyData} (h : Dq H v (.tuple ds)) : ∃ a vs, v = .ref a ∧ H a = some (.tup vs) ∧ DqAll H vs ds := by
  cases h with
  | tup h r => exact ⟨_, _, rfl, h, r⟩
theorem DqAll.two {H : Hp} {vs : List V} {d e : PyData} (h : DqAll H vs [d, e]) : ∃ x y, vs = [x, y] ∧ Dq H x d ∧ Dq H y e := by
  cases h with
  | cons h1 r => cases r with
    | cons h2 r => cases r; exact ⟨_, _, rfl, h1, h2⟩
theorem Dq.form {H : Hp} {v : V} {c : Rat} {f : Rows} (h : Dq H v (fD c f)) : ∃ p cv t vs, v = .ref p ∧ H p = some (.tup [cv, .ref t]) ∧ Dq H cv (rD c) ∧ H t = some (.tup vs) ∧ DqAll H vs (f.map rwD) := by
  obtain ⟨p, vs, rfl, hp, r⟩ := h.tp
  obtain ⟨x, y, rfl, h1, h2⟩ := r.two
  obtain ⟨t, ws, rfl, ht, rt⟩ := h2.tp
  exact ⟨p, x, t, ws, rfl, hp, h1, ht, rt⟩
theorem Dq.of_form {H : Hp} {p t : Addr} {cv : V} {vs : List V} {c : Rat} {f : Rows} (hp : H p = some (.tup [cv, .ref t])) (hc : Dq H cv (rD c)) (ht : H t = some (.tup vs)) (r : DqAll H vs (f.map rwD)) : Dq H (.ref p) (fD c f) :=
  .tup hp (.cons hc (.cons (.tup ht r) .nil))
theorem row_el {H : Hp} {f : Rows} {vs : List V} {i : Nat} {n : Int} {r : Rat} (h : DqAll H vs (f.map rwD)) (e : f[i]? = some (n, r)) : ∃ p rv, atI vs (i : Int) = some (.ref p) ∧ H p = some (.tup [.int n, rv]) ∧ Dq H rv (rD r) := by
  obtain ⟨v, hv, q⟩ := h.el (d := rwD (n, r)) (by rw [List.getElem?_map, e]; rfl)
  obtain ⟨p, ws, rfl, hp, rr⟩ := q.tp
  obtain ⟨x, y, rfl, h1, h2⟩ := rr.two
  cases h1
  exact ⟨p, y, atI_nat hv, hp, h2⟩
theorem w_while {c : TT} {tb : TS} {D : Ends} {σ : L2.St} {H : Hp} (Pv : Nat → L2.St → Hp → Prop) (m0 : Nat) (h0 : Pv m0 σ H)
    (hs : ∀ m σ H, Pv m σ H → c σ H fun b H1 => if b = true then ∃ N : L2.St → Hp → Prop, (∀ σ' H', N σ' H' → ∃ m', m' < m ∧ Pv m' σ' H') ∧ tb { D with nx := N, ct := N, bk := D.nx } σ H1 else D.nx σ H1) : tWhile c tb D σ H := ⟨Pv, ⟨m0, h0⟩, hs⟩
abbrev s_constant_form : Stmt := topS 9
abbrev N_constant_form : List Str := ["a"]
abbrev P_constant_form : List Str := ["a"]
theorem sc_constant_form : FnScope N_constant_form P_constant_form (defScope s_constant_form) := ⟨rfl, rfl, rfl, by decide +kernel, rfl, by decide +kernel, by decide +kernel⟩
abbrev s_base_form : Stmt := topS 10
abbrev N_base_form : List Str := ["node"]
abbrev P_base_form : List Str := ["node"]
theorem sc_base_form : FnScope N_base_form P_base_form (defScope s_base_form) := ⟨rfl, rfl, rfl, by decide +kernel, rfl, by decide +kernel, by decide +kernel⟩
abbrev s_form_plus : Stmt := topS 11
abbrev N_form_plus : List Str := ["f", "g", "rows", "i", "j", "total"]
abbrev P_form_plus : List Str := ["f", "g"]
theorem sc_form_plus : FnScope N_form_plus P_form_plus (defScope s_form_plus) := ⟨rfl, rfl, rfl, by decide +kernel, rfl, by decide +kernel, by decide +kernel⟩
section
variable {P : Program} {w : World} {K : PySem.W.Frag} {mg' : Str → Option Value} {base : Heap} {H : Hp} {Q : VK} {E : XK}
def spCon (K : PySem.W.Frag) : Sp := fun vs H Q _ => ∃ (x : V) (c : Rat), vs = [x] ∧ Dq H x (rD c) ∧ ∀ v H', Ext H H' → Dq H' v (fD c []) → Q v H'
theorem ok_con (D : Df K mg' "constant_form" s_constant_form P_constant_form) : Pr P w K mg' base "constant_form" 1 P_constant_form (spCon K) := by
  refine D.ok sc_constant_form (fun vs H Q E h => ?_) (fun f cdv A outer s H vs Q E hr h => ?_)
  · obtain ⟨x, c, rfl, _⟩ := h; rfl
  obtain ⟨x, c, rfl, hx, q⟩ := h
  have nd := sc_constant_form.nd
  refine ⟨_, (pss_one (ps_ret (pe_tup (pa_cons (pv 0) (pa_cons (pe_tup pa_nil) pa_nil))))), ?_⟩
  refine w_start (σ := [some _]) rfl ?_
  walk_at "go"
  intro p hp
  walk_at "go"
  intro p2 hp2
  exact q _ _ ((Ext.new hp).newer hp2) (.of_form (f := []) L2.upd_same (hx.ext ((Ext.new hp).newer hp2)) (upd_old hp2 L2.upd_same) .nil)
def spBas (K : PySem.W.Frag) : Sp := fun vs H Q _ => ∃ (n : Int), vs = [.int n] ∧ ∀ v H', Ext H H' → Dq H' v (fD 0 [(n, 1)]) → Q v H'
theorem ok_bas (D : Df K mg' "base_form" s_base_form P_base_form) : Pr P w K mg' base "base_form" 1 P_base_form (spBas K) := by
  refine D.ok sc_base_form (fun vs H Q E h => ?_) (fun f cdv A outer s H vs Q E hr h => ?_)
  · obtain ⟨n, rfl, _⟩ := h; rfl
  obtain ⟨n, rfl, q⟩ := h
  have nd := sc_base_form.nd
  refine ⟨_, (pss_one (ps_ret (pe_tup (pa_cons (pe_tup (pa_cons pe_int (pa_cons pe_int pa_nil))) (pa_cons (pe_tup (pa_cons (pe_tup (pa_cons (pv 0) (pa_cons (pe_tup (pa_cons pe_int (pa_cons pe_int pa_nil))) pa_nil))) pa_nil)) pa_nil))))), ?_⟩
  refine w_start (σ := [some _]) rfl ?_
  walk_at "go"
  intro p hp
  walk_at "go"
  intro p2 hp2
  walk_at "go"
  intro p3 hp3
  walk_at "go"
  intro p4 hp4
  walk_at "go"
  intro p5 hp5
  have h1 := upd_old (u := .tup [.ref p, .ref p4]) hp5 (upd_old (u := .tup [.ref p3]) hp4 (upd_old (u := .tup [.int n, .ref p2]) hp3 (upd_old (u := .tup [.int 1, .int 1]) hp2 (L2.upd_same (H := H) (a := p) (o := .tup [.int 0, .int 1])))))
  have h2 := upd_old (u := .tup [.ref p, .ref p4]) hp5 (upd_old (u := .tup [.ref p3]) hp4 (upd_old (u := .tup [.int n, .ref p2]) hp3 (L2.upd_same (H := upd H p (.tup [.int 0, .int 1])) (a := p2) (o := .tup [.int 1, .int 1]))))
  have h3 := upd_old (u := .tup [.ref p, .ref p4]) hp5 (upd_old (u := .tup [.ref p3]) hp4 (L2.upd_same (H := upd (upd H p (.tup [.int 0, .int 1])) p2 (.tup [.int 1, .int 1])) (a := p3) (o := .tup [.int n, .ref p2])))
  have h4 := upd_old (u := .tup [.ref p, .ref p4]) hp5 (L2.upd_same (H := upd (upd (upd H p (.tup [.int 0, .int 1])) p2 (.tup [.int 1, .int 1])) p3 (.tup [.int n, .ref p2])) (a := p4) (o := .tup [.ref p3]))
  refine q _ _ (((((Ext.new hp).newer hp2).newer hp3).newer hp4).newer hp5) (.of_form (f := [(n, 1)]) L2.upd_same (Dq.of_pair h1) h4 ?_)
  exact .cons (.tup h3 (.cons (.int _) (.cons (Dq.of_pair h2) .nil))) .nil
/-- small forms -/
structure FOk (c : Rat) (f : Rows) : Prop where
  ok : Ok f
  bc : Bd 200 c
  br : ∀ x ∈ f, Bd 200 x.2
  ln : f.length ≤ 200
def spFPl (K : PySem.W.Frag) : Sp := fun vs H Q _ => ∃ (x y : V) (c d : Rat) (f g : Rows), vs = [x, y] ∧ Dq H x (fD c f) ∧ Dq H y (fD d g) ∧ FOk c f ∧ FOk d g ∧ ∀ v H', Ext H H' → Dq H' v (fD (c + d) (mg f g)) → Q v H'
theorem drop_at {f : Rows} {i : Nat} (h : i < f.length) : ∃ n r, f[i]? = some (n, r) ∧ f.drop i = (n, r) :: f.drop (i + 1) := ⟨f[i].1, f[i].2, List.getElem?_eq_getElem h, List.drop_eq_getElem_cons h⟩
theorem ok_fpl (D : Df K mg' "form_plus" s_form_plus P_form_plus) (b_len : mg' "len" = none) (b_tuple : mg' "tuple" = none) (p_plus : Pr P w K mg' base "plus" 2 P_plus (spTwo K (fun a b => a + b))) : Pr P w K mg' base "form_plus" 3 P_form_plus (spFPl K) := by
  refine D.ok sc_form_plus (fun vs H Q E h => ?_) (fun f cdv A outer s H vs Q E hr h => ?_)
  · obtain ⟨x, y, c, d, f, g, rfl, _⟩ := h; rfl
  obtain ⟨x, y, c, d, F, G, rfl, hx, hy, okF, okG, q⟩ := h
  obtain ⟨pf, cf, tf, fs, rfl, hpf, hcf, htf, hfs⟩ := hx.form
  obtain ⟨pg, cg, tg, gs, rfl, hpg, hcg, htg, hgs⟩ := hy.form
  have fl := hfs.len
  have gl := hgs.len
  rw [List.length_map] at fl gl
  have lF := okF.ln
  have lG := okG.ln
  have nd := sc_form_plus.nd
  refine ⟨_, (pss_cons (ps_set (i := 2) nd rfl (Or.inl rfl) (pe_lst pa_nil))
      (pss_cons (ps_set (i := 3) nd rfl (Or.inl rfl) pe_int)
      (pss_cons (ps_set (i := 4) nd rfl (Or.inl rfl) pe_int)
      (pss_cons (ps_while PassesOwn.never (PW.pt (pw_or (pt_cmpR op_lt (pv 3) (pe_callB (call_lenK (K := K) rfl) (by rfl) b_len PySem.boot_len (pa_cons (pe_ix (ix_tupK (K := K) rfl) (pv 0) pe_int (fun _ _ => rfl)) pa_nil)) (nomark _)) (pw_or1 (pt_cmpR op_lt (pv 4) (pe_callB (call_lenK (K := K) rfl) (by rfl) b_len PySem.boot_len (pa_cons (pe_ix (ix_tupK (K := K) rfl) (pv 1) pe_int (fun _ _ => rfl)) pa_nil)) (nomark _))))) (pss_one (ps_if (PW.pt (pw_or (pt_cmpR op_eq (pv 4) (pe_callB (call_lenK (K := K) rfl) (by rfl) b_len PySem.boot_len (pa_cons (pe_ix (ix_tupK (K := K) rfl) (pv 1) pe_int (fun _ _ => rfl)) pa_nil)) (nomark _)) (pw_or1 (PW.pt (pw_and (pt_cmpR op_lt (pv 3) (pe_callB (call_lenK (K := K) rfl) (by rfl) b_len PySem.boot_len (pa_cons (pe_ix (ix_tupK (K := K) rfl) (pv 0) pe_int (fun _ _ => rfl)) pa_nil)) (nomark _)) (pw_and1 (pt_cmpR op_lt (pe_ix (ix_tupK (K := K) rfl) (pe_ix (ix_tupK (K := K) rfl) (pe_ix (ix_tupK (K := K) rfl) (pv 0) pe_int (fun _ _ => rfl)) (pv 3) (fun _ _ => rfl)) pe_int (fun _ _ => rfl)) (pe_ix (ix_tupK (K := K) rfl) (pe_ix (ix_tupK (K := K) rfl) (pe_ix (ix_tupK (K := K) rfl) (pv 1) pe_int (fun _ _ => rfl)) (pv 4) (fun _ _ => rfl)) pe_int (fun _ _ => rfl)) (nomark _)))))))) (pss_cons (ps_expr (pe_bmK (K := K) rfl PySem.F.plainAttrs_list PySem.F.slot_list_append PySem.F.type_list_append mt_append (pv 2) (pa_cons (pe_ix (ix_tupK (K := K) rfl) (pe_ix (ix_tupK (K := K) rfl) (pv 0) pe_int (fun _ _ => rfl)) (pv 3) (fun _ _ => rfl)) pa_nil)))
      (pss_one (ps_aug (i := 3) nd rfl (Or.inl rfl) pe_int ip_add))) (pss_one (ps_if (PW.pt (pw_or (pt_cmpR op_eq (pv 3) (pe_callB (call_lenK (K := K) rfl) (by rfl) b_len PySem.boot_len (pa_cons (pe_ix (ix_tupK (K := K) rfl) (pv 0) pe_int (fun _ _ => rfl)) pa_nil)) (nomark _)) (pw_or1 (pt_cmpR op_lt (pe_ix (ix_tupK (K := K) rfl) (pe_ix (ix_tupK (K := K) rfl) (pe_ix (ix_tupK (K := K) rfl) (pv 1) pe_int (fun _ _ => rfl)) (pv 4) (fun _ _ => rfl)) pe_int (fun _ _ => rfl)) (pe_ix (ix_tupK (K := K) rfl) (pe_ix (ix_tupK (K := K) rfl) (pe_ix (ix_tupK (K := K) rfl) (pv 0) pe_int (fun _ _ => rfl)) (pv 3) (fun _ _ => rfl)) pe_int (fun _ _ => rfl)) (nomark _))))) (pss_cons (ps_expr (pe_bmK (K := K) rfl PySem.F.plainAttrs_list PySem.F.slot_list_append PySem.F.type_list_append mt_append (pv 2) (pa_cons (pe_ix (ix_tupK (K := K) rfl) (pe_ix (ix_tupK (K := K) rfl) (pv 1) pe_int (fun _ _ => rfl)) (pv 4) (fun _ _ => rfl)) pa_nil)))
      (pss_one (ps_aug (i := 4) nd rfl (Or.inl rfl) pe_int ip_add))) (pss_cons (ps_set (i := 5) nd rfl (Or.inl rfl) (pe_callP p_plus hr (pa_cons (pe_ix (ix_tupK (K := K) rfl) (pe_ix (ix_tupK (K := K) rfl) (pe_ix (ix_tupK (K := K) rfl) (pv 0) pe_int (fun _ _ => rfl)) (pv 3) (fun _ _ => rfl)) pe_int (fun _ _ => rfl)) (pa_cons (pe_ix (ix_tupK (K := K) rfl) (pe_ix (ix_tupK (K := K) rfl) (pe_ix (ix_tupK (K := K) rfl) (pv 1) pe_int (fun _ _ => rfl)) (pv 4) (fun _ _ => rfl)) pe_int (fun _ _ => rfl)) pa_nil))))
      (C8.pss_cut (ps_if (pt_cmpR op_ne (pe_ix (ix_tupK (K := K) rfl) (pv 5) pe_int (fun _ _ => rfl)) pe_int (nomark _)) (pss_one (ps_expr (pe_bmK (K := K) rfl PySem.F.plainAttrs_list PySem.F.slot_list_append PySem.F.type_list_append mt_append (pv 2) (pa_cons (pe_tup (pa_cons (pe_ix (ix_tupK (K := K) rfl) (pe_ix (ix_tupK (K := K) rfl) (pe_ix (ix_tupK (K := K) rfl) (pv 0) pe_int (fun _ _ => rfl)) (pv 3) (fun _ _ => rfl)) pe_int (fun _ _ => rfl)) (pa_cons (pv 5) pa_nil))) pa_nil)))) pss_nil)
      (pss_cons (ps_aug (i := 3) nd rfl (Or.inl rfl) pe_int ip_add)
      (pss_one (ps_aug (i := 4) nd rfl (Or.inl rfl) pe_int ip_add))))))))))
      (pss_one (ps_ret (pe_tup (pa_cons (pe_callP p_plus hr (pa_cons (pe_ix (ix_tupK (K := K) rfl) (pv 0) pe_int (fun _ _ => rfl)) (pa_cons (pe_ix (ix_tupK (K := K) rfl) (pv 1) pe_int (fun _ _ => rfl)) pa_nil))) (pa_cons (pe_callTy (call_tuple_ofK (K := K) rfl) (by rfl) b_tuple (by decide +kernel) (pa_cons (pv 2) pa_nil)) pa_nil))))))))), ?_⟩
  refine w_start (σ := [some _, some _, none, none, none, none]) rfl ?_
  walk_at "go"
  intro D0 hD0
  walk_at "go"
  refine w_while (fun m σ H' => ∃ (i j : Nat) (acc : Rows) (t : Option V), m = (F.length - i) + (G.length - j) ∧ i ≤ F.length ∧ j ≤ G.length ∧ σ = [some (.ref pf), some (.ref pg), some (.ref D0), some (.int (i : Int)), some (.int (j : Int)), t] ∧ Ext H H' ∧ Own H' D0 (acc.map rwD) ∧ acc ++ mg (F.drop i) (G.drop j) = mg F G ∧ acc.length ≤ i + j)
    _ ⟨0, 0, [], _, rfl, by omega, by omega, rfl, Ext.new hD0, Own.nil, rfl, by simp⟩ ?_
  rintro m σ H1 ⟨i, j, acc, t, rfl, hi, hj, rfl, hE, ⟨vs, hD1, hr1⟩, hacc, hal⟩
  have hpf1 := hE.get hpf (npl rfl)
  have hpg1 := hE.get hpg (npl rfl)
  have htf1 := hE.get htf (npl rfl)
  have htg1 := hE.get htg (npl rfl)
  have vl := hr1.len
  rw [List.length_map] at vl
  have eN := hE.delN hD0
  have npD : ¬ Pl (.lst vs) := hr1.npl (sq_rw _)
  by_cases ci : i < F.length
  · obtain ⟨n, r, eF, dF⟩ := drop_at ci
    obtain ⟨p1, rv, ha1, hp1, hq1⟩ := row_el hfs eF
    have hp1' := hE.get hp1 (npl rfl)
    have keep1 : Dq (del H1 D0) (.ref p1) (rwD (n, r)) := Dq.ext eN (.tup hp1 (.cons (.int _) (.cons hq1 .nil)))
    by_cases cj : j < G.length
    · obtain ⟨n', r', eG, dG⟩ := drop_at cj
      obtain ⟨p2, rv', ha2, hp2, hq2⟩ := row_el hgs eG
      have hp2' := hE.get hp2 (npl rfl)
      have keep2 : Dq (del H1 D0) (.ref p2) (rwD (n', r')) := Dq.ext eN (.tup hp2 (.cons (.int _) (.cons hq2 .nil)))
      rw [dF, dG, R1.mg_cons] at hacc
      rcases Int.lt_trichotomy n n' with cn | cn | cn
      · rw [if_pos cn, ← dG] at hacc
        walk_at "go"
        refine ⟨_, fun _ _ h => h, ?_⟩
        walk_at "go"
        refine w_append hD1 (small1000 (by omega)) ?_
        walk_at "go"
        exact ⟨_, by omega, i + 1, j, acc ++ [(n, r)], _, rfl, by omega, hj, rfl, hE.own hD0, by rw [List.map_append]; exact Own.push hr1 keep1, by rw [List.append_assoc]; exact hacc, by rw [List.length_append, List.length_singleton]; omega⟩
      · subst cn
        have c1 : ¬ (n, r).1 < (n, r').1 := Int.lt_irrefl n
        rw [if_neg c1, if_neg c1] at hacc
        walk_at "go"
        refine ⟨_, fun _ _ h => h, ?_⟩
        walk_at "go"
        refine call_two (hq1.ext hE) (hq2.ext hE) (okF.br _ (List.mem_of_getElem? eF)) (okG.br _ (List.mem_of_getElem? eG)) (by decide) (by decide) (by decide) fun v H2 hE2 hv => ?_
        obtain ⟨pv, rfl, hpv⟩ := hv.pair
        have hpf2 := hE2.get hpf1 (npl rfl)
        have htf2 := hE2.get htf1 (npl rfl)
        have hp1'' := hE2.get hp1' (npl rfl)
        have hD2 := hE2.get hD1 npD
        walk_at "go"
        refine w_cut (fun σ' H' => ∃ acc' : Rows, σ' = [some (.ref pf), some (.ref pg), some (.ref D0), some (.int (i : Int)), some (.int (j : Int)), some (.ref pv)] ∧ Ext H H' ∧ Own H' D0 (acc'.map rwD) ∧ acc' ++ mg (F.drop (i + 1)) (G.drop (j + 1)) = mg F G ∧ acc'.length ≤ acc.length + 1) ?_ ?_
        · walk_at "go"
          refine ite_nvi (fun cz => ?_) (fun cz => ?_)
          · have nz : (n, r).2 + (n, r').2 ≠ 0 := fun e => cz (by rw [show r + r' = 0 from e]; rfl)
            rw [if_pos nz] at hacc
            walk_at "go"
            intro p3 hp3
            walk_at "go"
            refine w_append (upd_old hp3 hD2) (small1000 (by omega)) ?_
            refine ⟨acc ++ [(n, r + r')], rfl, ((hE.trans hE2).newer hp3).own hD0, ?_, by rw [List.append_assoc]; exact hacc, by rw [List.length_append, List.length_singleton]; omega⟩
            rw [List.map_append]
            have n3 : p3 ≠ D0 := fun z => by subst z; rw [hD2] at hp3; cases hp3
            have nv : pv ≠ D0 := fun z => by subst z; rw [hD2] at hpv; cases hpv
            exact Own.push ((hr1.ext (Ext.del hE2)).ext (Ext.del (Ext.new hp3))) (.tup (del_at L2.upd_same n3) (.cons (.int _) (.cons (Dq.of_pair (del_at (upd_old hp3 hpv) nv)) .nil)))
          · have z0 : r + r' = 0 := by
              have := R0.at_div (r + r')
              rw [cz] at this
              rw [← this]
              show ((0 : Int) : Rat) / _ = 0
              have : ((0 : Int) : Rat) = 0 := rfl
              rw [this]; grind
            have nz : ¬ (n, r).2 + (n, r').2 ≠ 0 := fun e => e z0
            rw [if_neg nz] at hacc
            exact ⟨acc, rfl, hE.trans hE2, ⟨vs, hD2, hr1.ext (Ext.del hE2)⟩, hacc, by omega⟩
        rintro σ' H3 ⟨acc', rfl, hE3, hown3, hacc3, hal3⟩
        walk_at "go"
        exact ⟨_, by omega, i + 1, j + 1, acc', _, rfl, by omega, by omega, rfl, hE3, hown3, hacc3, by omega⟩
      · rw [if_neg (by dsimp only; omega), if_pos cn, ← dF] at hacc
        walk_at "go"
        refine ⟨_, fun _ _ h => h, ?_⟩
        walk_at "go"
        refine w_append hD1 (small1000 (by omega)) ?_
        walk_at "go"
        exact ⟨_, by omega, i, j + 1, acc ++ [(n', r')], _, rfl, hi, by omega, rfl, hE.own hD0, by rw [List.map_append]; exact Own.push hr1 keep2, by rw [List.append_assoc]; exact hacc, by rw [List.length_append, List.length_singleton]; omega⟩
    · have ej : j = G.length := by omega
      subst ej
      rw [List.drop_length, R1.mg_nil', dF] at hacc
      walk_at "go"
      refine ⟨_, fun _ _ h => h, ?_⟩
      walk_at "go"
      refine w_append hD1 (small1000 (by omega)) ?_
      walk_at "go"
      exact ⟨_, by omega, i + 1, G.length, acc ++ [(n, r)], _, rfl, by omega, hj, rfl, hE.own hD0, by rw [List.map_append]; exact Own.push hr1 keep1, by rw [List.drop_length, R1.mg_nil', List.append_assoc]; exact hacc, by rw [List.length_append, List.length_singleton]; omega⟩
  · have ei : i = F.length := by omega
    subst ei
    by_cases cj : j < G.length
    · obtain ⟨n', r', eG, dG⟩ := drop_at cj
      obtain ⟨p2, rv', ha2, hp2, hq2⟩ := row_el hgs eG
      have hp2' := hE.get hp2 (npl rfl)
      have keep2 : Dq (del H1 D0) (.ref p2) (rwD (n', r')) := Dq.ext eN (.tup hp2 (.cons (.int _) (.cons hq2 .nil)))
      rw [List.drop_length, R1.mg_nil, dG] at hacc
      walk_at "go"
      refine ⟨_, fun _ _ h => h, ?_⟩
      walk_at "go"
      refine w_append hD1 (small1000 (by omega)) ?_
      walk_at "go"
      exact ⟨_, by omega, F.length, j + 1, acc ++ [(n', r')], _, rfl, hi, by omega, rfl, hE.own hD0, by rw [List.map_append]; exact Own.push hr1 keep2, by rw [List.drop_length, R1.mg_nil, List.append_assoc]; exact hacc, by rw [List.length_append, List.length_singleton]; omega⟩
    · have ej : j = G.length := by omega
      subst ej
      rw [List.drop_length, List.drop_length, R1.mg_nil, List.append_nil] at hacc
      walk_at "go"
      refine call_two (hcf.ext hE) (hcg.ext hE) okF.bc okG.bc (by decide) (by decide) (by decide) fun v H2 hE2 hv => ?_
      have hD2 := hE2.get hD1 npD
      walk_at "go"
      intro pt hpt
      walk_at "go"
      intro pr hpr
      have e12 : ∀ o, Ext H2 (upd (upd H2 pt (.tup vs)) pr o) := fun o => (Ext.new hpt).newer hpr
      refine q _ _ (((hE.trans hE2).newer hpt).newer hpr) ?_
      rw [← hacc]
      exact .of_form L2.upd_same (hv.ext (e12 _)) (upd_old hpr L2.upd_same) (((hr1.ext del_sub).ext hE2).ext (e12 _))
end
end Kf

end
section
set_option Elab.async false
set_option linter.all false
set_option maxRecDepth 100000
set_option maxHeartbeats 4000000
local macro_rules | `(tactic| walk_at "npl") => `(tactic| first | exact Kf.npl rfl | exact Kf.npl_ints _ | exact Kf.npl_one _ _ | exact Kf.npl_refs _ | assumption)
local macro_rules | `(tactic| walk_at "nn") => `(tactic| first
  | assumption
  | (refine' Kf.Ext.non ?nne ?nnh; (case nne => assumption); (case nnh => walk_at "nn")))
local macro_rules | `(tactic| walk_at "ext") => `(tactic| first
  | assumption
  | exact Kf.Ext.refl
  | (refine' Kf.Ext.newer ?exa ?exn; (case exn => assumption); (case exa => walk_at "ext"))
  | (refine' Kf.Ext.own ?exa ?exn; (case exn => walk_at "nn"); (case exa => walk_at "ext"))
  | (refine' Kf.Ext.trans ?exa ?exb; (case exb => assumption); (case exa => walk_at "ext")))
local macro_rules | `(tactic| walk_at "pool") => `(tactic| first
  | assumption
  | (refine' Kf.PoolAt.ext ?plh ?ple; (case plh => assumption); (case ple => walk_at "ext"))
  | (refine' Kf.PoolAt.upd ?plh ?plo ?pln; (case plo => assumption); (case pln => walk_at "npl"); (case plh => walk_at "pool")))
local macro_rules | `(tactic| walk_at "lk") => `(tactic| first
  | assumption
  | exact L2.upd_same
  | (refine' Kf.upd_old ?lkn ?lkh; (case lkn => assumption); (case lkh => walk_at "lk"))
  | (refine' Kf.upd_oth ?lkn ?lkh; (case lkn => (first | assumption | (apply Ne.symm; assumption))); (case lkh => walk_at "lk"))
  | (refine' Kf.Ext.get ?lke ?lkh ?lkn; (case lke => assumption); (case lkh => walk_at "lk"); (case lkn => walk_at "npl"))
  | (refine' L2.Same.at ?lke ?lkh; (case lke => assumption); (case lkh => walk_at "lk")))
local macro_rules | `(tactic| walk_at "sq") => `(tactic| first
  | assumption
  | (refine' L2.SqL.of ?sqh; (case sqh => walk_at "lk"))
  | (refine' L2.SqT.of ?sqh; (case sqh => walk_at "lk"))
  | (refine' Kf.Ext.seqL ?sqe ?sqh ?sqn; (case sqh => assumption); (case sqe => walk_at "ext"); (case sqn => walk_at "npl"))
  | (refine' Kf.Ext.seqT ?sqe ?sqh; (case sqh => assumption); (case sqe => walk_at "ext")))
local macro_rules | `(tactic| walk_at "at") => `(tactic| first | exact L2.atI_nat (j := 0) rfl | exact L2.atI_nat (j := 1) rfl | exact L2.atI_nat (j := 2) rfl | exact L2.atI_nat (j := 3) rfl | exact L2.atI_nat (j := 4) rfl | assumption)
local macro_rules | `(tactic| walk_at "ixn") => `(tactic| first | exact Kf.ixN_nat (j := 0) rfl | exact Kf.ixN_nat (j := 1) rfl | exact Kf.ixN_nat (j := 2) rfl | exact Kf.ixN_nat (j := 3) rfl | assumption)
local macro_rules | `(tactic| walk_at "set") => `(tactic| (first | (simp only [List.set_cons_succ, List.set_cons_zero]; rfl) | rfl))
local macro_rules | `(tactic| walk_at "om") => `(tactic| first | decide | omega | (simp only [List.length_map, List.length_cons, List.length_nil] at *; omega))
local macro_rules | `(tactic| walk_at "calls") => `(tactic| first
  | (with_reducible refine' Kf.call_take ?clp ?cla ?clb ?clq; (case clp => walk_at "pool"); (case cla => walk_at "om"); (case clb => walk_at "om"); intro r H' hE h0 h1)
  | (with_reducible refine' Kf.call_pool ?cls ?cla ?clq; (case cls => walk_at "sq"); (case cla => walk_at "om"); intro p H' hE hN hP)
  | (with_reducible refine' Kf.call_turn ?cls ?clp ?cla ?clq; (case cls => walk_at "sq"); (case clp => walk_at "pool"); (case cla => walk_at "om"); intro u H' hE hP))
local macro_rules | `(tactic| walk_at "side") => `(tactic| first
  | exact Kf.cmul_fmod (by decide) (by decide)
  | exact rfl
  | decide
  | omega
  | assumption
  | (refine ⟨?_, ?_⟩ <;> decide)
  | (refine ⟨?_, ?_, ?_⟩ <;> decide)
  | (refine ⟨?_, ?_⟩ <;> omega)
  | (refine Or.inl ⟨?_, ?_⟩ <;> decide)
  | (refine Or.inr ⟨?_, ?_⟩ <;> decide)
  | (refine Or.inl ⟨?_, ?_⟩ <;> omega)
  | (refine Or.inr ⟨?_, ?_⟩ <;> omega))
local macro_rules | `(tactic| walk_at "kit") => `(tactic| first | exact Kf.isi_int_int | exact Kf.isi_int_bool | exact Kf.isi_int_str | exact Kf.isi_int_list | exact Kf.isi_int_tuple | exact Kf.isi_bool_int | exact Kf.isi_bool_bool | exact Kf.isi_bool_str | exact Kf.isi_bool_list | exact Kf.isi_bool_tuple | exact Kf.isi_str_int | exact Kf.isi_str_bool | exact Kf.isi_str_str | exact Kf.isi_str_list | exact Kf.isi_str_tuple | exact Kf.isi_non_list | exact Kf.isi_non_tuple | exact Kf.isi_list_list | exact Kf.isi_list_tuple | exact Kf.isi_tuple_list | exact Kf.isi_tuple_tuple | exact Kf.isi_dict_dict)
local macro_rules | `(tactic| walk_at "ty") => `(tactic| first
  | exact L2.TyX.base (L2.TyOf.int _)
  | exact L2.TyX.base (L2.TyOf.bl _)
  | exact L2.TyX.base (L2.TyOf.str _)
  | exact L2.TyX.base L2.TyOf.non
  | (refine' L2.TyX.base (L2.TyOf.lst ?tyh); (case tyh => walk_at "lk"))
  | (refine' L2.TyX.base (L2.TyOf.tup ?tyh); (case tyh => walk_at "lk"))
  | (refine' L2.TyX.base (L2.TyOf.dK ?tyh); (case tyh => walk_at "lk")))
local macro_rules | `(tactic| walk_at "om2") => `(tactic| first | assumption | decide | omega)
local macro_rules | `(tactic| walk_at "st") => `(tactic| with_reducible first
  | (refine Kf.w_var rfl ?_)
  | (refine Kf.w_c ?_)
  | (refine Kf.w_seq ?_)
  | (refine Kf.w_asg ?_)
  | (refine' Kf.w_gname ?sth ?_; (case sth => with_unfolding_all walk_at "set"))
  | (refine Kf.w_op ?_)
  | (refine Kf.w_un ?_)
  | (refine Kf.w_rU ?_)
  | (refine Kf.w_rI0 ?_)
  | (refine' Kf.w_rI ?sth ?_; (case sth => with_unfolding_all walk_at "side"))
  | (refine' Kf.w_rEq ?sth ?_; (case sth => with_unfolding_all rfl))
  | (refine' Kf.w_rNe ?sth ?_; (case sth => with_unfolding_all rfl))
  | (refine Kf.w_tTest ?_)
  | (refine Kf.w_tB ?_)
  | (refine Kf.w_exbl ?_)
  | (refine Kf.w_exint ?_)
  | (refine Kf.w_ifS ?_)
  | (refine Kf.w_ret ?_)
  | (refine Kf.w_retN ?_)
  | (refine Kf.w_drop ?_)
  | (refine Kf.w_and ?_)
  | (refine Kf.w_or ?_)
  | (refine Kf.w_not ?_)
  | (refine Kf.w_andV ?_)
  | (refine Kf.w_orV ?_)
  | (refine Kf.w_notV ?_)
  | (refine Kf.w_if ?_)
  | (refine Kf.w_lc ?_)
  | (refine Kf.w_for ?_)
  | (refine Kf.w_rng1 ?_)
  | (refine' Kf.w_rng1x ?sth ?stg ?_; (case sth => with_unfolding_all walk_at "om"); (case stg => with_unfolding_all walk_at "om"))
  | (refine Kf.w_ilist ?_)
  | (refine Kf.w_iseq ?_)
  | (refine Kf.w_itup ?_)
  | (refine' Kf.w_ilistx ?sth ?_; (case sth => with_unfolding_all walk_at "sq"))
  | (refine' Kf.w_itupx ?sth ?_; (case sth => with_unfolding_all walk_at "sq"))
  | (refine' Kf.w_wipe ?sth ?_; (case sth => with_unfolding_all rfl))
  | (refine Kf.w_yes ?_)
  | (refine' Kf.w_isi ?sth ?stg ?_; (case sth => with_unfolding_all walk_at "ty"); (case stg => walk_at "kit"))
  | (refine Kf.w_isN ?_)
  | (refine Kf.w_notN ?_)
  | (refine Kf.w_cb ?_)
  | (refine Kf.w_nil ?_)
  | (refine Kf.w_cons ?_)
  | (refine Kf.w_tup ?_)
  | (refine Kf.w_lst ?_)
  | (refine' Kf.w_lines ?sth ?_; (case sth => with_unfolding_all rfl))
  | (refine Kf.w_call ?_)
  | (refine Kf.w_next ?_)
  | (refine Kf.w_break ?_)
  | (refine Kf.w_cont ?_)
  | (refine Kf.w_dnewK ?_)
  | (refine Kf.w_ikeys ?_)
  | (refine Kf.w_dput ?_)
  | (refine Kf.w_dget2 ?_)
  | (refine Kf.w_dget ?_)
  | (refine Kf.w_sl ?_)
  | (refine Kf.w_nopart ?_)
  | (refine Kf.w_part ?_)
  | (refine Kf.w_bm ?_)
  | (refine Kf.w_bm0 ?_)
  | (refine' Kf.w_bmL ?sth ?_; (case sth => with_unfolding_all walk_at "lk"))
  | (refine' Kf.w_cat ?sth ?stg ?stf ?_; (case sth => with_unfolding_all walk_at "lk"); (case stg => with_unfolding_all walk_at "lk"); (case stf => with_unfolding_all walk_at "om"))
  | (refine' Kf.w_slL ?sth ?_; (case sth => with_unfolding_all walk_at "sq"))
  | (refine' Kf.w_inL ?sth ?_; (case sth => with_unfolding_all walk_at "sq"))
  | (refine' Kf.w_inT ?sth ?_; (case sth => with_unfolding_all walk_at "sq"))
  | (refine' Kf.w_ninL ?sth ?_; (case sth => with_unfolding_all walk_at "sq"))
  | (refine' Kf.w_ninT ?sth ?_; (case sth => with_unfolding_all walk_at "sq"))
  | (refine' Kf.w_listof ?sth ?_; (case sth => with_unfolding_all walk_at "sq"))
  | (refine' Kf.w_tupof ?sth ?_; (case sth => with_unfolding_all walk_at "sq"))
  | (refine Kf.w_listRev ?_)
  | (refine Kf.w_gsub ?_)
  | (refine' Kf.w_ixL ?sth ?stg ?_; (case sth => with_unfolding_all walk_at "sq"); (case stg => with_unfolding_all walk_at "at"))
  | (refine' Kf.w_ixT ?sth ?stg ?_; (case sth => with_unfolding_all walk_at "sq"); (case stg => with_unfolding_all walk_at "at"))
  | (refine' Kf.w_setL ?sth ?stg ?_; (case sth => with_unfolding_all walk_at "lk"); (case stg => with_unfolding_all walk_at "ixn"))
  | (refine' Kf.w_len ?sth ?_; (case sth => with_unfolding_all walk_at "sq"))
  | (refine' Kf.w_lenT ?sth ?_; (case sth => with_unfolding_all walk_at "sq"))
  | (refine Kf.w_int1 ?_)
  | (refine Kf.w_intb ?_)
  | (refine Kf.w_abs ?_)
  | (refine Kf.w_aug rfl ?_)
  | (refine Kf.w_par ?_)
  | (refine' Kf.w_gtup ?sth ?stg ?_; (case sth => with_unfolding_all walk_at "sq"); (case stg => with_unfolding_all exact rfl))
  | (refine' Kf.w_glst ?sth ?stg ?_; (case sth => with_unfolding_all walk_at "sq"); (case stg => with_unfolding_all exact rfl))
  | (refine Kf.w_rng2 ?_)
  | (refine Kf.w_rng3 ?_)
  | (refine' Kf.w_rng2x ?sth ?stg ?stf ?ste ?_; (case sth => with_unfolding_all walk_at "om"); (case stg => with_unfolding_all walk_at "om"); (case stf => with_unfolding_all walk_at "om"); (case ste => with_unfolding_all walk_at "om"))
  | (refine Kf.w_gcons ?_)
  | (refine Kf.w_gnil ?_)
  | (refine Kf.w_gcd ?_)
  | (refine Kf.w_bits ?_)
  | (refine Kf.w_two ?_)
  | (refine Kf.w_ipI ?_)
  | (refine L2.iteT ?_)
  | (refine L2.iteF ?_)
  | (refine Kf.iteNT ?_)
  | (refine Kf.iteNF ?_)
  | (refine' Kf.ite_decT ?sth ?_; (case sth => exact rfl))
  | (refine' Kf.ite_decF ?sth ?_; (case sth => with_unfolding_all (intro e; cases e; done)))
  | (refine' Kf.ite_ndecF ?sth ?_; (case sth => exact rfl))
  | (refine' Kf.ite_ndecT ?sth ?_; (case sth => with_unfolding_all (intro e; cases e; done)))
  | (refine' Kf.ite_viT ?sth ?_; (case sth => (with_unfolding_all walk_at "om2")))
  | (refine' Kf.ite_viF ?sth ?_; (case sth => (with_unfolding_all walk_at "om2")))
  | (refine' Kf.ite_nviT ?sth ?_; (case sth => (with_unfolding_all walk_at "om2")))
  | (refine' Kf.ite_nviF ?sth ?_; (case sth => (with_unfolding_all walk_at "om2")))
  | (refine' Kf.ite_decT ?sth ?_; (case sth => (with_unfolding_all walk_at "om2")))
  | (refine' Kf.ite_decF ?sth ?_; (case sth => (with_unfolding_all walk_at "om2")))
  | with_unfolding_all walk_at "calls")
local macro_rules | `(tactic| walk_at "go") => `(tactic| repeat walk_at "st")

namespace Kf
open PySem PySem.Spec PyProof.Rows L2
open R0 (Bd)
open R1 (mg Ok Rows val)
/-! ### dicts of ratios by node -/
def DkL (H : Hp) : List (Key × V) → Rows → Prop
  | [], [] => True
  | kv :: kvs, x :: l => kv.1 = .inl x.1 ∧ Dq H kv.2 (rD x.2) ∧ DkL H kvs l
  | _, _ => False
theorem DkL.ext {H H' : Hp} (e : Ext H H') : ∀ {kvs : List (Key × V)} {l : Rows}, DkL H kvs l → DkL H' kvs l
  | [], [], h => trivial
  | _ :: _, _ :: _, h => ⟨h.1, h.2.1.ext e, DkL.ext e h.2.2⟩
  | [], _ :: _, h => h.elim
  | _ :: _, [], h => h.elim
theorem DkL.keys {H : Hp} : ∀ {kvs : List (Key × V)} {l : Rows}, DkL H kvs l → kvs.map (·.1) = (l.map (·.1)).map Sum.inl
  | [], [], h => rfl
  | _ :: _, _ :: _, h => by rw [List.map_cons, List.map_cons, List.map_cons, h.1, DkL.keys h.2.2]
  | [], _ :: _, h => h.elim
  | _ :: _, [], h => h.elim
theorem DkL.len {H : Hp} {kvs : List (Key × V)} {l : Rows} (h : DkL H kvs l) : kvs.length = l.length := by
  have := congrArg List.length h.keys
  simpa using this
theorem DkL.get {H : Hp} {n : Int} : ∀ {kvs : List (Key × V)} {l : Rows}, DkL H kvs l → (∃ v, valV kvs (.inl n) = some v ∧ n ∈ l.map (·.1) ∧ Dq H v (rD (val l n))) ∨ (valV kvs (.inl n) = none ∧ n ∉ l.map (·.1))
  | [], [], h => .inr ⟨rfl, by simp⟩
  | (k, v) :: kvs, (m, r) :: l, h => by
    obtain ⟨h1, h2, h3⟩ := h
    dsimp only at h1 h2
    subst h1
    by_cases e : m = n
    · subst e
      exact .inl ⟨v, valV_pos rfl, by simp, by rw [R1.val_hd]; exact h2⟩
    · have ne : ¬ (Sum.inl m : Key) = .inl n := fun z => e (Sum.inl.inj z)
      rcases DkL.get (n := n) h3 with ⟨u, q1, q2, q3⟩ | ⟨q1, q2⟩
      · exact .inl ⟨u, by rw [valV_neg ne]; exact q1, by simp [q2], by rw [R1.val_ne e]; exact q3⟩
      · refine .inr ⟨by rw [valV_neg ne]; exact q1, fun z => ?_⟩
        rw [List.map_cons] at z
        rcases List.mem_cons.mp z with y | y
        · exact e y.symm
        · exact q2 y
  | [], _ :: _, h => h.elim
  | _ :: _, [], h => h.elim
theorem DkL.any {H : Hp} {n : Int} : ∀ {kvs : List (Key × V)} {l : Rows}, DkL H kvs l → (kvs.any fun kv => decide (kv.1 = .inl n)) = (l.any fun x => decide (x.1 = n))
  | [], [], h => rfl
  | (k, v) :: kvs, (m, r) :: l, h => by
    obtain ⟨h1, h2, h3⟩ := h
    dsimp only at h1
    subst h1
    rw [List.any_cons, List.any_cons, DkL.any h3]
    congr 1
    exact decide_eq_decide.mpr ⟨fun z => Sum.inl.inj z, fun z => congrArg Sum.inl z⟩
  | [], _ :: _, h => h.elim
  | _ :: _, [], h => h.elim
theorem DkL.mapP {H : Hp} {n : Int} {v : V} {r : Rat} (q : Dq H v (rD r)) : ∀ {kvs : List (Key × V)} {l : Rows}, DkL H kvs l → DkL H (kvs.map fun kv => if kv.1 = .inl n then (kv.1, v) else kv) (l.map fun x => if x.1 = n then (x.1, r) else x)
  | [], [], h => trivial
  | (k, u) :: kvs, (m, s) :: l, h => by
    obtain ⟨h1, h2, h3⟩ := h
    dsimp only at h1
    subst h1
    rw [List.map_cons, List.map_cons]
    by_cases e : m = n
    · subst e
      rw [if_pos rfl, if_pos rfl]
      exact ⟨rfl, q, DkL.mapP q h3⟩
    · rw [if_neg (fun z => e (Sum.inl.inj z)), if_neg e]
      exact ⟨rfl, h2, DkL.mapP q h3⟩
  | [], _ :: _, h => h.elim
  | _ :: _, [], h => h.elim
theorem DkL.snoc {H : Hp} {n : Int} {v : V} {r : Rat} (q : Dq H v (rD r)) : ∀ {kvs : List (Key × V)} {l : Rows}, DkL H kvs l → DkL H (kvs ++ [(.inl n, v)]) (l ++ [(n, r)])
  | [], [], h => ⟨rfl, q, trivial⟩
  | _ :: _, _ :: _, h => ⟨h.1, h.2.1, DkL.snoc q h.2.2⟩
  | [], _ :: _, h => h.elim
  | _ :: _, [], h => h.elim
theorem DkL.put {H : Hp} {n : Int} {v : V} {r : Rat} {kvs : List (Key × V)} {l : Rows} (h : DkL H kvs l) (q : Dq H v (rD r)) : DkL H (putK kvs (.inl n) v) (R1.put l n r) := by
  unfold putK R1.put
  rw [h.any]
  split
  · exact h.mapP q
  · exact h.snoc q
def DkAt (H : Hp) (d : Addr) (l : Rows) : Prop := ∃ kvs, H d = some (.dK kvs) ∧ DkL H kvs l
theorem DkAt.ext {H H' : Hp} {d : Addr} {l : Rows} (h : DkAt H d l) (e : Ext H H') : DkAt H' d l := by
  obtain ⟨kvs, h1, h2⟩ := h
  exact ⟨kvs, e.get h1 (npl rfl), h2.ext e⟩
theorem w_dgetR {H : Hp} {p : V → Prop} {d : Addr} {l : Rows} {n : Int} (hd : DkAt H d l) (hn : n ∈ l.map (·.1)) (q : ∀ v, Dq H v (rD (val l n)) → p v) : ∃ a v, V.ref d = .ref a ∧ DGet H a (.int n) (some v) ∧ p v := by
  obtain ⟨kvs, h1, h2⟩ := hd
  rcases h2.get (n := n) with ⟨v, e1, _, e3⟩ | ⟨_, e⟩
  · exact ⟨d, v, rfl, by rw [← e1]; exact DGet.k (k := .inl n) h1, q v e3⟩
  · exact absurd hn e
abbrev s_form_times : Stmt := topS 12
abbrev N_form_times : List Str := ["a", "f", "node", "factor"]
abbrev P_form_times : List Str := ["a", "f"]
theorem sc_form_times : FnScope N_form_times P_form_times (defScope s_form_times) := ⟨rfl, rfl, rfl, by decide +kernel, rfl, by decide +kernel, by decide +kernel⟩
abbrev s_form_value : Stmt := topS 13
abbrev N_form_value : List Str := ["f", "values", "total", "node", "factor"]
abbrev P_form_value : List Str := ["f", "values"]
theorem sc_form_value : FnScope N_form_value P_form_value (defScope s_form_value) := ⟨rfl, rfl, rfl, by decide +kernel, rfl, by decide +kernel, by decide +kernel⟩
section
variable {P : Program} {w : World} {K : PySem.W.Frag} {mg' : Str → Option Value} {base : Heap} {H : Hp} {Q : VK} {E : XK}
theorem num_zero {a : Rat} (h : a.num = 0) : a = 0 := by
  have := R0.at_div a
  rw [h] at this
  rw [← this]
  have : ((0 : Int) : Rat) = 0 := rfl
  rw [this]; grind
def spFTi (K : PySem.W.Frag) : Sp := fun vs H Q _ => ∃ (x y : V) (a c : Rat) (f : Rows), vs = [x, y] ∧ Dq H x (rD a) ∧ Dq H y (fD c f) ∧ Bd 200 a ∧ FOk c f ∧ ∀ v H', Ext H H' → Dq H' v (fD (a * c) (R1.sc a f)) → Q v H'
theorem ok_fti (D : Df K mg' "form_times" s_form_times P_form_times) (b_tuple : mg' "tuple" = none) (p_times : Pr P w K mg' base "times" 2 P_times (spTwo K (fun a b => a * b))) : Pr P w K mg' base "form_times" 3 P_form_times (spFTi K) := by
  refine D.ok sc_form_times (fun vs H Q E h => ?_) (fun f cdv A outer s H vs Q E hr h => ?_)
  · obtain ⟨x, y, a, c, f, rfl, _⟩ := h; rfl
  obtain ⟨x, y, a, c, F, rfl, hx, hy, ba, okF, q⟩ := h
  obtain ⟨pa, rfl, hpa⟩ := hx.pair
  obtain ⟨pf, cf, tf, fs, rfl, hpf, hcf, htf, hfs⟩ := hy.form
  have fl := hfs.len
  rw [List.length_map] at fl
  have lF := okF.ln
  have nd := sc_form_times.nd
  refine ⟨_, (pss_cons (ps_if (pt_cmpR op_eq (pe_ix (ix_tupK (K := K) rfl) (pv 0) pe_int (fun _ _ => rfl)) pe_int (nomark _)) (pss_one (ps_ret (pe_tup (pa_cons (pe_tup (pa_cons pe_int (pa_cons pe_int pa_nil))) (pa_cons (pe_tup pa_nil) pa_nil))))) pss_nil)
      (pss_one (ps_ret (pe_tup (pa_cons (pe_callP p_times hr (pa_cons (pv 0) (pa_cons (pe_ix (ix_tupK (K := K) rfl) (pv 1) pe_int (fun _ _ => rfl)) pa_nil))) (pa_cons (pe_callTy (call_tuple_ofK (K := K) rfl) (by rfl) b_tuple (by decide +kernel) (pa_cons (pe_lc (own := [("node", 2), ("factor", 3)]) rfl nd (pi_tupK (K := K) rfl (pe_ix (ix_tupK (K := K) rfl) (pv 1) pe_int (fun _ _ => rfl))) (blkOk_by (N := N_form_times) (sc := defScope s_form_times) (by decide +kernel)) (fun _ _ _ _ _ => pg_tupK (K := K) (n := 2) rfl (by rfl) (pgs_cons (pg_name (i := 2) nd rfl (Or.inl rfl)) (pgs_cons (pg_name (i := 3) nd rfl (Or.inl rfl)) pgs_nil))) (fun _ _ _ _ _ => pts_nil) (fun _ _ _ _ _ => (pe_tup (pa_cons (pv 2) (pa_cons (pe_callP p_times hr (pa_cons (pv 0) (pa_cons (pv 3) pa_nil))) pa_nil))))) pa_nil)) pa_nil)))))), ?_⟩
  refine w_start (σ := [some _, some _, none, none]) rfl ?_
  walk_at "go"
  refine ite_vi (fun cz => ?_) (fun cz => ?_)
  · have a0 := num_zero cz
    subst a0
    walk_at "go"
    intro p1 hp1
    walk_at "go"
    intro p2 hp2
    walk_at "go"
    intro p3 hp3
    refine q _ _ (((Ext.new hp1).newer hp2).newer hp3) ?_
    have e1 : (0 : Rat) * c = 0 := by grind
    have e2 : R1.sc 0 F = [] := if_pos rfl
    rw [e1, e2]
    exact .of_form (f := []) L2.upd_same (Dq.of_pair (upd_old hp3 (upd_old hp2 L2.upd_same))) (upd_old hp3 L2.upd_same) .nil
  · have an : a ≠ 0 := fun e => cz (by rw [e]; rfl)
    walk_at "go"
    refine call_two hx hcf ba okF.bc (by decide) (by decide) (by decide) fun v H1 hE1 hv => ?_
    have htf1 := hE1.get htf (npl rfl)
    have hpf1 := hE1.get hpf (npl rfl)
    walk_at "go"
    refine lc_t (R := fun i acc Hd => DqAll Hd acc (((F.map fun x : Int × Rat => ((x.1, a * x.2) : Int × Rat)).take i).map rwD)) (SqT.of htf1) .nil (fun _ _ _ _ e h => h.ext e) ?_ ?_
    · rintro i y acc D2 H2 hy2 hD2 hacc hE hall
      have hil := (List.getElem?_eq_some_iff.mp hy2).1
      obtain ⟨n, r, eF, _⟩ := drop_at (f := F) (i := i) (by omega)
      obtain ⟨p1, rv, ha1, hp1, hq1⟩ := row_el hfs eF
      have ey : y = .ref p1 := by
        have := atI_nat hy2
        rw [ha1] at this
        exact (Option.some.inj this).symm
      subst ey
      have al : acc.length ≤ 1000 := by rw [hall.len, List.length_map, List.length_take, List.length_map]; omega
      have hE2 := hE1.trans hE
      have hp1' := hE2.get hp1 (npl rfl)
      walk_at "go"
      refine call_two (hx.ext hE2) (hq1.ext hE2) ba (okF.br _ (List.mem_of_getElem? eF)) (by decide) (by decide) (by decide) fun u H3 hE3 hu => ?_
      walk_at "go"
      intro p4 hp4
      have npa := hall.npl (sq_rw _)
      refine LcP.put hD2 hacc npa hE (hE3.newer hp4) al ?_
      have hacc3 := hE3.get hacc npa
      rw [List.take_add_one, List.getElem?_map, eF, List.map_append]
      refine ((hall.ext (Ext.del hE3)).ext (Ext.del (Ext.new hp4))).snoc ?_
      obtain ⟨pu, rfl, hpu⟩ := hu.pair
      refine .tup (del_at L2.upd_same fun z => ?_) (.cons (.int _) (.cons (Dq.of_pair (del_at (upd_old hp4 hpu) fun z => ?_)) .nil))
      · subst z
        rw [hacc3] at hp4; cases hp4
      · subst z
        rw [hacc3] at hpu; cases hpu
    · rintro D2 acc H2 hD2 hacc hE hall
      have et : (F.map fun x : Int × Rat => ((x.1, a * x.2) : Int × Rat)).take fs.length = R1.sc a F := by
        unfold R1.sc
        rw [if_neg an, fl, List.take_of_length_le (by rw [List.length_map]; exact Nat.le_refl _)]
      rw [et] at hall
      walk_at "go"
      intro pt hpt
      walk_at "go"
      intro pr hpr
      have e12 : ∀ o, Ext H2 (upd (upd H2 pt (.tup acc)) pr o) := fun o => (Ext.new hpt).newer hpr
      exact q _ _ (((hE1.trans hE).newer hpt).newer hpr) (.of_form L2.upd_same ((hv.ext hE).ext (e12 _)) (upd_old hpr L2.upd_same) (hall.ext (e12 _)))
end
end Kf

end
section
set_option Elab.async false
set_option linter.all false
set_option maxRecDepth 100000
set_option maxHeartbeats 4000000
local macro_rules | `(tactic| walk_at "npl") => `(tactic| first | exact Kf.npl rfl | exact Kf.npl_ints _ | exact Kf.npl_one _ _ | exact Kf.npl_refs _ | assumption)
local macro_rules | `(tactic| walk_at "nn") => `(tactic| first
  | assumption
  | (refine' Kf.Ext.non ?nne ?nnh; (case nne => assumption); (case nnh => walk_at "nn")))
local macro_rules | `(tactic| walk_at "ext") => `(tactic| first
  | assumption
  | exact Kf.Ext.refl
  | (refine' Kf.Ext.newer ?exa ?exn; (case exn => assumption); (case exa => walk_at "ext"))
  | (refine' Kf.Ext.own ?exa ?exn; (case exn => walk_at "nn"); (case exa => walk_at "ext"))
  | (refine' Kf.Ext.trans ?exa ?exb; (case exb => assumption); (case exa => walk_at "ext")))
local macro_rules | `(tactic| walk_at "pool") => `(tactic| first
  | assumption
  | (refine' Kf.PoolAt.ext ?plh ?ple; (case plh => assumption); (case ple => walk_at "ext"))
  | (refine' Kf.PoolAt.upd ?plh ?plo ?pln; (case plo => assumption); (case pln => walk_at "npl"); (case plh => walk_at "pool")))
local macro_rules | `(tactic| walk_at "lk") => `(tactic| first
  | assumption
  | exact L2.upd_same
  | (refine' Kf.upd_old ?lkn ?lkh; (case lkn => assumption); (case lkh => walk_at "lk"))
  | (refine' Kf.upd_oth ?lkn ?lkh; (case lkn => (first | assumption | (apply Ne.symm; assumption))); (case lkh => walk_at "lk"))
  | (refine' Kf.Ext.get ?lke ?lkh ?lkn; (case lke => assumption); (case lkh => walk_at "lk"); (case lkn => walk_at "npl"))
  | (refine' L2.Same.at ?lke ?lkh; (case lke => assumption); (case lkh => walk_at "lk")))
local macro_rules | `(tactic| walk_at "sq") => `(tactic| first
  | assumption
  | (refine' L2.SqL.of ?sqh; (case sqh => walk_at "lk"))
  | (refine' L2.SqT.of ?sqh; (case sqh => walk_at "lk"))
  | (refine' Kf.Ext.seqL ?sqe ?sqh ?sqn; (case sqh => assumption); (case sqe => walk_at "ext"); (case sqn => walk_at "npl"))
  | (refine' Kf.Ext.seqT ?sqe ?sqh; (case sqh => assumption); (case sqe => walk_at "ext")))
local macro_rules | `(tactic| walk_at "at") => `(tactic| first | exact L2.atI_nat (j := 0) rfl | exact L2.atI_nat (j := 1) rfl | exact L2.atI_nat (j := 2) rfl | exact L2.atI_nat (j := 3) rfl | exact L2.atI_nat (j := 4) rfl | assumption)
local macro_rules | `(tactic| walk_at "ixn") => `(tactic| first | exact Kf.ixN_nat (j := 0) rfl | exact Kf.ixN_nat (j := 1) rfl | exact Kf.ixN_nat (j := 2) rfl | exact Kf.ixN_nat (j := 3) rfl | assumption)
local macro_rules | `(tactic| walk_at "set") => `(tactic| (first | (simp only [List.set_cons_succ, List.set_cons_zero]; rfl) | rfl))
local macro_rules | `(tactic| walk_at "om") => `(tactic| first | decide | omega | (simp only [List.length_map, List.length_cons, List.length_nil] at *; omega))
local macro_rules | `(tactic| walk_at "calls") => `(tactic| first
  | (with_reducible refine' Kf.call_take ?clp ?cla ?clb ?clq; (case clp => walk_at "pool"); (case cla => walk_at "om"); (case clb => walk_at "om"); intro r H' hE h0 h1)
  | (with_reducible refine' Kf.call_pool ?cls ?cla ?clq; (case cls => walk_at "sq"); (case cla => walk_at "om"); intro p H' hE hN hP)
  | (with_reducible refine' Kf.call_turn ?cls ?clp ?cla ?clq; (case cls => walk_at "sq"); (case clp => walk_at "pool"); (case cla => walk_at "om"); intro u H' hE hP))
local macro_rules | `(tactic| walk_at "side") => `(tactic| first
  | exact Kf.cmul_fmod (by decide) (by decide)
  | exact rfl
  | decide
  | omega
  | assumption
  | (refine ⟨?_, ?_⟩ <;> decide)
  | (refine ⟨?_, ?_, ?_⟩ <;> decide)
  | (refine ⟨?_, ?_⟩ <;> omega)
  | (refine Or.inl ⟨?_, ?_⟩ <;> decide)
  | (refine Or.inr ⟨?_, ?_⟩ <;> decide)
  | (refine Or.inl ⟨?_, ?_⟩ <;> omega)
  | (refine Or.inr ⟨?_, ?_⟩ <;> omega))
local macro_rules | `(tactic| walk_at "kit") => `(tactic| first | exact Kf.isi_int_int | exact Kf.isi_int_bool | exact Kf.isi_int_str | exact Kf.isi_int_list | exact Kf.isi_int_tuple | exact Kf.isi_bool_int | exact Kf.isi_bool_bool | exact Kf.isi_bool_str | exact Kf.isi_bool_list | exact Kf.isi_bool_tuple | exact Kf.isi_str_int | exact Kf.isi_str_bool | exact Kf.isi_str_str | exact Kf.isi_str_list | exact Kf.isi_str_tuple | exact Kf.isi_non_list | exact Kf.isi_non_tuple | exact Kf.isi_list_list | exact Kf.isi_list_tuple | exact Kf.isi_tuple_list | exact Kf.isi_tuple_tuple | exact Kf.isi_dict_dict)
local macro_rules | `(tactic| walk_at "ty") => `(tactic| first
  | exact L2.TyX.base (L2.TyOf.int _)
  | exact L2.TyX.base (L2.TyOf.bl _)
  | exact L2.TyX.base (L2.TyOf.str _)
  | exact L2.TyX.base L2.TyOf.non
  | (refine' L2.TyX.base (L2.TyOf.lst ?tyh); (case tyh => walk_at "lk"))
  | (refine' L2.TyX.base (L2.TyOf.tup ?tyh); (case tyh => walk_at "lk"))
  | (refine' L2.TyX.base (L2.TyOf.dK ?tyh); (case tyh => walk_at "lk")))
local macro_rules | `(tactic| walk_at "om2") => `(tactic| first | assumption | decide | omega)
local macro_rules | `(tactic| walk_at "st") => `(tactic| with_reducible first
  | (refine Kf.w_var rfl ?_)
  | (refine Kf.w_c ?_)
  | (refine Kf.w_seq ?_)
  | (refine Kf.w_asg ?_)
  | (refine' Kf.w_gname ?sth ?_; (case sth => with_unfolding_all walk_at "set"))
  | (refine Kf.w_op ?_)
  | (refine Kf.w_un ?_)
  | (refine Kf.w_rU ?_)
  | (refine Kf.w_rI0 ?_)
  | (refine' Kf.w_rI ?sth ?_; (case sth => with_unfolding_all walk_at "side"))
  | (refine' Kf.w_rEq ?sth ?_; (case sth => with_unfolding_all rfl))
  | (refine' Kf.w_rNe ?sth ?_; (case sth => with_unfolding_all rfl))
  | (refine Kf.w_tTest ?_)
  | (refine Kf.w_tB ?_)
  | (refine Kf.w_exbl ?_)
  | (refine Kf.w_exint ?_)
  | (refine Kf.w_ifS ?_)
  | (refine Kf.w_ret ?_)
  | (refine Kf.w_retN ?_)
  | (refine Kf.w_drop ?_)
  | (refine Kf.w_and ?_)
  | (refine Kf.w_or ?_)
  | (refine Kf.w_not ?_)
  | (refine Kf.w_andV ?_)
  | (refine Kf.w_orV ?_)
  | (refine Kf.w_notV ?_)
  | (refine Kf.w_if ?_)
  | (refine Kf.w_lc ?_)
  | (refine Kf.w_for ?_)
  | (refine Kf.w_rng1 ?_)
  | (refine' Kf.w_rng1x ?sth ?stg ?_; (case sth => with_unfolding_all walk_at "om"); (case stg => with_unfolding_all walk_at "om"))
  | (refine Kf.w_ilist ?_)
  | (refine Kf.w_iseq ?_)
  | (refine Kf.w_itup ?_)
  | (refine' Kf.w_ilistx ?sth ?_; (case sth => with_unfolding_all walk_at "sq"))
  | (refine' Kf.w_itupx ?sth ?_; (case sth => with_unfolding_all walk_at "sq"))
  | (refine' Kf.w_wipe ?sth ?_; (case sth => with_unfolding_all rfl))
  | (refine Kf.w_yes ?_)
  | (refine' Kf.w_isi ?sth ?stg ?_; (case sth => with_unfolding_all walk_at "ty"); (case stg => walk_at "kit"))
  | (refine Kf.w_isN ?_)
  | (refine Kf.w_notN ?_)
  | (refine Kf.w_cb ?_)
  | (refine Kf.w_nil ?_)
  | (refine Kf.w_cons ?_)
  | (refine Kf.w_tup ?_)
  | (refine Kf.w_lst ?_)
  | (refine' Kf.w_lines ?sth ?_; (case sth => with_unfolding_all rfl))
  | (refine Kf.w_call ?_)
  | (refine Kf.w_next ?_)
  | (refine Kf.w_break ?_)
  | (refine Kf.w_cont ?_)
  | (refine Kf.w_dnewK ?_)
  | (refine Kf.w_ikeys ?_)
  | (refine Kf.w_dput ?_)
  | (refine Kf.w_dget2 ?_)
  | (refine Kf.w_dget ?_)
  | (refine Kf.w_sl ?_)
  | (refine Kf.w_nopart ?_)
  | (refine Kf.w_part ?_)
  | (refine Kf.w_bm ?_)
  | (refine Kf.w_bm0 ?_)
  | (refine' Kf.w_bmL ?sth ?_; (case sth => with_unfolding_all walk_at "lk"))
  | (refine' Kf.w_cat ?sth ?stg ?stf ?_; (case sth => with_unfolding_all walk_at "lk"); (case stg => with_unfolding_all walk_at "lk"); (case stf => with_unfolding_all walk_at "om"))
  | (refine' Kf.w_slL ?sth ?_; (case sth => with_unfolding_all walk_at "sq"))
  | (refine' Kf.w_inL ?sth ?_; (case sth => with_unfolding_all walk_at "sq"))
  | (refine' Kf.w_inT ?sth ?_; (case sth => with_unfolding_all walk_at "sq"))
  | (refine' Kf.w_ninL ?sth ?_; (case sth => with_unfolding_all walk_at "sq"))
  | (refine' Kf.w_ninT ?sth ?_; (case sth => with_unfolding_all walk_at "sq"))
  | (refine' Kf.w_listof ?sth ?_; (case sth => with_unfolding_all walk_at "sq"))
  | (refine' Kf.w_tupof ?sth ?_; (case sth => with_unfolding_all walk_at "sq"))
  | (refine Kf.w_listRev ?_)
  | (refine Kf.w_gsub ?_)
  | (refine' Kf.w_ixL ?sth ?stg ?_; (case sth => with_unfolding_all walk_at "sq"); (case stg => with_unfolding_all walk_at "at"))
  | (refine' Kf.w_ixT ?sth ?stg ?_; (case sth => with_unfolding_all walk_at "sq"); (case stg => with_unfolding_all walk_at "at"))
  | (refine' Kf.w_setL ?sth ?stg ?_; (case sth => with_unfolding_all walk_at "lk"); (case stg => with_unfolding_all walk_at "ixn"))
  | (refine' Kf.w_len ?sth ?_; (case sth => with_unfolding_all walk_at "sq"))
  | (refine' Kf.w_lenT ?sth ?_; (case sth => with_unfolding_all walk_at "sq"))
  | (refine Kf.w_int1 ?_)
  | (refine Kf.w_intb ?_)
  | (refine Kf.w_abs ?_)
  | (refine Kf.w_aug rfl ?_)
  | (refine Kf.w_par ?_)
  | (refine' Kf.w_gtup ?sth ?stg ?_; (case sth => with_unfolding_all walk_at "sq"); (case stg => with_unfolding_all exact rfl))
  | (refine' Kf.w_glst ?sth ?stg ?_; (case sth => with_unfolding_all walk_at "sq"); (case stg => with_unfolding_all exact rfl))
  | (refine Kf.w_rng2 ?_)
  | (refine Kf.w_rng3 ?_)
  | (refine' Kf.w_rng2x ?sth ?stg ?stf ?ste ?_; (case sth => with_unfolding_all walk_at "om"); (case stg => with_unfolding_all walk_at "om"); (case stf => with_unfolding_all walk_at "om"); (case ste => with_unfolding_all walk_at "om"))
  | (refine Kf.w_gcons ?_)
  | (refine Kf.w_gnil ?_)
  | (refine Kf.w_gcd ?_)
  | (refine Kf.w_bits ?_)
  | (refine Kf.w_two ?_)
  | (refine Kf.w_ipI ?_)
  | (refine L2.iteT ?_)
  | (refine L2.iteF ?_)
  | (refine Kf.iteNT ?_)
  | (refine Kf.iteNF ?_)
  | (refine' Kf.ite_decT ?sth ?_; (case sth => exact rfl))
  | (refine' Kf.ite_decF ?sth ?_; (case sth => with_unfolding_all (intro e; cases e; done)))
  | (refine' Kf.ite_ndecF ?sth ?_; (case sth => exact rfl))
  | (refine' Kf.ite_ndecT ?sth ?_; (case sth => with_unfolding_all (intro e; cases e; done)))
  | (refine' Kf.ite_viT ?sth ?_; (case sth => (with_unfolding_all walk_at "om2")))
  | (refine' Kf.ite_viF ?sth ?_; (case sth => (with_unfolding_all walk_at "om2")))
  | (refine' Kf.ite_nviT ?sth ?_; (case sth => (with_unfolding_all walk_at "om2")))
  | (refine' Kf.ite_nviF ?sth ?_; (case sth => (with_unfolding_all walk_at "om2")))
  | (refine' Kf.ite_decT ?sth ?_; (case sth => (with_unfolding_all walk_at "om2")))
  | (refine' Kf.ite_decF ?sth ?_; (case sth => (with_unfolding_all walk_at "om2")))
  | with_unfolding_all walk_at "calls")
local macro_rules | `(tactic| walk_at "go") => `(tactic| repeat walk_at "st")

namespace Kf
open PySem PySem.Spec PyProof.Rows L2
open R0 (Bd)
open R1 (mg Ok Rows val)
abbrev s__law_add : Stmt := topS 26
abbrev N__law_add : List Str := ["a", "b"]
abbrev P__law_add : List Str := ["a", "b"]
theorem sc__law_add : FnScope N__law_add P__law_add (defScope s__law_add) := ⟨rfl, rfl, rfl, by decide +kernel, rfl, by decide +kernel, by decide +kernel⟩
abbrev s__law_long : Stmt := topS 22
abbrev N__law_long : List Str := ["pool", "pieces", "total", "k"]
abbrev P__law_long : List Str := ["pool", "pieces"]
theorem sc__law_long : FnScope N__law_long P__law_long (defScope s__law_long) := ⟨rfl, rfl, rfl, by decide +kernel, rfl, by decide +kernel, by decide +kernel⟩
section
variable {P : Program} {w : World} {K : PySem.W.Frag} {mg' : Str → Option Value} {base : Heap} {H : Hp} {Q : VK} {E : XK}
theorem ok_add (D : Df K mg' "_law_add" s__law_add P__law_add) (p__law_lowest : Pr P w K mg' base "_law_lowest" 1 P__law_lowest (spLow K)) : Pr P w K mg' base "_law_add" 2 P__law_add (spTwo K (fun a b => a + b)) := by
  refine D.ok sc__law_add (fun vs H Q E h => ?_) (fun f cdv A outer s H vs Q E hr h => ?_)
  · obtain ⟨x, y, a, b, n, m, rfl, _⟩ := h; rfl
  obtain ⟨x, y, a, b, n, m, rfl, hx, hy, ba, bb, n0, m0, nm, k⟩ := h
  obtain ⟨ax, rfl, hx⟩ := hx.pair
  obtain ⟨ay, rfl, hy⟩ := hy.pair
  have nd := sc__law_add.nd
  refine ⟨_, (pss_one (ps_ret (pe_callP p__law_lowest hr (pa_cons (pe_op op_add (pe_op op_mulW (pe_ix (ix_tupK (K := K) rfl) (pv 0) pe_int (fun _ _ => rfl)) (pe_ix (ix_tupK (K := K) rfl) (pv 1) pe_int (fun _ _ => rfl))) (pe_op op_mulW (pe_ix (ix_tupK (K := K) rfl) (pv 1) pe_int (fun _ _ => rfl)) (pe_ix (ix_tupK (K := K) rfl) (pv 0) pe_int (fun _ _ => rfl)))) (pa_cons (pe_op op_mulW (pe_ix (ix_tupK (K := K) rfl) (pv 0) pe_int (fun _ _ => rfl)) (pe_ix (ix_tupK (K := K) rfl) (pv 1) pe_int (fun _ _ => rfl))) pa_nil))))), ?_⟩
  refine w_start (σ := [some _, some _]) rfl ?_
  walk_at "go"
  refine w_wmul (Bd.n ba) (Bd.d bb) (by omega) (by omega) (by omega) ?_
  walk_at "go"
  refine w_wmul (Bd.n bb) (Bd.d ba) (by omega) (by omega) (by omega) ?_
  walk_at "go"
  refine w_wmul (Bd.d ba) (Bd.d bb) (by omega) (by omega) (by omega) ?_
  walk_at "go"
  have pa : (0 : Int) < (a.den : Int) := by have := a.den_nz; omega
  have pb : (0 : Int) < (b.den : Int) := by have := b.den_nz; omega
  refine call_low (Int.mul_pos pa pb) (mul_bits (Bd.d ba) (Bd.d bb) (by omega)) fun v H' hE hv => ?_
  rw [R0.add_div] at hv
  exact k v H' hE hv
def spLong (K : PySem.W.Frag) : Sp := fun vs H Q _ => ∃ (v : V) (n : Nat), vs = [v, .int (n : Int)] ∧ PoolAt H v ∧ n ≤ 50 ∧ ∀ r H', Ext H H' → 0 ≤ r → r < 2 ^ (20 * n) → Q (.int r) H'
theorem ok_long (D : Df K mg' "_law_long" s__law_long P__law_long) (b_range : mg' "range" = none) (p__law_take : Pr P w K mg' base "_law_take" 1 P__law_take (spTake K)) : Pr P w K mg' base "_law_long" 2 P__law_long (spLong K) := by
  refine D.ok sc__law_long (fun vs H Q E h => ?_) (fun f cdv A outer s H vs Q E hr h => ?_)
  · obtain ⟨v, n, rfl, _⟩ := h; rfl
  obtain ⟨v, n, rfl, hP, hn, q⟩ := h
  have nd := sc__law_long.nd
  refine ⟨_, (pss_cons (ps_set (i := 2) nd rfl (Or.inl rfl) pe_int)
      (pss_cons (ps_for PassesOwn.never rfl (pi_range1 (by rfl) b_range (pa_cons (pv 1) pa_nil)) (pg_name (i := 3) nd rfl (Or.inl rfl)) (pss_one (ps_set (i := 2) nd rfl (Or.inl rfl) (pe_op op_add (pe_op op_mul (pv 2) pe_int) (pe_callP p__law_take hr (pa_cons (pv 0) (pa_cons pe_int pa_nil)))))))
      (pss_one (ps_ret (pv 2))))), ?_⟩
  refine w_start (σ := [some _, some _, none, none]) rfl ?_
  walk_at "go"
  refine for_range (fun i σ H' => ∃ (r : Int) (y : Option V), σ = [some v, some (.int (n : Int)), some (.int r), y] ∧ Ext H H' ∧ 0 ≤ r ∧ r < 2 ^ (20 * i)) ⟨0, _, rfl, Ext.refl, by decide, by decide⟩ ?_ ?_
  · rintro i σ H1 hi ⟨r, y, rfl, hE, r0, r1⟩
    have hP1 := hP.ext hE
    walk_at "go"
    rename_i t H2 hE2 t0 t1
    have e : (2 : Int) ^ (20 * (i + 1)) = 2 ^ (20 * i) * 1048576 := by rw [Nat.mul_add, Int.pow_add]; rfl
    exact ⟨_, _, rfl, hE.trans hE2, by omega, by rw [e]; omega⟩
  · rintro σ H1 ⟨r, y, rfl, hE, r0, r1⟩
    rw [Int.toNat_natCast] at r1
    walk_at "go"
    exact q r H1 hE r0 r1
def spFVa (K : PySem.W.Frag) : Sp := fun vs H Q _ => ∃ (x : V) (d : Addr) (c : Rat) (f l : Rows), vs = [x, .ref d] ∧ Dq H x (fD c f) ∧ DkAt H d l ∧ FOk c f ∧ f.length ≤ 20 ∧ (∀ x ∈ f, x.1 ∈ l.map (·.1) ∧ Bd 80 (val l x.1)) ∧
  ∀ v H', Ext H H' → Dq H' v (rD (R1.ev (val l) c f)) → Bd (200 + 300 * f.length) (R1.ev (val l) c f) → Q v H'
theorem ok_fva (D : Df K mg' "form_value" s_form_value P_form_value) (p_plus : Pr P w K mg' base "plus" 2 P_plus (spTwo K (fun a b => a + b))) (p_times : Pr P w K mg' base "times" 2 P_times (spTwo K (fun a b => a * b))) : Pr P w K mg' base "form_value" 3 P_form_value (spFVa K) := by
  refine D.ok sc_form_value (fun vs H Q E h => ?_) (fun f cdv A outer s H vs Q E hr h => ?_)
  · obtain ⟨x, d, c, f, l, rfl, _⟩ := h; rfl
  obtain ⟨x, d, c, F, l, rfl, hx, hd, okF, hl, hF, q⟩ := h
  obtain ⟨pf, cf, tf, fs, rfl, hpf, hcf, htf, hfs⟩ := hx.form
  have fl := hfs.len
  rw [List.length_map] at fl
  have nd := sc_form_value.nd
  have hu := hu_of hr
  refine ⟨_, (pss_cons (ps_set (i := 2) nd rfl (Or.inl rfl) (pe_ix (ix_tupK (K := K) rfl) (pv 0) pe_int (fun _ _ => rfl)))
      (pss_cons (ps_for PassesOwn.never rfl (pi_tupK (K := K) rfl (pe_ix (ix_tupK (K := K) rfl) (pv 0) pe_int (fun _ _ => rfl))) (pg_tup (by rfl) (pgs_cons (pg_name (i := 3) nd rfl (Or.inl rfl)) (pgs_cons (pg_name (i := 4) nd rfl (Or.inl rfl)) pgs_nil))) (pss_one (ps_set (i := 2) nd rfl (Or.inl rfl) (pe_callP p_plus hr (pa_cons (pv 2) (pa_cons (pe_callP p_times hr (pa_cons (pv 4) (pa_cons (pe_dget hu (pv 1) (pv 3) (fun _ _ => rfl)) pa_nil))) pa_nil))))))
      (pss_one (ps_ret (pv 2))))), ?_⟩
  refine w_start (σ := [some _, some _, none, none, none]) rfl ?_
  walk_at "go"
  refine for_tup (K := K) (a := tf) (xs := fs) (fun i σ H' => ∃ (t : V) (y z : Option V), σ = [some (.ref pf), some (.ref d), some t, y, z] ∧ Ext H H' ∧ Dq H' t (rD (R1.ev (val l) c (F.take i))) ∧ Bd (200 + 300 * i) (R1.ev (val l) c (F.take i)))
    ⟨cf, _, _, rfl, Ext.refl, hcf, okF.bc⟩ (fun i σ H' _ ⟨_, _, _, _, e, _⟩ => SqT.of (e.get htf (npl rfl))) ?_ ?_
  · rintro i y σ H1 hy ⟨t, y1, y2, rfl, hE, ht, bt⟩
    have hil := (List.getElem?_eq_some_iff.mp hy).1
    obtain ⟨n, r, eF, _⟩ := drop_at (f := F) (i := i) (by omega)
    obtain ⟨p1, rv, ha1, hp1, hq1⟩ := row_el hfs eF
    have ey : y = .ref p1 := by
      have := atI_nat hy
      rw [ha1] at this
      exact (Option.some.inj this).symm
    subst ey
    have hp1' := hE.get hp1 (npl rfl)
    obtain ⟨hn, hb⟩ := hF _ (List.mem_of_getElem? eF)
    have br := okF.br _ (List.mem_of_getElem? eF)
    dsimp only at hn hb br
    walk_at "go"
    refine w_dgetR (hd.ext hE) hn fun v hv => ?_
    walk_at "go"
    refine call_two (hq1.ext hE) hv br hb (by decide) (by decide) (by decide) fun u H2 hE2 hu2 => ?_
    walk_at "go"
    have bm : Bd 280 (r * val l n) := Bd.mul br hb
    refine call_two (ht.ext hE2) hu2 bt bm (by omega) (by decide) (by omega) fun t' H3 hE3 ht' => ?_
    walk_at "go"
    have es : F.take (i + 1) = F.take i ++ [(n, r)] := by rw [List.take_add_one, eF]; rfl
    refine ⟨t', _, _, rfl, (hE.trans hE2).trans hE3, ?_, ?_⟩
    · rw [es, R1.ev_snoc]; exact ht'
    · rw [es, R1.ev_snoc]
      exact Bd.up (Bd.add bt bm) (by omega)
  · rintro σ H1 ⟨t, y1, y2, rfl, hE, ht, bt⟩
    rw [fl, List.take_length] at ht bt
    walk_at "go"
    exact q t H1 hE ht bt
end
end Kf

end
section
set_option Elab.async false
set_option linter.all false
set_option maxRecDepth 100000
set_option maxHeartbeats 4000000
local macro_rules | `(tactic| walk_at "npl") => `(tactic| first | exact Kf.npl rfl | exact Kf.npl_ints _ | exact Kf.npl_one _ _ | exact Kf.npl_refs _ | assumption)
local macro_rules | `(tactic| walk_at "nn") => `(tactic| first
  | assumption
  | (refine' Kf.Ext.non ?nne ?nnh; (case nne => assumption); (case nnh => walk_at "nn")))
local macro_rules | `(tactic| walk_at "ext") => `(tactic| first
  | assumption
  | exact Kf.Ext.refl
  | (refine' Kf.Ext.newer ?exa ?exn; (case exn => assumption); (case exa => walk_at "ext"))
  | (refine' Kf.Ext.own ?exa ?exn; (case exn => walk_at "nn"); (case exa => walk_at "ext"))
  | (refine' Kf.Ext.trans ?exa ?exb; (case exb => assumption); (case exa => walk_at "ext")))
local macro_rules | `(tactic| walk_at "pool") => `(tactic| first
  | assumption
  | (refine' Kf.PoolAt.ext ?plh ?ple; (case plh => assumption); (case ple => walk_at "ext"))
  | (refine' Kf.PoolAt.upd ?plh ?plo ?pln; (case plo => assumption); (case pln => walk_at "npl"); (case plh => walk_at "pool")))
local macro_rules | `(tactic| walk_at "lk") => `(tactic| first
  | assumption
  | exact L2.upd_same
  | (refine' Kf.upd_old ?lkn ?lkh; (case lkn => assumption); (case lkh => walk_at "lk"))
  | (refine' Kf.upd_oth ?lkn ?lkh; (case lkn => (first | assumption | (apply Ne.symm; assumption))); (case lkh => walk_at "lk"))
  | (refine' Kf.Ext.get ?lke ?lkh ?lkn; (case lke => assumption); (case lkh => walk_at "lk"); (case lkn => walk_at "npl"))
  | (refine' L2.Same.at ?lke ?lkh; (case lke => assumption); (case lkh => walk_at "lk")))
local macro_rules | `(tactic| walk_at "sq") => `(tactic| first
  | assumption
  | (refine' L2.SqL.of ?sqh; (case sqh => walk_at "lk"))
  | (refine' L2.SqT.of ?sqh; (case sqh => walk_at "lk"))
  | (refine' Kf.Ext.seqL ?sqe ?sqh ?sqn; (case sqh => assumption); (case sqe => walk_at "ext"); (case sqn => walk_at "npl"))
  | (refine' Kf.Ext.seqT ?sqe ?sqh; (case sqh => assumption); (case sqe => walk_at "ext")))
local macro_rules | `(tactic| walk_at "at") => `(tactic| first | exact L2.atI_nat (j := 0) rfl | exact L2.atI_nat (j := 1) rfl | exact L2.atI_nat (j := 2) rfl | exact L2.atI_nat (j := 3) rfl | exact L2.atI_nat (j := 4) rfl | assumption)
local macro_rules | `(tactic| walk_at "ixn") => `(tactic| first | exact Kf.ixN_nat (j := 0) rfl | exact Kf.ixN_nat (j := 1) rfl | exact Kf.ixN_nat (j := 2) rfl | exact Kf.ixN_nat (j := 3) rfl | assumption)
local macro_rules | `(tactic| walk_at "set") => `(tactic| (first | (simp only [List.set_cons_succ, List.set_cons_zero]; rfl) | rfl))
local macro_rules | `(tactic| walk_at "om") => `(tactic| first | decide | omega | (simp only [List.length_map, List.length_cons, List.length_nil] at *; omega))
local macro_rules | `(tactic| walk_at "calls") => `(tactic| first
  | (with_reducible refine' Kf.call_take ?clp ?cla ?clb ?clq; (case clp => walk_at "pool"); (case cla => walk_at "om"); (case clb => walk_at "om"); intro r H' hE h0 h1)
  | (with_reducible refine' Kf.call_pool ?cls ?cla ?clq; (case cls => walk_at "sq"); (case cla => walk_at "om"); intro p H' hE hN hP)
  | (with_reducible refine' Kf.call_turn ?cls ?clp ?cla ?clq; (case cls => walk_at "sq"); (case clp => walk_at "pool"); (case cla => walk_at "om"); intro u H' hE hP))
local macro_rules | `(tactic| walk_at "side") => `(tactic| first
  | exact Kf.cmul_fmod (by decide) (by decide)
  | exact rfl
  | decide
  | omega
  | assumption
  | (refine ⟨?_, ?_⟩ <;> decide)
  | (refine ⟨?_, ?_, ?_⟩ <;> decide)
  | (refine ⟨?_, ?_⟩ <;> omega)
  | (refine Or.inl ⟨?_, ?_⟩ <;> decide)
  | (refine Or.inr ⟨?_, ?_⟩ <;> decide)
  | (refine Or.inl ⟨?_, ?_⟩ <;> omega)
  | (refine Or.inr ⟨?_, ?_⟩ <;> omega))
local macro_rules | `(tactic| walk_at "kit") => `(tactic| first | exact Kf.isi_int_int | exact Kf.isi_int_bool | exact Kf.isi_int_str | exact Kf.isi_int_list | exact Kf.isi_int_tuple | exact Kf.isi_bool_int | exact Kf.isi_bool_bool | exact Kf.isi_bool_str | exact Kf.isi_bool_list | exact Kf.isi_bool_tuple | exact Kf.isi_str_int | exact Kf.isi_str_bool | exact Kf.isi_str_str | exact Kf.isi_str_list | exact Kf.isi_str_tuple | exact Kf.isi_non_list | exact Kf.isi_non_tuple | exact Kf.isi_list_list | exact Kf.isi_list_tuple | exact Kf.isi_tuple_list | exact Kf.isi_tuple_tuple | exact Kf.isi_dict_dict)
local macro_rules | `(tactic| walk_at "ty") => `(tactic| first
  | exact L2.TyX.base (L2.TyOf.int _)
  | exact L2.TyX.base (L2.TyOf.bl _)
  | exact L2.TyX.base (L2.TyOf.str _)
  | exact L2.TyX.base L2.TyOf.non
  | (refine' L2.TyX.base (L2.TyOf.lst ?tyh); (case tyh => walk_at "lk"))
  | (refine' L2.TyX.base (L2.TyOf.tup ?tyh); (case tyh => walk_at "lk"))
  | (refine' L2.TyX.base (L2.TyOf.dK ?tyh); (case tyh => walk_at "lk")))
local macro_rules | `(tactic| walk_at "om2") => `(tactic| first | assumption | decide | omega)
local macro_rules | `(tactic| walk_at "st") => `(tactic| with_reducible first
  | (refine Kf.w_var rfl ?_)
  | (refine Kf.w_c ?_)
  | (refine Kf.w_seq ?_)
  | (refine Kf.w_asg ?_)
  | (refine' Kf.w_gname ?sth ?_; (case sth => with_unfolding_all walk_at "set"))
  | (refine Kf.w_op ?_)
  | (refine Kf.w_un ?_)
  | (refine Kf.w_rU ?_)
  | (refine Kf.w_rI0 ?_)
  | (refine' Kf.w_rI ?sth ?_; (case sth => with_unfolding_all walk_at "side"))
  | (refine' Kf.w_rEq ?sth ?_; (case sth => with_unfolding_all rfl))
  | (refine' Kf.w_rNe ?sth ?_; (case sth => with_unfolding_all rfl))
  | (refine Kf.w_tTest ?_)
  | (refine Kf.w_tB ?_)
  | (refine Kf.w_exbl ?_)
  | (refine Kf.w_exint ?_)
  | (refine Kf.w_ifS ?_)
  | (refine Kf.w_ret ?_)
  | (refine Kf.w_retN ?_)
  | (refine Kf.w_drop ?_)
  | (refine Kf.w_and ?_)
  | (refine Kf.w_or ?_)
  | (refine Kf.w_not ?_)
  | (refine Kf.w_andV ?_)
  | (refine Kf.w_orV ?_)
  | (refine Kf.w_notV ?_)
  | (refine Kf.w_if ?_)
  | (refine Kf.w_lc ?_)
  | (refine Kf.w_for ?_)
  | (refine Kf.w_rng1 ?_)
  | (refine' Kf.w_rng1x ?sth ?stg ?_; (case sth => with_unfolding_all walk_at "om"); (case stg => with_unfolding_all walk_at "om"))
  | (refine Kf.w_ilist ?_)
  | (refine Kf.w_iseq ?_)
  | (refine Kf.w_itup ?_)
  | (refine' Kf.w_ilistx ?sth ?_; (case sth => with_unfolding_all walk_at "sq"))
  | (refine' Kf.w_itupx ?sth ?_; (case sth => with_unfolding_all walk_at "sq"))
  | (refine' Kf.w_wipe ?sth ?_; (case sth => with_unfolding_all rfl))
  | (refine Kf.w_yes ?_)
  | (refine' Kf.w_isi ?sth ?stg ?_; (case sth => with_unfolding_all walk_at "ty"); (case stg => walk_at "kit"))
  | (refine Kf.w_isN ?_)
  | (refine Kf.w_notN ?_)
  | (refine Kf.w_cb ?_)
  | (refine Kf.w_nil ?_)
  | (refine Kf.w_cons ?_)
  | (refine Kf.w_tup ?_)
  | (refine Kf.w_lst ?_)
  | (refine' Kf.w_lines ?sth ?_; (case sth => with_unfolding_all rfl))
  | (refine Kf.w_call ?_)
  | (refine Kf.w_next ?_)
  | (refine Kf.w_break ?_)
  | (refine Kf.w_cont ?_)
  | (refine Kf.w_dnewK ?_)
  | (refine Kf.w_ikeys ?_)
  | (refine Kf.w_dput ?_)
  | (refine Kf.w_dget2 ?_)
  | (refine Kf.w_dget ?_)
  | (refine Kf.w_sl ?_)
  | (refine Kf.w_nopart ?_)
  | (refine Kf.w_part ?_)
  | (refine Kf.w_bm ?_)
  | (refine Kf.w_bm0 ?_)
  | (refine' Kf.w_bmL ?sth ?_; (case sth => with_unfolding_all walk_at "lk"))
  | (refine' Kf.w_cat ?sth ?stg ?stf ?_; (case sth => with_unfolding_all walk_at "lk"); (case stg => with_unfolding_all walk_at "lk"); (case stf => with_unfolding_all walk_at "om"))
  | (refine' Kf.w_slL ?sth ?_; (case sth => with_unfolding_all walk_at "sq"))
  | (refine' Kf.w_inL ?sth ?_; (case sth => with_unfolding_all walk_at "sq"))
  | (refine' Kf.w_inT ?sth ?_; (case sth => with_unfolding_all walk_at "sq"))
  | (refine' Kf.w_ninL ?sth ?_; (case sth => with_unfolding_all walk_at "sq"))
  | (refine' Kf.w_ninT ?sth ?_; (case sth => with_unfolding_all walk_at "sq"))
  | (refine' Kf.w_listof ?sth ?_; (case sth => with_unfolding_all walk_at "sq"))
  | (refine' Kf.w_tupof ?sth ?_; (case sth => with_unfolding_all walk_at "sq"))
  | (refine Kf.w_listRev ?_)
  | (refine Kf.w_gsub ?_)
  | (refine' Kf.w_ixL ?sth ?stg ?_; (case sth => with_unfolding_all walk_at "sq"); (case stg => with_unfolding_all walk_at "at"))
  | (refine' Kf.w_ixT ?sth ?stg ?_; (case sth => with_unfolding_all walk_at "sq"); (case stg => with_unfolding_all walk_at "at"))
  | (refine' Kf.w_setL ?sth ?stg ?_; (case sth => with_unfolding_all walk_at "lk"); (case stg => with_unfolding_all walk_at "ixn"))
  | (refine' Kf.w_len ?sth ?_; (case sth => with_unfolding_all walk_at "sq"))
  | (refine' Kf.w_lenT ?sth ?_; (case sth => with_unfolding_all walk_at "sq"))
  | (refine Kf.w_int1 ?_)
  | (refine Kf.w_intb ?_)
  | (refine Kf.w_abs ?_)
  | (refine Kf.w_aug rfl ?_)
  | (refine Kf.w_par ?_)
  | (refine' Kf.w_gtup ?sth ?stg ?_; (case sth => with_unfolding_all walk_at "sq"); (case stg => with_unfolding_all exact rfl))
  | (refine' Kf.w_glst ?sth ?stg ?_; (case sth => with_unfolding_all walk_at "sq"); (case stg => with_unfolding_all exact rfl))
  | (refine Kf.w_rng2 ?_)
  | (refine Kf.w_rng3 ?_)
  | (refine' Kf.w_rng2x ?sth ?stg ?stf ?ste ?_; (case sth => with_unfolding_all walk_at "om"); (case stg => with_unfolding_all walk_at "om"); (case stf => with_unfolding_all walk_at "om"); (case ste => with_unfolding_all walk_at "om"))
  | (refine Kf.w_gcons ?_)
  | (refine Kf.w_gnil ?_)
  | (refine Kf.w_gcd ?_)
  | (refine Kf.w_bits ?_)
  | (refine Kf.w_two ?_)
  | (refine Kf.w_ipI ?_)
  | (refine L2.iteT ?_)
  | (refine L2.iteF ?_)
  | (refine Kf.iteNT ?_)
  | (refine Kf.iteNF ?_)
  | (refine' Kf.ite_decT ?sth ?_; (case sth => exact rfl))
  | (refine' Kf.ite_decF ?sth ?_; (case sth => with_unfolding_all (intro e; cases e; done)))
  | (refine' Kf.ite_ndecF ?sth ?_; (case sth => exact rfl))
  | (refine' Kf.ite_ndecT ?sth ?_; (case sth => with_unfolding_all (intro e; cases e; done)))
  | (refine' Kf.ite_viT ?sth ?_; (case sth => (with_unfolding_all walk_at "om2")))
  | (refine' Kf.ite_viF ?sth ?_; (case sth => (with_unfolding_all walk_at "om2")))
  | (refine' Kf.ite_nviT ?sth ?_; (case sth => (with_unfolding_all walk_at "om2")))
  | (refine' Kf.ite_nviF ?sth ?_; (case sth => (with_unfolding_all walk_at "om2")))
  | (refine' Kf.ite_decT ?sth ?_; (case sth => (with_unfolding_all walk_at "om2")))
  | (refine' Kf.ite_decF ?sth ?_; (case sth => (with_unfolding_all walk_at "om2")))
  | with_unfolding_all walk_at "calls")
local macro_rules | `(tactic| walk_at "go") => `(tactic| repeat walk_at "st")

namespace Kf
open PySem PySem.Spec PyProof.Rows L2
open R0 (Bd)
open R1 (mg Ok Rows val)
/-- an own form: the constant, the dict -/
def OwnAt (H : Hp) (v : V) (c : Rat) (l : Rows) : Prop := ∃ (p : Addr) (cv : V) (d : Addr), v = .ref p ∧ H p = some (.tup [cv, .ref d]) ∧ Dq H cv (rD c) ∧ DkAt H d l
theorem OwnAt.ext {H H' : Hp} {v : V} {c : Rat} {l : Rows} (h : OwnAt H v c l) (e : Ext H H') : OwnAt H' v c l := by
  obtain ⟨p, cv, d, rfl, h1, h2, h3⟩ := h
  exact ⟨p, cv, d, rfl, e.get h1 (npl rfl), h2.ext e, h3.ext e⟩
theorem keys_V (l : Rows) : ((l.map (·.1)).map Sum.inl).map kV = (l.map (·.1)).map V.int := by
  rw [List.map_map]; rfl
theorem put_new {l : Rows} {n : Int} {r : Rat} (h : ∀ x ∈ l, x.1 ≠ n) : R1.put l n r = l ++ [(n, r)] := by
  unfold R1.put
  rw [if_neg fun z => ?_]
  obtain ⟨x, hx, e⟩ := R1.any_iff.mp z
  exact h x hx e
theorem w_dput {td ty tv : TE} {D : Ends} {σ : L2.St} {H : Hp} (h : tv σ H fun v H1 => td σ H1 fun x H2 => ty σ H2 fun y H3 => ∃ a H4, x = .ref a ∧ DPut H3 a y v H4 ∧ D.nx σ H4) : sDPut td ty tv D σ H := h
theorem take_lt {ks : List Int} {i : Nat} {n : Int} (h : ks.Pairwise (· < ·)) (e : ks[i]? = some n) : ∀ x ∈ ks.take i, x < n := fun x hx => by
  obtain ⟨hi, e⟩ := List.getElem?_eq_some_iff.mp e
  rw [← List.take_append_drop i ks, List.drop_eq_getElem_cons hi, e] at h
  exact (List.pairwise_append.mp h).2.2 x hx n (by simp)
abbrev s__law_plain : Stmt := topS 27
abbrev N__law_plain : List Str := ["constant", "out", "rest", "node"]
abbrev P__law_plain : List Str := ["constant", "out"]
theorem sc__law_plain : FnScope N__law_plain P__law_plain (defScope s__law_plain) := ⟨rfl, rfl, rfl, by decide +kernel, rfl, by decide +kernel, by decide +kernel⟩
section
variable {P : Program} {w : World} {K : PySem.W.Frag} {mg' : Str → Option Value} {base : Heap} {H : Hp} {Q : VK} {E : XK}
def spPlain (K : PySem.W.Frag) : Sp := fun vs H Q _ => ∃ (cv : V) (d : Addr) (c : Rat) (l f : Rows), vs = [cv, .ref d] ∧ Dq H cv (rD c) ∧ DkAt H d l ∧ R1.Nd l ∧ l.length ≤ 500 ∧ Ok f ∧ (∀ n, val f n = val l n) ∧ ∀ v H', Ext H H' → OwnAt H' v c f → Q v H'
theorem sorted_lt {ks : List Int} (h : ks.Pairwise (· ≤ ·)) (n : ks.Nodup) : ks.Pairwise (· < ·) := (List.pairwise_and_iff.mpr ⟨h, n⟩).imp fun ⟨a, b⟩ => by omega
theorem ok_plain (D : Df K mg' "_law_plain" s__law_plain P__law_plain) (b_sorted : mg' "sorted" = none) (b_list : mg' "list" = none) : Pr P w K mg' base "_law_plain" 1 P__law_plain (spPlain K) := by
  refine D.ok sc__law_plain (fun vs H Q E h => ?_) (fun f cdv A outer s H vs Q E hr h => ?_)
  · obtain ⟨cv, d, c, l, f, rfl, _⟩ := h; rfl
  obtain ⟨cv, d, c, l, F, rfl, hc, hd, hnd, hl, okF, hF, q⟩ := h
  have nd := sc__law_plain.nd
  have hu := hu_of hr
  refine ⟨_, (pss_cons (ps_set (i := 2) nd rfl (Or.inl rfl) pe_dnewK)
      (pss_cons (ps_for PassesOwn.never rfl (pi_listK (K := K) rfl (pe_callB (cr_sortedIK (K := K) rfl) (by rfl) b_sorted (by decide +kernel) (pa_cons (pe_callTy (call_listD (by rfl)) (by rfl) b_list (by decide +kernel) (pa_cons (pv 1) pa_nil)) pa_nil))) (pg_name (i := 3) nd rfl (Or.inl rfl)) (pss_one (ps_if (pt_cmpR op_ne (pe_ix (ix_tupK (K := K) rfl) (pe_dget hu (pv 1) (pv 3) (fun _ _ => rfl)) pe_int (fun _ _ => rfl)) pe_int (nomark _)) (pss_one (ps_dput hu (pv 2) (pv 3) (pe_dget hu (pv 1) (pv 3) (fun _ _ => rfl)) rfl)) pss_nil)))
      (pss_one (ps_ret (pe_tup (pa_cons (pv 0) (pa_cons (pv 2) pa_nil))))))), ?_⟩
  refine w_start (σ := [some _, some _, none, none]) rfl ?_
  walk_at "go"
  intro d0 hd0
  have hd1 := hd.ext (Ext.new (o := .dK []) hd0)
  obtain ⟨kvs, hk, hkl⟩ := id hd1
  walk_at "go"
  refine ⟨d, kvs, rfl, .inl hk, fun p1 hp1 => ?_⟩
  have ek : kvs.map (fun kv => kV kv.1) = (l.map (·.1)).map V.int := by
    have := congrArg (List.map kV) hkl.keys
    rw [keys_V, List.map_map] at this
    exact this
  rw [ek]
  walk_at "go"
  refine ⟨p1, l.map (·.1), rfl, SqL.of L2.upd_same, fun ks p2 hperm hsort hp2 => ?_⟩
  have hlt := sorted_lt hsort (hperm.nodup_iff.mpr hnd)
  have hmem : ∀ n, n ∈ ks ↔ n ∈ l.map (·.1) := fun n => hperm.mem_iff
  have hpl := R1.pl_is hlt hmem okF hF
  have kl : ks.length ≤ 500 := by rw [hperm.length_eq, List.length_map]; exact hl
  walk_at "go"
  have hE0 : Ext H (upd (upd (upd H d0 (.dK [])) p1 (.lst ((l.map (·.1)).map V.int))) p2 (.lst (ks.map V.int))) := ((Ext.new hd0).newer hp1).newer hp2
  refine for_list (K := K) (a := p2) (xs := ks.map V.int) (fun i σ H' => ∃ (y : Option V) (kv : List (Key × V)), σ = [some cv, some (.ref d), some (.ref d0), y] ∧ Ext H H' ∧ H' p2 = some (.lst (ks.map V.int)) ∧ H' d0 = some (.dK kv) ∧ DkL (del H' d0) kv (R1.pl l (ks.take i)))
    ⟨_, [], rfl, hE0, L2.upd_same, upd_old hp2 (upd_old hp1 L2.upd_same), trivial⟩ (fun i σ H' _ ⟨_, _, _, _, e, _⟩ => SqL.of e) ?_ ?_
  · rintro i y σ H1 hy ⟨y1, kv, rfl, hE, h2, h3, h4⟩
    rw [List.getElem?_map] at hy
    cases en : ks[i]? with
    | none => rw [en] at hy; cases hy
    | some n =>
      rw [en] at hy
      cases hy
      have hn : n ∈ l.map (·.1) := (hmem n).mp (List.mem_of_getElem? en)
      have etk : ks.take (i + 1) = ks.take i ++ [n] := by rw [List.take_add_one, en]; rfl
      have hdH := hd.ext hE
      have il := (List.getElem?_eq_some_iff.mp en).1
      have h2d : p2 ≠ d0 := fun z => by subst z; rw [h2] at h3; cases h3
      walk_at "go"
      refine w_dgetR hdH hn fun v hv => ?_
      obtain ⟨pv, rfl, hpv⟩ := hv.pair
      walk_at "go"
      refine ite_nvi (fun cz => ?_) (fun cz => ?_)
      · have nz : val l n ≠ 0 := fun e => cz (by rw [e]; rfl)
        walk_at "go"
        refine w_dput ?_
        walk_at "go"
        refine w_dgetR hdH hn fun v2 hv2 => ?_
        obtain ⟨pv2, rfl, hpv2⟩ := hv2.pair
        have kvl := h4.len
        have pll : (R1.pl l (ks.take i)).length ≤ i := Nat.le_trans (List.length_filterMap_le _ _) (by rw [List.length_take]; omega)
        walk_at "go"
        refine ⟨d0, _, rfl, DPut.k (k := .inl n) h3 (small1000 (by omega)), ?_⟩
        have ep : R1.pl l (ks.take (i + 1)) = R1.put (R1.pl l (ks.take i)) n (val l n) := by
          rw [put_new fun x hx => by have := take_lt hlt en _ (R1.pl_mem hx).1; omega]
          unfold R1.pl
          rw [etk, List.filterMap_append]
          simp [nz]
        refine ⟨_, putK kv (.inl n) (.ref pv2), rfl, hE.own hd0, upd_oth h2d h2, L2.upd_same, ?_⟩
        rw [del_upd, ep]
        refine h4.put (Dq.of_pair (del_at hpv2 fun z => ?_))
        subst z
        rw [h3] at hpv2; cases hpv2
      · have z0 : val l n = 0 := by
          have := R0.at_div (val l n)
          rw [cz] at this
          rw [← this]
          have : ((0 : Int) : Rat) = 0 := rfl
          rw [this]; grind
        have ep : R1.pl l (ks.take (i + 1)) = R1.pl l (ks.take i) := by
          unfold R1.pl
          rw [etk, List.filterMap_append]
          simp [z0]
        walk_at "go"
        exact ⟨_, kv, rfl, hE, h2, h3, by rw [ep]; exact h4⟩
  · rintro σ H1 ⟨y1, kv, rfl, hE, h2, h3, h4⟩
    rw [List.length_map, List.take_length, hpl] at h4
    walk_at "go"
    intro pr hpr
    exact q _ _ (hE.newer hpr) ⟨pr, cv, d0, rfl, L2.upd_same, hc.ext (hE.newer hpr), kv, upd_old hpr h3, (h4.ext del_sub).ext (Ext.new hpr)⟩
end
end Kf

end
section
set_option Elab.async false
set_option linter.all false
set_option maxRecDepth 100000
set_option maxHeartbeats 4000000
local macro_rules | `(tactic| walk_at "npl") => `(tactic| first | exact Kf.npl rfl | exact Kf.npl_ints _ | exact Kf.npl_one _ _ | exact Kf.npl_refs _ | assumption)
local macro_rules | `(tactic| walk_at "nn") => `(tactic| first
  | assumption
  | (refine' Kf.Ext.non ?nne ?nnh; (case nne => assumption); (case nnh => walk_at "nn")))
local macro_rules | `(tactic| walk_at "ext") => `(tactic| first
  | assumption
  | exact Kf.Ext.refl
  | (refine' Kf.Ext.newer ?exa ?exn; (case exn => assumption); (case exa => walk_at "ext"))
  | (refine' Kf.Ext.own ?exa ?exn; (case exn => walk_at "nn"); (case exa => walk_at "ext"))
  | (refine' Kf.Ext.trans ?exa ?exb; (case exb => assumption); (case exa => walk_at "ext")))
local macro_rules | `(tactic| walk_at "pool") => `(tactic| first
  | assumption
  | (refine' Kf.PoolAt.ext ?plh ?ple; (case plh => assumption); (case ple => walk_at "ext"))
  | (refine' Kf.PoolAt.upd ?plh ?plo ?pln; (case plo => assumption); (case pln => walk_at "npl"); (case plh => walk_at "pool")))
local macro_rules | `(tactic| walk_at "lk") => `(tactic| first
  | assumption
  | exact L2.upd_same
  | (refine' Kf.upd_old ?lkn ?lkh; (case lkn => assumption); (case lkh => walk_at "lk"))
  | (refine' Kf.upd_oth ?lkn ?lkh; (case lkn => (first | assumption | (apply Ne.symm; assumption))); (case lkh => walk_at "lk"))
  | (refine' Kf.Ext.get ?lke ?lkh ?lkn; (case lke => assumption); (case lkh => walk_at "lk"); (case lkn => walk_at "npl"))
  | (refine' L2.Same.at ?lke ?lkh; (case lke => assumption); (case lkh => walk_at "lk")))
local macro_rules | `(tactic| walk_at "sq") => `(tactic| first
  | assumption
  | (refine' L2.SqL.of ?sqh; (case sqh => walk_at "lk"))
  | (refine' L2.SqT.of ?sqh; (case sqh => walk_at "lk"))
  | (refine' Kf.Ext.seqL ?sqe ?sqh ?sqn; (case sqh => assumption); (case sqe => walk_at "ext"); (case sqn => walk_at "npl"))
  | (refine' Kf.Ext.seqT ?sqe ?sqh; (case sqh => assumption); (case sqe => walk_at "ext")))
local macro_rules | `(tactic| walk_at "at") => `(tactic| first | exact L2.atI_nat (j := 0) rfl | exact L2.atI_nat (j := 1) rfl | exact L2.atI_nat (j := 2) rfl | exact L2.atI_nat (j := 3) rfl | exact L2.atI_nat (j := 4) rfl | assumption)
local macro_rules | `(tactic| walk_at "ixn") => `(tactic| first | exact Kf.ixN_nat (j := 0) rfl | exact Kf.ixN_nat (j := 1) rfl | exact Kf.ixN_nat (j := 2) rfl | exact Kf.ixN_nat (j := 3) rfl | assumption)
local macro_rules | `(tactic| walk_at "set") => `(tactic| (first | (simp only [List.set_cons_succ, List.set_cons_zero]; rfl) | rfl))
local macro_rules | `(tactic| walk_at "om") => `(tactic| first | decide | omega | (simp only [List.length_map, List.length_cons, List.length_nil] at *; omega))
local macro_rules | `(tactic| walk_at "calls") => `(tactic| first
  | (with_reducible refine' Kf.call_take ?clp ?cla ?clb ?clq; (case clp => walk_at "pool"); (case cla => walk_at "om"); (case clb => walk_at "om"); intro r H' hE h0 h1)
  | (with_reducible refine' Kf.call_pool ?cls ?cla ?clq; (case cls => walk_at "sq"); (case cla => walk_at "om"); intro p H' hE hN hP)
  | (with_reducible refine' Kf.call_turn ?cls ?clp ?cla ?clq; (case cls => walk_at "sq"); (case clp => walk_at "pool"); (case cla => walk_at "om"); intro u H' hE hP))
local macro_rules | `(tactic| walk_at "side") => `(tactic| first
  | exact Kf.cmul_fmod (by decide) (by decide)
  | exact rfl
  | decide
  | omega
  | assumption
  | (refine ⟨?_, ?_⟩ <;> decide)
  | (refine ⟨?_, ?_, ?_⟩ <;> decide)
  | (refine ⟨?_, ?_⟩ <;> omega)
  | (refine Or.inl ⟨?_, ?_⟩ <;> decide)
  | (refine Or.inr ⟨?_, ?_⟩ <;> decide)
  | (refine Or.inl ⟨?_, ?_⟩ <;> omega)
  | (refine Or.inr ⟨?_, ?_⟩ <;> omega))
local macro_rules | `(tactic| walk_at "kit") => `(tactic| first | exact Kf.isi_int_int | exact Kf.isi_int_bool | exact Kf.isi_int_str | exact Kf.isi_int_list | exact Kf.isi_int_tuple | exact Kf.isi_bool_int | exact Kf.isi_bool_bool | exact Kf.isi_bool_str | exact Kf.isi_bool_list | exact Kf.isi_bool_tuple | exact Kf.isi_str_int | exact Kf.isi_str_bool | exact Kf.isi_str_str | exact Kf.isi_str_list | exact Kf.isi_str_tuple | exact Kf.isi_non_list | exact Kf.isi_non_tuple | exact Kf.isi_list_list | exact Kf.isi_list_tuple | exact Kf.isi_tuple_list | exact Kf.isi_tuple_tuple | exact Kf.isi_dict_dict)
local macro_rules | `(tactic| walk_at "ty") => `(tactic| first
  | exact L2.TyX.base (L2.TyOf.int _)
  | exact L2.TyX.base (L2.TyOf.bl _)
  | exact L2.TyX.base (L2.TyOf.str _)
  | exact L2.TyX.base L2.TyOf.non
  | (refine' L2.TyX.base (L2.TyOf.lst ?tyh); (case tyh => walk_at "lk"))
  | (refine' L2.TyX.base (L2.TyOf.tup ?tyh); (case tyh => walk_at "lk"))
  | (refine' L2.TyX.base (L2.TyOf.dK ?tyh); (case tyh => walk_at "lk")))
local macro_rules | `(tactic| walk_at "om2") => `(tactic| first | assumption | decide | omega)
local macro_rules | `(tactic| walk_at "st") => `(tactic| with_reducible first
  | (refine Kf.w_var rfl ?_)
  | (refine Kf.w_c ?_)
  | (refine Kf.w_seq ?_)
  | (refine Kf.w_asg ?_)
  | (refine' Kf.w_gname ?sth ?_; (case sth => with_unfolding_all walk_at "set"))
  | (refine Kf.w_op ?_)
  | (refine Kf.w_un ?_)
  | (refine Kf.w_rU ?_)
  | (refine Kf.w_rI0 ?_)
  | (refine' Kf.w_rI ?sth ?_; (case sth => with_unfolding_all walk_at "side"))
  | (refine' Kf.w_rEq ?sth ?_; (case sth => with_unfolding_all rfl))
  | (refine' Kf.w_rNe ?sth ?_; (case sth => with_unfolding_all rfl))
  | (refine Kf.w_tTest ?_)
  | (refine Kf.w_tB ?_)
  | (refine Kf.w_exbl ?_)
  | (refine Kf.w_exint ?_)
  | (refine Kf.w_ifS ?_)
  | (refine Kf.w_ret ?_)
  | (refine Kf.w_retN ?_)
  | (refine Kf.w_drop ?_)
  | (refine Kf.w_and ?_)
  | (refine Kf.w_or ?_)
  | (refine Kf.w_not ?_)
  | (refine Kf.w_andV ?_)
  | (refine Kf.w_orV ?_)
  | (refine Kf.w_notV ?_)
  | (refine Kf.w_if ?_)
  | (refine Kf.w_lc ?_)
  | (refine Kf.w_for ?_)
  | (refine Kf.w_rng1 ?_)
  | (refine' Kf.w_rng1x ?sth ?stg ?_; (case sth => with_unfolding_all walk_at "om"); (case stg => with_unfolding_all walk_at "om"))
  | (refine Kf.w_ilist ?_)
  | (refine Kf.w_iseq ?_)
  | (refine Kf.w_itup ?_)
  | (refine' Kf.w_ilistx ?sth ?_; (case sth => with_unfolding_all walk_at "sq"))
  | (refine' Kf.w_itupx ?sth ?_; (case sth => with_unfolding_all walk_at "sq"))
  | (refine' Kf.w_wipe ?sth ?_; (case sth => with_unfolding_all rfl))
  | (refine Kf.w_yes ?_)
  | (refine' Kf.w_isi ?sth ?stg ?_; (case sth => with_unfolding_all walk_at "ty"); (case stg => walk_at "kit"))
  | (refine Kf.w_isN ?_)
  | (refine Kf.w_notN ?_)
  | (refine Kf.w_cb ?_)
  | (refine Kf.w_nil ?_)
  | (refine Kf.w_cons ?_)
  | (refine Kf.w_tup ?_)
  | (refine Kf.w_lst ?_)
  | (refine' Kf.w_lines ?sth ?_; (case sth => with_unfolding_all rfl))
  | (refine Kf.w_call ?_)
  | (refine Kf.w_next ?_)
  | (refine Kf.w_break ?_)
  | (refine Kf.w_cont ?_)
  | (refine Kf.w_dnewK ?_)
  | (refine Kf.w_ikeys ?_)
  | (refine Kf.w_dput ?_)
  | (refine Kf.w_dget2 ?_)
  | (refine Kf.w_dget ?_)
  | (refine Kf.w_sl ?_)
  | (refine Kf.w_nopart ?_)
  | (refine Kf.w_part ?_)
  | (refine Kf.w_bm ?_)
  | (refine Kf.w_bm0 ?_)
  | (refine' Kf.w_bmL ?sth ?_; (case sth => with_unfolding_all walk_at "lk"))
  | (refine' Kf.w_cat ?sth ?stg ?stf ?_; (case sth => with_unfolding_all walk_at "lk"); (case stg => with_unfolding_all walk_at "lk"); (case stf => with_unfolding_all walk_at "om"))
  | (refine' Kf.w_slL ?sth ?_; (case sth => with_unfolding_all walk_at "sq"))
  | (refine' Kf.w_inL ?sth ?_; (case sth => with_unfolding_all walk_at "sq"))
  | (refine' Kf.w_inT ?sth ?_; (case sth => with_unfolding_all walk_at "sq"))
  | (refine' Kf.w_ninL ?sth ?_; (case sth => with_unfolding_all walk_at "sq"))
  | (refine' Kf.w_ninT ?sth ?_; (case sth => with_unfolding_all walk_at "sq"))
  | (refine' Kf.w_listof ?sth ?_; (case sth => with_unfolding_all walk_at "sq"))
  | (refine' Kf.w_tupof ?sth ?_; (case sth => with_unfolding_all walk_at "sq"))
  | (refine Kf.w_listRev ?_)
  | (refine Kf.w_gsub ?_)
  | (refine' Kf.w_ixL ?sth ?stg ?_; (case sth => with_unfolding_all walk_at "sq"); (case stg => with_unfolding_all walk_at "at"))
  | (refine' Kf.w_ixT ?sth ?stg ?_; (case sth => with_unfolding_all walk_at "sq"); (case stg => with_unfolding_all walk_at "at"))
  | (refine' Kf.w_setL ?sth ?stg ?_; (case sth => with_unfolding_all walk_at "lk"); (case stg => with_unfolding_all walk_at "ixn"))
  | (refine' Kf.w_len ?sth ?_; (case sth => with_unfolding_all walk_at "sq"))
  | (refine' Kf.w_lenT ?sth ?_; (case sth => with_unfolding_all walk_at "sq"))
  | (refine Kf.w_int1 ?_)
  | (refine Kf.w_intb ?_)
  | (refine Kf.w_abs ?_)
  | (refine Kf.w_aug rfl ?_)
  | (refine Kf.w_par ?_)
  | (refine' Kf.w_gtup ?sth ?stg ?_; (case sth => with_unfolding_all walk_at "sq"); (case stg => with_unfolding_all exact rfl))
  | (refine' Kf.w_glst ?sth ?stg ?_; (case sth => with_unfolding_all walk_at "sq"); (case stg => with_unfolding_all exact rfl))
  | (refine Kf.w_rng2 ?_)
  | (refine Kf.w_rng3 ?_)
  | (refine' Kf.w_rng2x ?sth ?stg ?stf ?ste ?_; (case sth => with_unfolding_all walk_at "om"); (case stg => with_unfolding_all walk_at "om"); (case stf => with_unfolding_all walk_at "om"); (case ste => with_unfolding_all walk_at "om"))
  | (refine Kf.w_gcons ?_)
  | (refine Kf.w_gnil ?_)
  | (refine Kf.w_gcd ?_)
  | (refine Kf.w_bits ?_)
  | (refine Kf.w_two ?_)
  | (refine Kf.w_ipI ?_)
  | (refine L2.iteT ?_)
  | (refine L2.iteF ?_)
  | (refine Kf.iteNT ?_)
  | (refine Kf.iteNF ?_)
  | (refine' Kf.ite_decT ?sth ?_; (case sth => exact rfl))
  | (refine' Kf.ite_decF ?sth ?_; (case sth => with_unfolding_all (intro e; cases e; done)))
  | (refine' Kf.ite_ndecF ?sth ?_; (case sth => exact rfl))
  | (refine' Kf.ite_ndecT ?sth ?_; (case sth => with_unfolding_all (intro e; cases e; done)))
  | (refine' Kf.ite_viT ?sth ?_; (case sth => (with_unfolding_all walk_at "om2")))
  | (refine' Kf.ite_viF ?sth ?_; (case sth => (with_unfolding_all walk_at "om2")))
  | (refine' Kf.ite_nviT ?sth ?_; (case sth => (with_unfolding_all walk_at "om2")))
  | (refine' Kf.ite_nviF ?sth ?_; (case sth => (with_unfolding_all walk_at "om2")))
  | (refine' Kf.ite_decT ?sth ?_; (case sth => (with_unfolding_all walk_at "om2")))
  | (refine' Kf.ite_decF ?sth ?_; (case sth => (with_unfolding_all walk_at "om2")))
  | with_unfolding_all walk_at "calls")
local macro_rules | `(tactic| walk_at "go") => `(tactic| repeat walk_at "st")

namespace Kf
open PySem PySem.Spec PyProof.Rows L2
open R0 (Bd)
open R1 (mg Ok Rows val)
/-- what stands in a locked dict -/
theorem Dq.lock {H : Hp} {d : Addr} {od : Obj} {u : HO} {v : V} {r : Rat} (h : Dq H v (rD r)) (hd : ∀ xs, H d ≠ some (.tup xs)) : Dq (upd H d (.frz od u)) v (rD r) := by
  obtain ⟨p, rfl, hp⟩ := h.pair
  refine Dq.of_pair ?_
  rw [upd_ne fun e => ?_]
  · exact hp
  · subst e; exact hd _ hp
theorem DkL.lock {H : Hp} {d : Addr} {od : Obj} {u : HO} (hd : ∀ xs, H d ≠ some (.tup xs)) : ∀ {kvs : List (Key × V)} {l : Rows}, DkL H kvs l → DkL (upd H d (.frz od u)) kvs l
  | [], [], h => trivial
  | _ :: _, _ :: _, h => ⟨h.1, h.2.1.lock hd, DkL.lock hd h.2.2⟩
  | [], _ :: _, h => h.elim
  | _ :: _, [], h => h.elim
theorem w_dget2 {td ty tx : TE} {σ : L2.St} {H : Hp} {Q : VK} (h : td σ H fun x H1 => ∃ a, x = .ref a ∧ IsD H1 a ∧ ty σ H1 fun y H2 => tx σ H2 fun z H3 => ∃ o, DGet H3 a y o ∧ Q (o.getD z) H3) : tDGet2 td ty tx σ H Q := h
abbrev s__law_summed : Stmt := topS 28
abbrev N__law_summed : List Str := ["one", "two", "out", "node"]
abbrev P__law_summed : List Str := ["one", "two"]
theorem sc__law_summed : FnScope N__law_summed P__law_summed (defScope s__law_summed) := ⟨rfl, rfl, rfl, by decide +kernel, rfl, by decide +kernel, by decide +kernel⟩
/-- the other's rows added one by one -/
def addAll (l : Rows) : Rows → Rows
  | [] => l
  | x :: g => addAll (R1.put l x.1 (val l x.1 + x.2)) g
theorem addAll_snoc : ∀ (g l : Rows) (x : Int × Rat), addAll l (g ++ [x]) = R1.put (addAll l g) x.1 (val (addAll l g) x.1 + x.2)
  | [], _, _ => rfl
  | _ :: g, _, x => addAll_snoc g _ x
theorem addAll_nd : ∀ (g l : Rows), R1.Nd l → R1.Nd (addAll l g)
  | [], _, h => h
  | _ :: g, _, h => addAll_nd g _ (R1.put_nd h)
theorem addAll_val : ∀ (g l : Rows), Ok g → ∀ n, val (addAll l g) n = val l n + val g n
  | [], l, _, n => by show val l n = val l n + 0; grind
  | x :: g, l, h, n => by
    show val (addAll (R1.put l x.1 (val l x.1 + x.2)) g) n = _
    rw [addAll_val g _ h.tl n, R1.put_val, R1.val_cons x g n]
    by_cases e : x.1 = n
    · have hz : val g n = 0 := R1.val_lt fun y hy => by rw [← e]; exact h.lt y hy
      rw [if_pos e, if_pos e, hz, e]
      grind
    · rw [if_neg e, if_neg e]
theorem put_len {l : Rows} {n : Int} {r : Rat} : (R1.put l n r).length ≤ l.length + 1 := by
  unfold R1.put
  split
  · rw [List.length_map]; omega
  · rw [List.length_append]; exact Nat.le_refl _
theorem addAll_len : ∀ (g l : Rows), (addAll l g).length ≤ l.length + g.length
  | [], l => Nat.le_refl _
  | x :: g, l => by
    have h1 := addAll_len g (R1.put l x.1 (val l x.1 + x.2))
    have h2 := put_len (l := l) (n := x.1) (r := val l x.1 + x.2)
    rw [List.length_cons]
    show (addAll (R1.put l x.1 (val l x.1 + x.2)) g).length ≤ _
    omega
theorem nd_of {f : Rows} (h : Ok f) : R1.Nd f := by
  have := List.pairwise_map.mpr (show f.Pairwise (fun a b => a.1 ≠ b.1) from h.srt.imp fun h => by omega)
  exact this
end Kf

end
section
set_option Elab.async false
set_option linter.all false
set_option maxRecDepth 100000
set_option maxHeartbeats 4000000
local macro_rules | `(tactic| walk_at "npl") => `(tactic| first | exact Kf.npl rfl | exact Kf.npl_ints _ | exact Kf.npl_one _ _ | exact Kf.npl_refs _ | assumption)
local macro_rules | `(tactic| walk_at "nn") => `(tactic| first
  | assumption
  | (refine' Kf.Ext.non ?nne ?nnh; (case nne => assumption); (case nnh => walk_at "nn")))
local macro_rules | `(tactic| walk_at "ext") => `(tactic| first
  | assumption
  | exact Kf.Ext.refl
  | (refine' Kf.Ext.newer ?exa ?exn; (case exn => assumption); (case exa => walk_at "ext"))
  | (refine' Kf.Ext.own ?exa ?exn; (case exn => walk_at "nn"); (case exa => walk_at "ext"))
  | (refine' Kf.Ext.trans ?exa ?exb; (case exb => assumption); (case exa => walk_at "ext")))
local macro_rules | `(tactic| walk_at "pool") => `(tactic| first
  | assumption
  | (refine' Kf.PoolAt.ext ?plh ?ple; (case plh => assumption); (case ple => walk_at "ext"))
  | (refine' Kf.PoolAt.upd ?plh ?plo ?pln; (case plo => assumption); (case pln => walk_at "npl"); (case plh => walk_at "pool")))
local macro_rules | `(tactic| walk_at "lk") => `(tactic| first
  | assumption
  | exact L2.upd_same
  | (refine' Kf.upd_old ?lkn ?lkh; (case lkn => assumption); (case lkh => walk_at "lk"))
  | (refine' Kf.upd_oth ?lkn ?lkh; (case lkn => (first | assumption | (apply Ne.symm; assumption))); (case lkh => walk_at "lk"))
  | (refine' Kf.Ext.get ?lke ?lkh ?lkn; (case lke => assumption); (case lkh => walk_at "lk"); (case lkn => walk_at "npl"))
  | (refine' L2.Same.at ?lke ?lkh; (case lke => assumption); (case lkh => walk_at "lk")))
local macro_rules | `(tactic| walk_at "sq") => `(tactic| first
  | assumption
  | (refine' L2.SqL.of ?sqh; (case sqh => walk_at "lk"))
  | (refine' L2.SqT.of ?sqh; (case sqh => walk_at "lk"))
  | (refine' Kf.Ext.seqL ?sqe ?sqh ?sqn; (case sqh => assumption); (case sqe => walk_at "ext"); (case sqn => walk_at "npl"))
  | (refine' Kf.Ext.seqT ?sqe ?sqh; (case sqh => assumption); (case sqe => walk_at "ext")))
local macro_rules | `(tactic| walk_at "at") => `(tactic| first | exact L2.atI_nat (j := 0) rfl | exact L2.atI_nat (j := 1) rfl | exact L2.atI_nat (j := 2) rfl | exact L2.atI_nat (j := 3) rfl | exact L2.atI_nat (j := 4) rfl | assumption)
local macro_rules | `(tactic| walk_at "ixn") => `(tactic| first | exact Kf.ixN_nat (j := 0) rfl | exact Kf.ixN_nat (j := 1) rfl | exact Kf.ixN_nat (j := 2) rfl | exact Kf.ixN_nat (j := 3) rfl | assumption)
local macro_rules | `(tactic| walk_at "set") => `(tactic| (first | (simp only [List.set_cons_succ, List.set_cons_zero]; rfl) | rfl))
local macro_rules | `(tactic| walk_at "om") => `(tactic| first | decide | omega | (simp only [List.length_map, List.length_cons, List.length_nil] at *; omega))
local macro_rules | `(tactic| walk_at "calls") => `(tactic| first
  | (with_reducible refine' Kf.call_take ?clp ?cla ?clb ?clq; (case clp => walk_at "pool"); (case cla => walk_at "om"); (case clb => walk_at "om"); intro r H' hE h0 h1)
  | (with_reducible refine' Kf.call_pool ?cls ?cla ?clq; (case cls => walk_at "sq"); (case cla => walk_at "om"); intro p H' hE hN hP)
  | (with_reducible refine' Kf.call_turn ?cls ?clp ?cla ?clq; (case cls => walk_at "sq"); (case clp => walk_at "pool"); (case cla => walk_at "om"); intro u H' hE hP))
local macro_rules | `(tactic| walk_at "side") => `(tactic| first
  | exact Kf.cmul_fmod (by decide) (by decide)
  | exact rfl
  | decide
  | omega
  | assumption
  | (refine ⟨?_, ?_⟩ <;> decide)
  | (refine ⟨?_, ?_, ?_⟩ <;> decide)
  | (refine ⟨?_, ?_⟩ <;> omega)
  | (refine Or.inl ⟨?_, ?_⟩ <;> decide)
  | (refine Or.inr ⟨?_, ?_⟩ <;> decide)
  | (refine Or.inl ⟨?_, ?_⟩ <;> omega)
  | (refine Or.inr ⟨?_, ?_⟩ <;> omega))
local macro_rules | `(tactic| walk_at "kit") => `(tactic| first | exact Kf.isi_int_int | exact Kf.isi_int_bool | exact Kf.isi_int_str | exact Kf.isi_int_list | exact Kf.isi_int_tuple | exact Kf.isi_bool_int | exact Kf.isi_bool_bool | exact Kf.isi_bool_str | exact Kf.isi_bool_list | exact Kf.isi_bool_tuple | exact Kf.isi_str_int | exact Kf.isi_str_bool | exact Kf.isi_str_str | exact Kf.isi_str_list | exact Kf.isi_str_tuple | exact Kf.isi_non_list | exact Kf.isi_non_tuple | exact Kf.isi_list_list | exact Kf.isi_list_tuple | exact Kf.isi_tuple_list | exact Kf.isi_tuple_tuple | exact Kf.isi_dict_dict)
local macro_rules | `(tactic| walk_at "ty") => `(tactic| first
  | exact L2.TyX.base (L2.TyOf.int _)
  | exact L2.TyX.base (L2.TyOf.bl _)
  | exact L2.TyX.base (L2.TyOf.str _)
  | exact L2.TyX.base L2.TyOf.non
  | (refine' L2.TyX.base (L2.TyOf.lst ?tyh); (case tyh => walk_at "lk"))
  | (refine' L2.TyX.base (L2.TyOf.tup ?tyh); (case tyh => walk_at "lk"))
  | (refine' L2.TyX.base (L2.TyOf.dK ?tyh); (case tyh => walk_at "lk")))
local macro_rules | `(tactic| walk_at "om2") => `(tactic| first | assumption | decide | omega)
local macro_rules | `(tactic| walk_at "st") => `(tactic| with_reducible first
  | (refine Kf.w_var rfl ?_)
  | (refine Kf.w_c ?_)
  | (refine Kf.w_seq ?_)
  | (refine Kf.w_asg ?_)
  | (refine' Kf.w_gname ?sth ?_; (case sth => with_unfolding_all walk_at "set"))
  | (refine Kf.w_op ?_)
  | (refine Kf.w_un ?_)
  | (refine Kf.w_rU ?_)
  | (refine Kf.w_rI0 ?_)
  | (refine' Kf.w_rI ?sth ?_; (case sth => with_unfolding_all walk_at "side"))
  | (refine' Kf.w_rEq ?sth ?_; (case sth => with_unfolding_all rfl))
  | (refine' Kf.w_rNe ?sth ?_; (case sth => with_unfolding_all rfl))
  | (refine Kf.w_tTest ?_)
  | (refine Kf.w_tB ?_)
  | (refine Kf.w_exbl ?_)
  | (refine Kf.w_exint ?_)
  | (refine Kf.w_ifS ?_)
  | (refine Kf.w_ret ?_)
  | (refine Kf.w_retN ?_)
  | (refine Kf.w_drop ?_)
  | (refine Kf.w_and ?_)
  | (refine Kf.w_or ?_)
  | (refine Kf.w_not ?_)
  | (refine Kf.w_andV ?_)
  | (refine Kf.w_orV ?_)
  | (refine Kf.w_notV ?_)
  | (refine Kf.w_if ?_)
  | (refine Kf.w_lc ?_)
  | (refine Kf.w_for ?_)
  | (refine Kf.w_rng1 ?_)
  | (refine' Kf.w_rng1x ?sth ?stg ?_; (case sth => with_unfolding_all walk_at "om"); (case stg => with_unfolding_all walk_at "om"))
  | (refine Kf.w_ilist ?_)
  | (refine Kf.w_iseq ?_)
  | (refine Kf.w_itup ?_)
  | (refine' Kf.w_ilistx ?sth ?_; (case sth => with_unfolding_all walk_at "sq"))
  | (refine' Kf.w_itupx ?sth ?_; (case sth => with_unfolding_all walk_at "sq"))
  | (refine' Kf.w_wipe ?sth ?_; (case sth => with_unfolding_all rfl))
  | (refine Kf.w_yes ?_)
  | (refine' Kf.w_isi ?sth ?stg ?_; (case sth => with_unfolding_all walk_at "ty"); (case stg => walk_at "kit"))
  | (refine Kf.w_isN ?_)
  | (refine Kf.w_notN ?_)
  | (refine Kf.w_cb ?_)
  | (refine Kf.w_nil ?_)
  | (refine Kf.w_cons ?_)
  | (refine Kf.w_tup ?_)
  | (refine Kf.w_lst ?_)
  | (refine' Kf.w_lines ?sth ?_; (case sth => with_unfolding_all rfl))
  | (refine Kf.w_call ?_)
  | (refine Kf.w_next ?_)
  | (refine Kf.w_break ?_)
  | (refine Kf.w_cont ?_)
  | (refine Kf.w_dnewK ?_)
  | (refine Kf.w_ikeys ?_)
  | (refine Kf.w_dput ?_)
  | (refine Kf.w_dget2 ?_)
  | (refine Kf.w_dget ?_)
  | (refine Kf.w_sl ?_)
  | (refine Kf.w_nopart ?_)
  | (refine Kf.w_part ?_)
  | (refine Kf.w_bm ?_)
  | (refine Kf.w_bm0 ?_)
  | (refine' Kf.w_bmL ?sth ?_; (case sth => with_unfolding_all walk_at "lk"))
  | (refine' Kf.w_cat ?sth ?stg ?stf ?_; (case sth => with_unfolding_all walk_at "lk"); (case stg => with_unfolding_all walk_at "lk"); (case stf => with_unfolding_all walk_at "om"))
  | (refine' Kf.w_slL ?sth ?_; (case sth => with_unfolding_all walk_at "sq"))
  | (refine' Kf.w_inL ?sth ?_; (case sth => with_unfolding_all walk_at "sq"))
  | (refine' Kf.w_inT ?sth ?_; (case sth => with_unfolding_all walk_at "sq"))
  | (refine' Kf.w_ninL ?sth ?_; (case sth => with_unfolding_all walk_at "sq"))
  | (refine' Kf.w_ninT ?sth ?_; (case sth => with_unfolding_all walk_at "sq"))
  | (refine' Kf.w_listof ?sth ?_; (case sth => with_unfolding_all walk_at "sq"))
  | (refine' Kf.w_tupof ?sth ?_; (case sth => with_unfolding_all walk_at "sq"))
  | (refine Kf.w_listRev ?_)
  | (refine Kf.w_gsub ?_)
  | (refine' Kf.w_ixL ?sth ?stg ?_; (case sth => with_unfolding_all walk_at "sq"); (case stg => with_unfolding_all walk_at "at"))
  | (refine' Kf.w_ixT ?sth ?stg ?_; (case sth => with_unfolding_all walk_at "sq"); (case stg => with_unfolding_all walk_at "at"))
  | (refine' Kf.w_setL ?sth ?stg ?_; (case sth => with_unfolding_all walk_at "lk"); (case stg => with_unfolding_all walk_at "ixn"))
  | (refine' Kf.w_len ?sth ?_; (case sth => with_unfolding_all walk_at "sq"))
  | (refine' Kf.w_lenT ?sth ?_; (case sth => with_unfolding_all walk_at "sq"))
  | (refine Kf.w_int1 ?_)
  | (refine Kf.w_intb ?_)
  | (refine Kf.w_abs ?_)
  | (refine Kf.w_aug rfl ?_)
  | (refine Kf.w_par ?_)
  | (refine' Kf.w_gtup ?sth ?stg ?_; (case sth => with_unfolding_all walk_at "sq"); (case stg => with_unfolding_all exact rfl))
  | (refine' Kf.w_glst ?sth ?stg ?_; (case sth => with_unfolding_all walk_at "sq"); (case stg => with_unfolding_all exact rfl))
  | (refine Kf.w_rng2 ?_)
  | (refine Kf.w_rng3 ?_)
  | (refine' Kf.w_rng2x ?sth ?stg ?stf ?ste ?_; (case sth => with_unfolding_all walk_at "om"); (case stg => with_unfolding_all walk_at "om"); (case stf => with_unfolding_all walk_at "om"); (case ste => with_unfolding_all walk_at "om"))
  | (refine Kf.w_gcons ?_)
  | (refine Kf.w_gnil ?_)
  | (refine Kf.w_gcd ?_)
  | (refine Kf.w_bits ?_)
  | (refine Kf.w_two ?_)
  | (refine Kf.w_ipI ?_)
  | (refine L2.iteT ?_)
  | (refine L2.iteF ?_)
  | (refine Kf.iteNT ?_)
  | (refine Kf.iteNF ?_)
  | (refine' Kf.ite_decT ?sth ?_; (case sth => exact rfl))
  | (refine' Kf.ite_decF ?sth ?_; (case sth => with_unfolding_all (intro e; cases e; done)))
  | (refine' Kf.ite_ndecF ?sth ?_; (case sth => exact rfl))
  | (refine' Kf.ite_ndecT ?sth ?_; (case sth => with_unfolding_all (intro e; cases e; done)))
  | (refine' Kf.ite_viT ?sth ?_; (case sth => (with_unfolding_all walk_at "om2")))
  | (refine' Kf.ite_viF ?sth ?_; (case sth => (with_unfolding_all walk_at "om2")))
  | (refine' Kf.ite_nviT ?sth ?_; (case sth => (with_unfolding_all walk_at "om2")))
  | (refine' Kf.ite_nviF ?sth ?_; (case sth => (with_unfolding_all walk_at "om2")))
  | (refine' Kf.ite_decT ?sth ?_; (case sth => (with_unfolding_all walk_at "om2")))
  | (refine' Kf.ite_decF ?sth ?_; (case sth => (with_unfolding_all walk_at "om2")))
  | with_unfolding_all walk_at "calls")
local macro_rules | `(tactic| walk_at "go") => `(tactic| repeat walk_at "st")

namespace Kf
open PySem PySem.Spec PyProof.Rows L2
open R0 (Bd)
open R1 (mg Ok Rows val)
theorem ne_tk {H : Hp} {p d : Addr} {xs : List V} {kvs : List (Key × V)} (hp : H p = some (.tup xs)) (hd : H d = some (.dK kvs)) : p ≠ d := fun z => by subst z; rw [hp] at hd; cases hd
mutual
theorem Dq.kept {H H' : Hp} (h1 : ∀ b xs, H b = some (.tup xs) → H' b = some (.tup xs)) (h2 : ∀ b xs, H b = some (.lst xs) → H' b = some (.lst xs)) : ∀ {v : V} {e : PyData}, Dq H v e → Dq H' v e
  | _, _, .non => .non
  | _, _, .bl b => .bl b
  | _, _, .int i => .int i
  | _, _, .str x => .str x
  | _, _, .lst h n r => .lst (h2 _ _ h) n (DqAll.kept h1 h2 r)
  | _, _, .tup h r => .tup (h1 _ _ h) (DqAll.kept h1 h2 r)
theorem DqAll.kept {H H' : Hp} (h1 : ∀ b xs, H b = some (.tup xs) → H' b = some (.tup xs)) (h2 : ∀ b xs, H b = some (.lst xs) → H' b = some (.lst xs)) : ∀ {vs : List V} {ds : List PyData}, DqAll H vs ds → DqAll H' vs ds
  | _, _, .nil => .nil
  | _, _, .cons h r => .cons (Dq.kept h1 h2 h) (DqAll.kept h1 h2 r)
end
/-- what is told stands where one object that is neither a list nor a tuple is another -/
theorem Dq.over {H : Hp} {d : Addr} {o : HO} {v : V} {e : PyData} (h : Dq H v e) (h1 : ∀ xs, H d ≠ some (.tup xs)) (h2 : ∀ xs, H d ≠ some (.lst xs)) : Dq (upd H d o) v e :=
  Dq.kept (fun b xs hb => upd_oth (fun z => h1 xs (by rw [← z]; exact hb)) hb) (fun b xs hb => upd_oth (fun z => h2 xs (by rw [← z]; exact hb)) hb) h
theorem DkL.over {H : Hp} {d : Addr} {o : HO} (h1 : ∀ xs, H d ≠ some (.tup xs)) (h2 : ∀ xs, H d ≠ some (.lst xs)) : ∀ {kvs : List (Key × V)} {l : Rows}, DkL H kvs l → DkL (upd H d o) kvs l
  | [], [], h => trivial
  | _ :: _, _ :: _, h => ⟨h.1, Dq.over h.2.1 h1 h2, DkL.over h1 h2 h.2.2⟩
  | [], _ :: _, h => h.elim
  | _ :: _, [], h => h.elim
theorem Dq.delD {H : Hp} {p : Addr} {v : V} {e : PyData} (h : Dq H v e) (h1 : ∀ xs, H p ≠ some (.tup xs)) (h2 : ∀ xs, H p ≠ some (.lst xs)) : Dq (del H p) v e := Dq.kept (fun b xs hb => del_at hb fun z => h1 xs (by rw [← z]; exact hb)) (fun b xs hb => del_at hb fun z => h2 xs (by rw [← z]; exact hb)) h
theorem DkL.delD {H : Hp} {p : Addr} (h1 : ∀ xs, H p ≠ some (.tup xs)) (h2 : ∀ xs, H p ≠ some (.lst xs)) : ∀ {kvs : List (Key × V)} {l : Rows}, DkL H kvs l → DkL (del H p) kvs l
  | [], [], h => trivial
  | _ :: _, _ :: _, h => ⟨h.1, h.2.1.delD h1 h2, DkL.delD h1 h2 h.2.2⟩
  | [], _ :: _, h => h.elim
  | _ :: _, [], h => h.elim
theorem val_mid : ∀ {l : Rows} {n : Int} {r : Rat} {m : Rows}, (∀ y ∈ l, y.1 ≠ n) → val (l ++ (n, r) :: m) n = r
  | [], _, _, _, _ => R1.val_hd
  | x :: l, n, r, m, h => by
    show val (x :: (l ++ (n, r) :: m)) n = r
    rw [R1.val_cons, if_neg (h x (by simp))]
    exact val_mid fun y hy => h y (by simp [hy])
theorem sorted_uniq : ∀ {a b : List Int}, a.Pairwise (· < ·) → b.Pairwise (· < ·) → (∀ n, n ∈ a ↔ n ∈ b) → a = b
  | [], [], _, _, _ => rfl
  | [], y :: b, _, _, h => absurd ((h y).mpr (by simp)) (by simp)
  | x :: a, [], _, _, h => absurd ((h x).mp (by simp)) (by simp)
  | x :: a, y :: b, ha, hb, h => by
    have h1 := List.pairwise_cons.mp ha
    have h2 := List.pairwise_cons.mp hb
    have e : x = y := by
      rcases List.mem_cons.mp ((h x).mp (by simp)) with z | z
      · exact z
      · rcases List.mem_cons.mp ((h y).mpr (by simp)) with u | u
        · exact u.symm
        · have := h1.1 y u; have := h2.1 x z; omega
    subst e
    rw [sorted_uniq h1.2 h2.2 fun n => ⟨fun z => ?_, fun z => ?_⟩]
    · rcases List.mem_cons.mp ((h n).mp (List.mem_cons_of_mem _ z)) with u | u
      · have := h1.1 n z; omega
      · exact u
    · rcases List.mem_cons.mp ((h n).mpr (List.mem_cons_of_mem _ z)) with u | u
      · have := h2.1 n z; omega
      · exact u
theorem dk_nt {H : Hp} {d : Addr} {kvs : List (Key × V)} (h : H d = some (.dK kvs)) : ∀ xs, H d ≠ some (.tup xs) := fun xs z => by rw [h] at z; cases z
theorem dk_nl {H : Hp} {d : Addr} {kvs : List (Key × V)} (h : H d = some (.dK kvs)) : ∀ xs, H d ≠ some (.lst xs) := fun xs z => by rw [h] at z; cases z
theorem fz_nt {H : Hp} {d : Addr} {o : Obj} {u : HO} (h : H d = some (.frz o u)) : ∀ xs, H d ≠ some (.tup xs) := fun xs z => by rw [h] at z; cases z
theorem fz_nl {H : Hp} {d : Addr} {o : Obj} {u : HO} (h : H d = some (.frz o u)) : ∀ xs, H d ≠ some (.lst xs) := fun xs z => by rw [h] at z; cases z
/-- a dict of ratios, locked or not -/
def DkR (H : Hp) (d : Addr) (l : Rows) : Prop := ∃ kvs, Rd H d (.dK kvs) ∧ DkL H kvs l
theorem DkAt.rd {H : Hp} {d : Addr} {l : Rows} (h : DkAt H d l) : DkR H d l := let ⟨k, a, b⟩ := h; ⟨k, .inl a, b⟩
theorem DkR.ext {H H' : Hp} {d : Addr} {l : Rows} (h : DkR H d l) (e : Ext H H') : DkR H' d l := by
  obtain ⟨kvs, h1, h2⟩ := h
  rcases h1 with h1 | ⟨o, h1⟩
  · exact ⟨kvs, .inl (e.get h1 (npl rfl)), h2.ext e⟩
  · exact ⟨kvs, .inr ⟨o, e.get h1 (npl rfl)⟩, h2.ext e⟩
theorem DkL.el {H : Hp} : ∀ {kvs : List (Key × V)} {l : Rows} {i : Nat} {k : Key} {v : V}, DkL H kvs l → kvs[i]? = some (k, v) → ∃ n r, l[i]? = some (n, r) ∧ k = .inl n ∧ Dq H v (rD r)
  | [], [], _, _, _, _, h => by simp at h
  | _ :: _, (n, r) :: l, 0, _, _, q, h => by
    cases h
    exact ⟨n, r, rfl, q.1, q.2.1⟩
  | _ :: _, _ :: _, i + 1, _, _, q, h => by
    obtain ⟨n, r, e, z⟩ := DkL.el (i := i) q.2.2 (by simpa using h)
    exact ⟨n, r, by simpa using e, z⟩
  | [], _ :: _, _, _, _, q, _ => q.elim
  | _ :: _, [], _, _, _, q, _ => q.elim
theorem w_dgetF {H : Hp} {p : V → Prop} {d : Addr} {l : Rows} {n : Int} (hd : DkR H d l) (hn : n ∈ l.map (·.1)) (q : ∀ v, Dq H v (rD (val l n)) → p v) : ∃ a v, V.ref d = .ref a ∧ DGet H a (.int n) (some v) ∧ p v := by
  obtain ⟨kvs, h1, h2⟩ := hd
  rcases h2.get (n := n) with ⟨v, e1, _, e3⟩ | ⟨_, e⟩
  · exact ⟨d, v, rfl, .inl ⟨kvs, .inl n, h1, rfl, e1.symm⟩, q v e3⟩
  · exact absurd hn e
theorem w_dget2x {H : Hp} {p : Option V → Prop} {d : Addr} {l : Rows} {n : Int} {z : V} (hd : DkR H d l) (hz : Dq H z (rD 0)) (q : ∀ o, Dq H (o.getD z) (rD (val l n)) → p o) : ∃ o, DGet H d (.int n) o ∧ p o := by
  obtain ⟨kvs, h1, h2⟩ := hd
  rcases h2.get (n := n) with ⟨v, e1, _, e3⟩ | ⟨e1, e2⟩
  · exact ⟨some v, .inl ⟨kvs, .inl n, h1, rfl, e1.symm⟩, q _ e3⟩
  · refine ⟨none, .inl ⟨kvs, .inl n, h1, rfl, e1.symm⟩, q none ?_⟩
    rw [R1.val_key e2]; exact hz
theorem w_lockE {t : TE} {σ : L2.St} {H : Hp} {Q : VK} {d : Addr} {u : HO} (h : H d = some u) (m : Mut (some u)) (q : ∀ od, t σ (upd H d (.frz od u)) fun v H' => H' d = some (.frz od u) ∧ Q v (upd H' d u)) : tLockE t σ H Q := ⟨d, u, h, m, q⟩
theorem zero_D {H : Hp} {p : Addr} (h : H p = some (.tup [.int 0, .int 1])) : Dq H (.ref p) (rD 0) := Dq.of_pair h
theorem bd_zero : Bd 200 0 := ⟨by decide, by decide⟩
theorem bd_val {b : Nat} : ∀ {f : Rows} {n : Int}, (∀ x ∈ f, Bd b x.2) → Bd b 0 → Bd b (val f n)
  | [], n, _, z => z
  | (m, r) :: f, n, h, z => by
    rw [R1.val_cons]
    split
    · exact h _ (by simp)
    · exact bd_val (fun x hx => h x (by simp [hx])) z
theorem Ok.take {f : Rows} (h : Ok f) (i : Nat) : Ok (f.take i) := ⟨h.srt.sublist (List.take_sublist i f), fun x hx => h.nz x (List.mem_of_mem_take hx)⟩
theorem rows_lt {f : Rows} (h : Ok f) {i : Nat} {n : Int} {r : Rat} (e : f[i]? = some (n, r)) : ∀ x ∈ f.take i, x.1 < n := fun x hx => by
  obtain ⟨hi, e⟩ := List.getElem?_eq_some_iff.mp e
  have := h.srt
  rw [← List.take_append_drop i f, List.drop_eq_getElem_cons hi, e] at this
  exact (List.pairwise_append.mp this).2.2 x hx (n, r) (by simp)
theorem rows_take {f : Rows} {i : Nat} {n : Int} {r : Rat} (e : f[i]? = some (n, r)) : f.take (i + 1) = f.take i ++ [(n, r)] := by rw [List.take_add_one, e]; rfl
section
variable {P : Program} {w : World} {K : PySem.W.Frag} {mg' : Str → Option Value} {base : Heap} {H : Hp} {Q : VK} {E : XK}
theorem call_plain {cv : V} {d : Addr} {c : Rat} {l f : Rows} (h1 : Dq H cv (rD c)) (h2 : DkAt H d l) (h3 : R1.Nd l) (h4 : l.length ≤ 500) (h5 : Ok f) (h6 : ∀ n, val f n = val l n) (q : ∀ v H', Ext H H' → OwnAt H' v c f → Q v H') : spPlain K ([cv, .ref d] ++ []) H Q E := ⟨cv, d, c, l, f, rfl, h1, h2, h3, h4, h5, h6, q⟩
def spSum (K : PySem.W.Frag) : Sp := fun vs H Q _ => ∃ (x y : V) (c d : Rat) (f g : Rows), vs = [x, y] ∧ OwnAt H x c f ∧ OwnAt H y d g ∧ FOk c f ∧ FOk d g ∧ ∀ v H', Ext H H' → OwnAt H' v (c + d) (mg f g) → Q v H'
theorem ok_summed (D : Df K mg' "_law_summed" s__law_summed P__law_summed) (b_dict : mg' "dict" = none) (p__law_add : Pr P w K mg' base "_law_add" 2 P__law_add (spTwo K (fun a b => a + b))) (p__law_plain : Pr P w K mg' base "_law_plain" 1 P__law_plain (spPlain K)) : Pr P w K mg' base "_law_summed" 3 P__law_summed (spSum K) := by
  refine D.ok sc__law_summed (fun vs H Q E h => ?_) (fun f cdv A outer s H vs Q E hr h => ?_)
  · obtain ⟨x, y, c, d, f, g, rfl, _⟩ := h; rfl
  obtain ⟨x, y, c, d, F, G, rfl, ⟨px, cx, dx, rfl, hpx, hcx, hdx⟩, ⟨py, cy, dy, rfl, hpy, hcy, hdy⟩, okF, okG, q⟩ := h
  have nd := sc__law_summed.nd
  have hu := hu_of hr
  refine ⟨_, (pss_cons (ps_set (i := 2) nd rfl (Or.inl rfl) (pe_callTy call_dictD (by rfl) b_dict (by decide +kernel) (pa_cons (pe_ix (ix_tupK (K := K) rfl) (pv 0) pe_int (fun _ _ => rfl)) pa_nil)))
      (pss_cons (ps_lock (ps_for PassesOwn.never rfl (pi_keys (pe_ix (ix_tupK (K := K) rfl) (pv 1) pe_int (fun _ _ => rfl))) (pg_name (i := 3) nd rfl (Or.inl rfl)) (pss_one (ps_dput hu (pv 2) (pv 3) (pe_callP p__law_add hr (pa_cons (pe_dget2 hu (pv 2) (pv 3) (pe_tup (pa_cons pe_int (pa_cons pe_int pa_nil))) ⟨rfl, rfl, rfl, rfl⟩) (pa_cons (pe_dget hu (pe_ix (ix_tupK (K := K) rfl) (pv 1) pe_int (fun _ _ => rfl)) (pv 3) (fun _ _ => rfl)) pa_nil))) rfl))))
      (pss_one (ps_ret (pe_callP p__law_plain hr (pa_cons (pe_callP p__law_add hr (pa_cons (pe_ix (ix_tupK (K := K) rfl) (pv 0) pe_int (fun _ _ => rfl)) (pa_cons (pe_ix (ix_tupK (K := K) rfl) (pv 1) pe_int (fun _ _ => rfl)) pa_nil))) (pa_cons (pv 2) pa_nil))))))), ?_⟩
  refine w_start (σ := [some _, some _, none, none]) rfl ?_
  walk_at "go"
  obtain ⟨kx, hkx, hlx⟩ := hdx
  obtain ⟨ky, hky, hly⟩ := hdy
  refine ⟨dx, kx, rfl, .inl hkx, fun p1 hp1 => ?_⟩
  walk_at "go"
  have hE0 : Ext H (upd H p1 (.dK kx)) := Ext.new hp1
  have hky1 := hE0.get hky (npl rfl)
  have hpy1 := hE0.get hpy (npl rfl)
  have hpx1 := hE0.get hpx (npl rfl)
  have hne1 : p1 ≠ dy := fun z => by subst z; rw [hky] at hp1; cases hp1
  have hk1 : upd H p1 (.dK kx) p1 = some (.dK kx) := L2.upd_same
  refine w_lock hky1 trivial fun od => ?_
  have ht0 := dk_nt hky1
  have hl0 := dk_nl hky1
  have hpy2 := upd_oth (u := .frz od (.dK ky)) (ne_tk hpy1 hky1) hpy1
  have hpx2 := upd_oth (u := .frz od (.dK ky)) (ne_tk hpx1 hky1) hpx1
  have hk2 := upd_oth (u := .frz od (.dK ky)) hne1 hk1
  have hR2 : DkL (upd (upd H p1 (.dK kx)) dy (.frz od (.dK ky))) ky G := (hly.ext hE0).over ht0 hl0
  have hX2 : DkL (upd (upd H p1 (.dK kx)) dy (.frz od (.dK ky))) kx F := (hlx.ext hE0).over ht0 hl0
  have hcx2 : Dq (upd (upd H p1 (.dK kx)) dy (.frz od (.dK ky))) cx (rD c) := (hcx.ext hE0).over ht0 hl0
  have hcy2 : Dq (upd (upd H p1 (.dK kx)) dy (.frz od (.dK ky))) cy (rD d) := (hcy.ext hE0).over ht0 hl0
  have hF2 : upd (upd H p1 (.dK kx)) dy (.frz od (.dK ky)) dy = some (.frz od (.dK ky)) := L2.upd_same
  have back : ∀ H', Ext (del (upd (upd H p1 (.dK kx)) dy (.frz od (.dK ky))) p1) H' → Ext H (upd H' dy (.dK ky)) := fun H' e b o hb => by
    by_cases z : b = dy
    · subst z
      rw [hky] at hb; cases hb
      exact ⟨fun _ => L2.upd_same, fun h => absurd h (npl rfl)⟩
    · rw [upd_ne z]
      exact e b o (del_at (upd_oth z (upd_old hp1 hb)) (ne_of_none hb hp1))
  generalize upd (upd H p1 (.dK kx)) dy (.frz od (.dK ky)) = H2 at *
  walk_at "go"
  refine ⟨dy, od, rfl, .inl ⟨ky, hF2, ?_⟩⟩
  have lF := okF.ln
  have lG := okG.ln
  have lky := hly.len
  refine for_keysK (fun i σ H' => ∃ (t : Option V) (kv : List (Key × V)), σ = [some (.ref px), some (.ref py), some (.ref p1), t] ∧ H' p1 = some (.dK kv) ∧ Ext (del H2 p1) H' ∧ DkL H' kv (addAll F (G.take i)))
    ⟨_, kx, rfl, hk2, del_sub, hX2⟩ (fun i σ H' _ ⟨_, _, _, _, e, _⟩ => e.get (del_at hF2 hne1.symm) (npl rfl)) ?_ ?_
  · rintro i k v σ H3 hi ⟨t, kv, rfl, h3, e3, q3⟩
    obtain ⟨n, r, eG, rfl, _⟩ := hR2.el hi
    have hR3 := hR2.delD (dk_nt hk2) (dk_nl hk2)
    have hdy3 := e3.get (del_at hF2 hne1.symm) (npl rfl)
    have hpy3 := e3.get (del_at hpy2 (ne_of hpy2 hk2 (fun z => nomatch z))) (npl rfl)
    have ekn : kV (Sum.inl n) = V.int n := rfl
    rw [ekn]
    walk_at "go"
    refine ⟨p1, rfl, .inl ⟨kv, .inl h3⟩, ?_⟩
    walk_at "go"
    intro p2 hp2
    have hz := zero_D (L2.upd_same (H := H3) (a := p2) (o := .tup [.int 0, .int 1]))
    refine w_dget2x (DkAt.rd ⟨kv, upd_old hp2 h3, q3.ext (Ext.new hp2)⟩) hz fun o hv => ?_
    generalize o.getD (V.ref p2) = v at *
    have hpy4 := upd_old (u := .tup [.int 0, .int 1]) hp2 hpy3
    have hn : n ∈ G.map (·.1) := List.mem_map.mpr ⟨(n, r), List.mem_of_getElem? eG, rfl⟩
    have e4 := e3.newer (o := .tup [.int 0, .int 1]) hp2
    walk_at "go"
    refine w_dgetF (l := G) ⟨ky, .inr ⟨od, upd_old hp2 hdy3⟩, (hR3.ext e4)⟩ hn fun u hu' => ?_
    have hok := okG.ok
    have ev : val (addAll F (G.take i)) n = val F n := by
      rw [addAll_val _ _ (Ok.take hok i), R1.val_out (l := G.take i) fun y hy => by have := rows_lt hok eG y hy; omega]
      grind
    have evG : val G n = r := by
      have := R1.val_hd (m := n) (r := r) (l := G.drop (i + 1))
      have e2 := addAll_val G [] hok n
      have e3 : G = G.take i ++ (n, r) :: G.drop (i + 1) := by
        obtain ⟨hi, e⟩ := List.getElem?_eq_some_iff.mp eG
        rw [← e, ← List.drop_eq_getElem_cons hi, List.take_append_drop]
      rw [e3]
      exact val_mid fun y hy => by have := rows_lt hok eG y hy; omega
    walk_at "go"
    refine call_two hv hu' (n := 200) (m := 200) (by rw [ev]; exact bd_val okF.br bd_zero) (bd_val okG.br bd_zero) (by decide) (by decide) (by decide) fun s H5 hE5 hs => ?_
    have h5 := hE5.get (upd_old (u := .tup [.int 0, .int 1]) hp2 h3) (npl rfl)
    have q5 := (q3.ext (Ext.new (o := .tup [.int 0, .int 1]) hp2)).ext hE5
    have kl := q5.len
    have al := addAll_len (G.take i) F
    rw [List.length_take] at al
    walk_at "go"
    refine ⟨p1, _, rfl, DPut.k (k := .inl n) h5 (small1000 (by omega)), ?_⟩
    refine ⟨_, putK kv (.inl n) s, rfl, L2.upd_same, (e4.trans hE5).own del_same, ?_⟩
    rw [rows_take eG, addAll_snoc]
    rw [evG] at hs
    exact (q5.put hs).over (dk_nt h5) (dk_nl h5)
  · rintro σ H3 ⟨t, kv, rfl, h3, e3, q3⟩
    have hF3 := e3.get (del_at hF2 hne1.symm) (npl rfl)
    have hpy3 := e3.get (del_at hpy2 (ne_of hpy2 hk2 (fun z => nomatch z))) (npl rfl)
    have hpx3 := e3.get (del_at hpx2 (ne_of hpx2 hk2 (fun z => nomatch z))) (npl rfl)
    have hcx3 := Dq.ext e3 (Dq.delD hcx2 (dk_nt hk2) (dk_nl hk2))
    have hcy3 := Dq.ext e3 (Dq.delD hcy2 (dk_nt hk2) (dk_nl hk2))
    refine ⟨hF3, ?_⟩
    have hpx4 := upd_oth (u := .dK ky) (ne_of hpx3 hF3 (fun z => nomatch z)) hpx3
    have hpy4 := upd_oth (u := .dK ky) (ne_of hpy3 hF3 (fun z => nomatch z)) hpy3
    have h4 := upd_oth (u := .dK ky) hne1 h3
    have hcx4 := hcx3.over (o := .dK ky) (fz_nt hF3) (fz_nl hF3)
    have hcy4 := hcy3.over (o := .dK ky) (fz_nt hF3) (fz_nl hF3)
    have q4 := q3.over (o := .dK ky) (fz_nt hF3) (fz_nl hF3)
    rw [lky, List.take_length] at q4
    walk_at "go"
    refine call_two hcx4 hcy4 okF.bc okG.bc (by decide) (by decide) (by decide) fun s H5 hE5 hs => ?_
    have hok := okG.ok
    have al := addAll_len G F
    walk_at "go"
    exact call_plain hs ⟨kv, hE5.get h4 (npl rfl), q4.ext hE5⟩ (addAll_nd _ _ (nd_of okF.ok)) (by omega) (R1.mg_ok okF.ok okG.ok) (fun n => by rw [R1.mg_val okF.ok okG.ok, addAll_val _ _ hok]) fun v H6 hE6 hv => q v H6 (((back _ e3).trans hE5).trans hE6) hv
end
end Kf

end
section
set_option Elab.async false
set_option linter.all false
set_option maxRecDepth 100000
set_option maxHeartbeats 4000000
local macro_rules | `(tactic| walk_at "npl") => `(tactic| first | exact Kf.npl rfl | exact Kf.npl_ints _ | exact Kf.npl_one _ _ | exact Kf.npl_refs _ | assumption)
local macro_rules | `(tactic| walk_at "nn") => `(tactic| first
  | assumption
  | (refine' Kf.Ext.non ?nne ?nnh; (case nne => assumption); (case nnh => walk_at "nn")))
local macro_rules | `(tactic| walk_at "ext") => `(tactic| first
  | assumption
  | exact Kf.Ext.refl
  | (refine' Kf.Ext.newer ?exa ?exn; (case exn => assumption); (case exa => walk_at "ext"))
  | (refine' Kf.Ext.own ?exa ?exn; (case exn => walk_at "nn"); (case exa => walk_at "ext"))
  | (refine' Kf.Ext.trans ?exa ?exb; (case exb => assumption); (case exa => walk_at "ext")))
local macro_rules | `(tactic| walk_at "pool") => `(tactic| first
  | assumption
  | (refine' Kf.PoolAt.ext ?plh ?ple; (case plh => assumption); (case ple => walk_at "ext"))
  | (refine' Kf.PoolAt.upd ?plh ?plo ?pln; (case plo => assumption); (case pln => walk_at "npl"); (case plh => walk_at "pool")))
local macro_rules | `(tactic| walk_at "lk") => `(tactic| first
  | assumption
  | exact L2.upd_same
  | (refine' Kf.upd_old ?lkn ?lkh; (case lkn => assumption); (case lkh => walk_at "lk"))
  | (refine' Kf.upd_oth ?lkn ?lkh; (case lkn => (first | assumption | (apply Ne.symm; assumption))); (case lkh => walk_at "lk"))
  | (refine' Kf.Ext.get ?lke ?lkh ?lkn; (case lke => assumption); (case lkh => walk_at "lk"); (case lkn => walk_at "npl"))
  | (refine' L2.Same.at ?lke ?lkh; (case lke => assumption); (case lkh => walk_at "lk")))
local macro_rules | `(tactic| walk_at "sq") => `(tactic| first
  | assumption
  | (refine' L2.SqL.of ?sqh; (case sqh => walk_at "lk"))
  | (refine' L2.SqT.of ?sqh; (case sqh => walk_at "lk"))
  | (refine' Kf.Ext.seqL ?sqe ?sqh ?sqn; (case sqh => assumption); (case sqe => walk_at "ext"); (case sqn => walk_at "npl"))
  | (refine' Kf.Ext.seqT ?sqe ?sqh; (case sqh => assumption); (case sqe => walk_at "ext")))
local macro_rules | `(tactic| walk_at "at") => `(tactic| first | exact L2.atI_nat (j := 0) rfl | exact L2.atI_nat (j := 1) rfl | exact L2.atI_nat (j := 2) rfl | exact L2.atI_nat (j := 3) rfl | exact L2.atI_nat (j := 4) rfl | assumption)
local macro_rules | `(tactic| walk_at "ixn") => `(tactic| first | exact Kf.ixN_nat (j := 0) rfl | exact Kf.ixN_nat (j := 1) rfl | exact Kf.ixN_nat (j := 2) rfl | exact Kf.ixN_nat (j := 3) rfl | assumption)
local macro_rules | `(tactic| walk_at "set") => `(tactic| (first | (simp only [List.set_cons_succ, List.set_cons_zero]; rfl) | rfl))
local macro_rules | `(tactic| walk_at "om") => `(tactic| first | decide | omega | (simp only [List.length_map, List.length_cons, List.length_nil] at *; omega))
local macro_rules | `(tactic| walk_at "calls") => `(tactic| first
  | (with_reducible refine' Kf.call_take ?clp ?cla ?clb ?clq; (case clp => walk_at "pool"); (case cla => walk_at "om"); (case clb => walk_at "om"); intro r H' hE h0 h1)
  | (with_reducible refine' Kf.call_pool ?cls ?cla ?clq; (case cls => walk_at "sq"); (case cla => walk_at "om"); intro p H' hE hN hP)
  | (with_reducible refine' Kf.call_turn ?cls ?clp ?cla ?clq; (case cls => walk_at "sq"); (case clp => walk_at "pool"); (case cla => walk_at "om"); intro u H' hE hP))
local macro_rules | `(tactic| walk_at "side") => `(tactic| first
  | exact Kf.cmul_fmod (by decide) (by decide)
  | exact rfl
  | decide
  | omega
  | assumption
  | (refine ⟨?_, ?_⟩ <;> decide)
  | (refine ⟨?_, ?_, ?_⟩ <;> decide)
  | (refine ⟨?_, ?_⟩ <;> omega)
  | (refine Or.inl ⟨?_, ?_⟩ <;> decide)
  | (refine Or.inr ⟨?_, ?_⟩ <;> decide)
  | (refine Or.inl ⟨?_, ?_⟩ <;> omega)
  | (refine Or.inr ⟨?_, ?_⟩ <;> omega))
local macro_rules | `(tactic| walk_at "kit") => `(tactic| first | exact Kf.isi_int_int | exact Kf.isi_int_bool | exact Kf.isi_int_str | exact Kf.isi_int_list | exact Kf.isi_int_tuple | exact Kf.isi_bool_int | exact Kf.isi_bool_bool | exact Kf.isi_bool_str | exact Kf.isi_bool_list | exact Kf.isi_bool_tuple | exact Kf.isi_str_int | exact Kf.isi_str_bool | exact Kf.isi_str_str | exact Kf.isi_str_list | exact Kf.isi_str_tuple | exact Kf.isi_non_list | exact Kf.isi_non_tuple | exact Kf.isi_list_list | exact Kf.isi_list_tuple | exact Kf.isi_tuple_list | exact Kf.isi_tuple_tuple | exact Kf.isi_dict_dict)
local macro_rules | `(tactic| walk_at "ty") => `(tactic| first
  | exact L2.TyX.base (L2.TyOf.int _)
  | exact L2.TyX.base (L2.TyOf.bl _)
  | exact L2.TyX.base (L2.TyOf.str _)
  | exact L2.TyX.base L2.TyOf.non
  | (refine' L2.TyX.base (L2.TyOf.lst ?tyh); (case tyh => walk_at "lk"))
  | (refine' L2.TyX.base (L2.TyOf.tup ?tyh); (case tyh => walk_at "lk"))
  | (refine' L2.TyX.base (L2.TyOf.dK ?tyh); (case tyh => walk_at "lk")))
local macro_rules | `(tactic| walk_at "om2") => `(tactic| first | assumption | decide | omega)
local macro_rules | `(tactic| walk_at "st") => `(tactic| with_reducible first
  | (refine Kf.w_var rfl ?_)
  | (refine Kf.w_c ?_)
  | (refine Kf.w_seq ?_)
  | (refine Kf.w_asg ?_)
  | (refine' Kf.w_gname ?sth ?_; (case sth => with_unfolding_all walk_at "set"))
  | (refine Kf.w_op ?_)
  | (refine Kf.w_un ?_)
  | (refine Kf.w_rU ?_)
  | (refine Kf.w_rI0 ?_)
  | (refine' Kf.w_rI ?sth ?_; (case sth => with_unfolding_all walk_at "side"))
  | (refine' Kf.w_rEq ?sth ?_; (case sth => with_unfolding_all rfl))
  | (refine' Kf.w_rNe ?sth ?_; (case sth => with_unfolding_all rfl))
  | (refine Kf.w_tTest ?_)
  | (refine Kf.w_tB ?_)
  | (refine Kf.w_exbl ?_)
  | (refine Kf.w_exint ?_)
  | (refine Kf.w_ifS ?_)
  | (refine Kf.w_ret ?_)
  | (refine Kf.w_retN ?_)
  | (refine Kf.w_drop ?_)
  | (refine Kf.w_and ?_)
  | (refine Kf.w_or ?_)
  | (refine Kf.w_not ?_)
  | (refine Kf.w_andV ?_)
  | (refine Kf.w_orV ?_)
  | (refine Kf.w_notV ?_)
  | (refine Kf.w_if ?_)
  | (refine Kf.w_lc ?_)
  | (refine Kf.w_for ?_)
  | (refine Kf.w_rng1 ?_)
  | (refine' Kf.w_rng1x ?sth ?stg ?_; (case sth => with_unfolding_all walk_at "om"); (case stg => with_unfolding_all walk_at "om"))
  | (refine Kf.w_ilist ?_)
  | (refine Kf.w_iseq ?_)
  | (refine Kf.w_itup ?_)
  | (refine' Kf.w_ilistx ?sth ?_; (case sth => with_unfolding_all walk_at "sq"))
  | (refine' Kf.w_itupx ?sth ?_; (case sth => with_unfolding_all walk_at "sq"))
  | (refine' Kf.w_wipe ?sth ?_; (case sth => with_unfolding_all rfl))
  | (refine Kf.w_yes ?_)
  | (refine' Kf.w_isi ?sth ?stg ?_; (case sth => with_unfolding_all walk_at "ty"); (case stg => walk_at "kit"))
  | (refine Kf.w_isN ?_)
  | (refine Kf.w_notN ?_)
  | (refine Kf.w_cb ?_)
  | (refine Kf.w_nil ?_)
  | (refine Kf.w_cons ?_)
  | (refine Kf.w_tup ?_)
  | (refine Kf.w_lst ?_)
  | (refine' Kf.w_lines ?sth ?_; (case sth => with_unfolding_all rfl))
  | (refine Kf.w_call ?_)
  | (refine Kf.w_next ?_)
  | (refine Kf.w_break ?_)
  | (refine Kf.w_cont ?_)
  | (refine Kf.w_dnewK ?_)
  | (refine Kf.w_ikeys ?_)
  | (refine Kf.w_dput ?_)
  | (refine Kf.w_dget2 ?_)
  | (refine Kf.w_dget ?_)
  | (refine Kf.w_sl ?_)
  | (refine Kf.w_nopart ?_)
  | (refine Kf.w_part ?_)
  | (refine Kf.w_bm ?_)
  | (refine Kf.w_bm0 ?_)
  | (refine' Kf.w_bmL ?sth ?_; (case sth => with_unfolding_all walk_at "lk"))
  | (refine' Kf.w_cat ?sth ?stg ?stf ?_; (case sth => with_unfolding_all walk_at "lk"); (case stg => with_unfolding_all walk_at "lk"); (case stf => with_unfolding_all walk_at "om"))
  | (refine' Kf.w_slL ?sth ?_; (case sth => with_unfolding_all walk_at "sq"))
  | (refine' Kf.w_inL ?sth ?_; (case sth => with_unfolding_all walk_at "sq"))
  | (refine' Kf.w_inT ?sth ?_; (case sth => with_unfolding_all walk_at "sq"))
  | (refine' Kf.w_ninL ?sth ?_; (case sth => with_unfolding_all walk_at "sq"))
  | (refine' Kf.w_ninT ?sth ?_; (case sth => with_unfolding_all walk_at "sq"))
  | (refine' Kf.w_listof ?sth ?_; (case sth => with_unfolding_all walk_at "sq"))
  | (refine' Kf.w_tupof ?sth ?_; (case sth => with_unfolding_all walk_at "sq"))
  | (refine Kf.w_listRev ?_)
  | (refine Kf.w_gsub ?_)
  | (refine' Kf.w_ixL ?sth ?stg ?_; (case sth => with_unfolding_all walk_at "sq"); (case stg => with_unfolding_all walk_at "at"))
  | (refine' Kf.w_ixT ?sth ?stg ?_; (case sth => with_unfolding_all walk_at "sq"); (case stg => with_unfolding_all walk_at "at"))
  | (refine' Kf.w_setL ?sth ?stg ?_; (case sth => with_unfolding_all walk_at "lk"); (case stg => with_unfolding_all walk_at "ixn"))
  | (refine' Kf.w_len ?sth ?_; (case sth => with_unfolding_all walk_at "sq"))
  | (refine' Kf.w_lenT ?sth ?_; (case sth => with_unfolding_all walk_at "sq"))
  | (refine Kf.w_int1 ?_)
  | (refine Kf.w_intb ?_)
  | (refine Kf.w_abs ?_)
  | (refine Kf.w_aug rfl ?_)
  | (refine Kf.w_par ?_)
  | (refine' Kf.w_gtup ?sth ?stg ?_; (case sth => with_unfolding_all walk_at "sq"); (case stg => with_unfolding_all exact rfl))
  | (refine' Kf.w_glst ?sth ?stg ?_; (case sth => with_unfolding_all walk_at "sq"); (case stg => with_unfolding_all exact rfl))
  | (refine Kf.w_rng2 ?_)
  | (refine Kf.w_rng3 ?_)
  | (refine' Kf.w_rng2x ?sth ?stg ?stf ?ste ?_; (case sth => with_unfolding_all walk_at "om"); (case stg => with_unfolding_all walk_at "om"); (case stf => with_unfolding_all walk_at "om"); (case ste => with_unfolding_all walk_at "om"))
  | (refine Kf.w_gcons ?_)
  | (refine Kf.w_gnil ?_)
  | (refine Kf.w_gcd ?_)
  | (refine Kf.w_bits ?_)
  | (refine Kf.w_two ?_)
  | (refine Kf.w_ipI ?_)
  | (refine L2.iteT ?_)
  | (refine L2.iteF ?_)
  | (refine Kf.iteNT ?_)
  | (refine Kf.iteNF ?_)
  | (refine' Kf.ite_decT ?sth ?_; (case sth => exact rfl))
  | (refine' Kf.ite_decF ?sth ?_; (case sth => with_unfolding_all (intro e; cases e; done)))
  | (refine' Kf.ite_ndecF ?sth ?_; (case sth => exact rfl))
  | (refine' Kf.ite_ndecT ?sth ?_; (case sth => with_unfolding_all (intro e; cases e; done)))
  | (refine' Kf.ite_viT ?sth ?_; (case sth => (with_unfolding_all walk_at "om2")))
  | (refine' Kf.ite_viF ?sth ?_; (case sth => (with_unfolding_all walk_at "om2")))
  | (refine' Kf.ite_nviT ?sth ?_; (case sth => (with_unfolding_all walk_at "om2")))
  | (refine' Kf.ite_nviF ?sth ?_; (case sth => (with_unfolding_all walk_at "om2")))
  | (refine' Kf.ite_decT ?sth ?_; (case sth => (with_unfolding_all walk_at "om2")))
  | (refine' Kf.ite_decF ?sth ?_; (case sth => (with_unfolding_all walk_at "om2")))
  | with_unfolding_all walk_at "calls")
local macro_rules | `(tactic| walk_at "go") => `(tactic| repeat walk_at "st")

namespace Kf
open PySem PySem.Spec PyProof.Rows L2
open R0 (Bd)
open R1 (mg Ok Rows val)
abbrev s__law_scaled : Stmt := topS 29
abbrev N__law_scaled : List Str := ["a", "one", "out", "node", "b"]
abbrev P__law_scaled : List Str := ["a", "one"]
theorem sc__law_scaled : FnScope N__law_scaled P__law_scaled (defScope s__law_scaled) := ⟨rfl, rfl, rfl, by decide +kernel, rfl, by decide +kernel, by decide +kernel⟩
abbrev s__law_formed : Stmt := topS 30
abbrev N__law_formed : List Str := ["own", "node"]
abbrev P__law_formed : List Str := ["own"]
theorem sc__law_formed : FnScope N__law_formed P__law_formed (defScope s__law_formed) := ⟨rfl, rfl, rfl, by decide +kernel, rfl, by decide +kernel, by decide +kernel⟩
abbrev s__law_short : Stmt := topS 31
abbrev N__law_short : List Str := ["own", "numbers", "node", "one"]
abbrev P__law_short : List Str := ["own"]
theorem sc__law_short : FnScope N__law_short P__law_short (defScope s__law_short) := ⟨rfl, rfl, rfl, by decide +kernel, rfl, by decide +kernel, by decide +kernel⟩
abbrev scm (a : Rat) (f : Rows) : Rows := f.map fun x => (x.1, a * x.2)
theorem bits_mul {a b : Int} {n m : Nat} (ha : a.natAbs < 2 ^ n) (hb : b.natAbs < 2 ^ m) (h : n + m ≤ 8000) : (a * b).natAbs < 2 ^ 8000 := mul_bits ha hb h
section
variable {P : Program} {w : World} {K : PySem.W.Frag} {mg' : Str → Option Value} {base : Heap} {H : Hp} {Q : VK} {E : XK}
def spScd (K : PySem.W.Frag) : Sp := fun vs H Q _ => ∃ (x y : V) (a c : Rat) (f : Rows), vs = [x, y] ∧ Dq H x (rD a) ∧ OwnAt H y c f ∧ Bd 200 a ∧ FOk c f ∧ ∀ v H', Ext H H' → OwnAt H' v (a * c) (R1.sc a f) → Q v H'
theorem ok_scaled (D : Df K mg' "_law_scaled" s__law_scaled P__law_scaled) (p__law_lowest : Pr P w K mg' base "_law_lowest" 1 P__law_lowest (spLow K)) (p__law_plain : Pr P w K mg' base "_law_plain" 1 P__law_plain (spPlain K)) : Pr P w K mg' base "_law_scaled" 2 P__law_scaled (spScd K) := by
  refine D.ok sc__law_scaled (fun vs H Q E h => ?_) (fun f cdv A outer s H vs Q E hr h => ?_)
  · obtain ⟨x, y, a, c, f, rfl, _⟩ := h; rfl
  obtain ⟨x, y, a, c, G, rfl, hx, ⟨py, cy, dy, rfl, hpy, hcy, hdy⟩, ba, okG, q⟩ := h
  obtain ⟨pa, rfl, hpa⟩ := hx.pair
  obtain ⟨pc, rfl, hpc⟩ := hcy.pair
  have nd := sc__law_scaled.nd
  have hu := hu_of hr
  refine ⟨_, (pss_cons (ps_set (i := 2) nd rfl (Or.inl rfl) pe_dnewK)
      (pss_cons (ps_lock (ps_for PassesOwn.never rfl (pi_keys (pe_ix (ix_tupK (K := K) rfl) (pv 1) pe_int (fun _ _ => rfl))) (pg_name (i := 3) nd rfl (Or.inl rfl)) (pss_cons (ps_set (i := 4) nd rfl (Or.inl rfl) (pe_dget hu (pe_ix (ix_tupK (K := K) rfl) (pv 1) pe_int (fun _ _ => rfl)) (pv 3) (fun _ _ => rfl)))
      (pss_one (ps_dput hu (pv 2) (pv 3) (pe_callP p__law_lowest hr (pa_cons (pe_op op_mulW (pe_ix (ix_tupK (K := K) rfl) (pv 0) pe_int (fun _ _ => rfl)) (pe_ix (ix_tupK (K := K) rfl) (pv 4) pe_int (fun _ _ => rfl))) (pa_cons (pe_op op_mulW (pe_ix (ix_tupK (K := K) rfl) (pv 0) pe_int (fun _ _ => rfl)) (pe_ix (ix_tupK (K := K) rfl) (pv 4) pe_int (fun _ _ => rfl))) pa_nil))) rfl)))))
      (pss_one (ps_ret (pe_callP p__law_plain hr (pa_cons (pe_callP p__law_lowest hr (pa_cons (pe_op op_mulW (pe_ix (ix_tupK (K := K) rfl) (pv 0) pe_int (fun _ _ => rfl)) (pe_ix (ix_tupK (K := K) rfl) (pe_ix (ix_tupK (K := K) rfl) (pv 1) pe_int (fun _ _ => rfl)) pe_int (fun _ _ => rfl))) (pa_cons (pe_op op_mulW (pe_ix (ix_tupK (K := K) rfl) (pv 0) pe_int (fun _ _ => rfl)) (pe_ix (ix_tupK (K := K) rfl) (pe_ix (ix_tupK (K := K) rfl) (pv 1) pe_int (fun _ _ => rfl)) pe_int (fun _ _ => rfl))) pa_nil))) (pa_cons (pv 2) pa_nil))))))), ?_⟩
  refine w_start (σ := [some _, some _, none, none, none]) rfl ?_
  walk_at "go"
  intro p1 hp1
  walk_at "go"
  obtain ⟨ky, hky, hly⟩ := hdy
  have hE0 : Ext H (upd H p1 (.dK [])) := Ext.new hp1
  have hky1 := hE0.get hky (npl rfl)
  have hpy1 := hE0.get hpy (npl rfl)
  have hpa1 := hE0.get hpa (npl rfl)
  have hpc1 := hE0.get hpc (npl rfl)
  have hne1 : p1 ≠ dy := fun z => by subst z; rw [hky] at hp1; cases hp1
  have hk1 : upd H p1 (.dK []) p1 = some (.dK []) := L2.upd_same
  refine w_lock hky1 trivial fun od => ?_
  have ht0 := dk_nt hky1
  have hl0 := dk_nl hky1
  have hpy2 := upd_oth (u := .frz od (.dK ky)) (ne_tk hpy1 hky1) hpy1
  have hpa2 := upd_oth (u := .frz od (.dK ky)) (ne_tk hpa1 hky1) hpa1
  have hpc2 := upd_oth (u := .frz od (.dK ky)) (ne_tk hpc1 hky1) hpc1
  have hk2 := upd_oth (u := .frz od (.dK ky)) hne1 hk1
  have hR2 : DkL (upd (upd H p1 (.dK [])) dy (.frz od (.dK ky))) ky G := (hly.ext hE0).over ht0 hl0
  have hF2 : upd (upd H p1 (.dK [])) dy (.frz od (.dK ky)) dy = some (.frz od (.dK ky)) := L2.upd_same
  have back : ∀ H', Ext (del (upd (upd H p1 (.dK [])) dy (.frz od (.dK ky))) p1) H' → Ext H (upd H' dy (.dK ky)) := fun H' e b o hb => by
    by_cases z : b = dy
    · subst z
      rw [hky] at hb; cases hb
      exact ⟨fun _ => L2.upd_same, fun h => absurd h (npl rfl)⟩
    · rw [upd_ne z]
      exact e b o (del_at (upd_oth z (upd_old hp1 hb)) (ne_of_none hb hp1))
  generalize upd (upd H p1 (.dK [])) dy (.frz od (.dK ky)) = H2 at *
  walk_at "go"
  refine ⟨dy, od, rfl, .inl ⟨ky, hF2, ?_⟩⟩
  have lG := okG.ln
  have lky := hly.len
  have hR3 := hR2.delD (dk_nt hk2) (dk_nl hk2)
  have hpy3 := del_at hpy2 (ne_of hpy2 hk2 (fun z => nomatch z))
  have hpa3 := del_at hpa2 (ne_of hpa2 hk2 (fun z => nomatch z))
  have hpc3 := del_at hpc2 (ne_of hpc2 hk2 (fun z => nomatch z))
  have hok := okG.ok
  refine for_keysK (fun i σ H' => ∃ (t t2 : Option V) (kv : List (Key × V)), σ = [some (.ref pa), some (.ref py), some (.ref p1), t, t2] ∧ H' p1 = some (.dK kv) ∧ Ext (del H2 p1) H' ∧ DkL H' kv (scm a (G.take i)))
    ⟨_, _, [], rfl, hk2, del_sub, trivial⟩ (fun i σ H' _ ⟨_, _, _, _, _, e, _⟩ => e.get (del_at hF2 hne1.symm) (npl rfl)) ?_ ?_
  · rintro i k v σ H3 hi ⟨t, t2, kv, rfl, h3, e3, q3⟩
    obtain ⟨n, r, eG, rfl, _⟩ := hR2.el hi
    have hdy3 := e3.get (del_at hF2 hne1.symm) (npl rfl)
    have hn : n ∈ G.map (·.1) := List.mem_map.mpr ⟨(n, r), List.mem_of_getElem? eG, rfl⟩
    have ekn : kV (Sum.inl n) = V.int n := rfl
    have evG : val G n = r := by
      have e3 : G = G.take i ++ (n, r) :: G.drop (i + 1) := by
        obtain ⟨hi, e⟩ := List.getElem?_eq_some_iff.mp eG
        rw [← e, ← List.drop_eq_getElem_cons hi, List.take_append_drop]
      rw [e3]
      exact val_mid fun y hy => by have := rows_lt hok eG y hy; omega
    rw [ekn]
    walk_at "go"
    refine w_dgetF (l := G) ⟨ky, .inr ⟨od, hdy3⟩, hR3.ext e3⟩ hn fun u hu' => ?_
    rw [evG] at hu'
    obtain ⟨pu, rfl, hpu⟩ := hu'.pair
    have br := okG.br _ (List.mem_of_getElem? eG)
    dsimp only at br
    walk_at "go"
    refine w_wmul (Bd.n ba) (Bd.n br) (by decide) (by decide) (by decide) ?_
    walk_at "go"
    refine w_wmul (Bd.d ba) (Bd.d br) (by decide) (by decide) (by decide) ?_
    walk_at "go"
    have p1' : (0 : Int) < (a.den : Int) := by have := a.den_nz; omega
    have p2' : (0 : Int) < (r.den : Int) := by have := r.den_nz; omega
    refine call_low (Int.mul_pos p1' p2') (bits_mul (Bd.d ba) (Bd.d br) (by decide)) fun s H5 hE5 hs => ?_
    rw [R0.mul_div] at hs
    have h5 := hE5.get h3 (npl rfl)
    have q5 := q3.ext hE5
    have kl := q5.len
    rw [List.length_map, List.length_take] at kl
    walk_at "go"
    refine ⟨p1, _, rfl, DPut.k (k := .inl n) h5 (small1000 (by omega)), ?_⟩
    refine ⟨_, _, putK kv (.inl n) s, rfl, L2.upd_same, (e3.trans hE5).own del_same, ?_⟩
    have ep : scm a (G.take (i + 1)) = R1.put (scm a (G.take i)) n (a * r) := by
      rw [put_new fun x hx => ?_, rows_take eG]
      · exact List.map_append
      · obtain ⟨y, hy, rfl⟩ := List.mem_map.mp hx
        have := rows_lt hok eG y hy
        dsimp only; omega
    rw [ep]
    exact (q5.put hs).over (dk_nt h5) (dk_nl h5)
  · rintro σ H3 ⟨t, t2, kv, rfl, h3, e3, q3⟩
    have hF3 := e3.get (del_at hF2 hne1.symm) (npl rfl)
    have hpy4 := e3.get hpy3 (npl rfl)
    have hpa4 := e3.get hpa3 (npl rfl)
    have hpc4 := e3.get hpc3 (npl rfl)
    refine ⟨hF3, ?_⟩
    have hpa5 := upd_oth (u := .dK ky) (ne_of hpa4 hF3 (fun z => nomatch z)) hpa4
    have hpy5 := upd_oth (u := .dK ky) (ne_of hpy4 hF3 (fun z => nomatch z)) hpy4
    have hpc5 := upd_oth (u := .dK ky) (ne_of hpc4 hF3 (fun z => nomatch z)) hpc4
    have h4 := upd_oth (u := .dK ky) hne1 h3
    have q4 := q3.over (o := .dK ky) (fz_nt hF3) (fz_nl hF3)
    rw [lky, List.take_length] at q4
    walk_at "go"
    refine w_wmul (Bd.n ba) (Bd.n okG.bc) (by decide) (by decide) (by decide) ?_
    walk_at "go"
    refine w_wmul (Bd.d ba) (Bd.d okG.bc) (by decide) (by decide) (by decide) ?_
    walk_at "go"
    have p1' : (0 : Int) < (a.den : Int) := by have := a.den_nz; omega
    have p2' : (0 : Int) < (c.den : Int) := by have := c.den_nz; omega
    refine call_low (Int.mul_pos p1' p2') (bits_mul (Bd.d ba) (Bd.d okG.bc) (by decide)) fun s H5 hE5 hs => ?_
    rw [R0.mul_div] at hs
    walk_at "go"
    have hnd : R1.Nd (scm a G) := by
      have := nd_of hok
      unfold R1.Nd at this ⊢
      rw [List.map_map]; exact this
    exact call_plain hs ⟨kv, hE5.get h4 (npl rfl), q4.ext hE5⟩ hnd (by rw [List.length_map]; omega) (R1.sc_ok hok) (fun n => by rw [R1.sc_val, R1.val_map]) fun v H6 hE6 hv => q v H6 (((back _ e3).trans hE5).trans hE6) hv
def spFrm (K : PySem.W.Frag) : Sp := fun vs H Q _ => ∃ (y : V) (c : Rat) (f : Rows), vs = [y] ∧ OwnAt H y c f ∧ Ok f ∧ f.length ≤ 500 ∧ ∀ v H', Ext H H' → Dq H' v (fD c f) → Q v H'
theorem ok_formed (D : Df K mg' "_law_formed" s__law_formed P__law_formed) (b_tuple : mg' "tuple" = none) (b_sorted : mg' "sorted" = none) (b_list : mg' "list" = none) : Pr P w K mg' base "_law_formed" 1 P__law_formed (spFrm K) := by
  refine D.ok sc__law_formed (fun vs H Q E h => ?_) (fun f cdv A outer s H vs Q E hr h => ?_)
  · obtain ⟨y, c, f, rfl, _⟩ := h; rfl
  obtain ⟨y, c, F, rfl, ⟨py, cy, dy, rfl, hpy, hcy, hdy⟩, okF, hl, q⟩ := h
  have nd := sc__law_formed.nd
  have hu := hu_of hr
  refine ⟨_, (pss_one (ps_ret (pe_tup (pa_cons (pe_ix (ix_tupK (K := K) rfl) (pv 0) pe_int (fun _ _ => rfl)) (pa_cons (pe_callTy (call_tuple_ofK (K := K) rfl) (by rfl) b_tuple (by decide +kernel) (pa_cons (pe_lc (own := [("node", 1)]) rfl nd (pi_listK (K := K) rfl (pe_callB (cr_sortedIK (K := K) rfl) (by rfl) b_sorted (by decide +kernel) (pa_cons (pe_callTy (call_listD (by rfl)) (by rfl) b_list (by decide +kernel) (pa_cons (pe_ix (ix_tupK (K := K) rfl) (pv 0) pe_int (fun _ _ => rfl)) pa_nil)) pa_nil))) (blkOk_by (N := N__law_formed) (sc := defScope s__law_formed) (by decide +kernel)) (fun _ _ _ _ _ => pg_name (i := 1) nd rfl (Or.inl rfl)) (fun _ _ _ _ _ => pts_nil) (fun _ _ _ _ _ => (pe_tup (pa_cons (pv 1) (pa_cons (pe_dget hu (pe_ix (ix_tupK (K := K) rfl) (pv 0) pe_int (fun _ _ => rfl)) (pv 1) (fun _ _ => rfl)) pa_nil))))) pa_nil)) pa_nil))))), ?_⟩
  refine w_start (σ := [some _, none]) rfl ?_
  walk_at "go"
  have hd0 := id hdy
  obtain ⟨kvs, hk, hkl⟩ := hdy
  refine ⟨dy, kvs, rfl, .inl hk, fun p1 hp1 => ?_⟩
  have ek : kvs.map (fun kv => kV kv.1) = (F.map (·.1)).map V.int := by
    have := congrArg (List.map kV) hkl.keys
    rw [keys_V, List.map_map] at this
    exact this
  rw [ek]
  walk_at "go"
  refine ⟨p1, F.map (·.1), rfl, SqL.of L2.upd_same, fun ks p2 hperm hsort hp2 => ?_⟩
  have hlt := sorted_lt hsort (hperm.nodup_iff.mpr (nd_of okF))
  have eks : ks = F.map (·.1) := by
    refine sorted_uniq hlt (List.pairwise_map.mpr okF.srt) fun n => hperm.mem_iff
  subst eks
  have hE0 : Ext H (upd (upd H p1 (.lst ((F.map (·.1)).map V.int))) p2 (.lst ((F.map (·.1)).map V.int))) := (Ext.new hp1).newer hp2
  walk_at "go"
  refine lc_l (K := K) (a := p2) (xs := (F.map (·.1)).map V.int) (R := fun i acc Hd => DqAll Hd acc ((F.take i).map rwD)) (SqL.of L2.upd_same) (npl_ints _) .nil (fun _ _ _ _ e h => h.ext e) ?_ ?_
  · rintro i y acc D2 H2 hy2 hD2 hacc hE hall
    rw [List.getElem?_map, List.getElem?_map] at hy2
    cases en : F[i]? with
    | none => rw [en] at hy2; cases hy2
    | some x =>
      obtain ⟨n, r⟩ := x
      rw [en] at hy2
      cases hy2
      have il := (List.getElem?_eq_some_iff.mp en).1
      have hE2 := hE0.trans hE
      have hn : n ∈ F.map (·.1) := List.mem_map.mpr ⟨(n, r), List.mem_of_getElem? en, rfl⟩
      have evF : val F n = r := by
        have e3 : F = F.take i ++ (n, r) :: F.drop (i + 1) := by
          rw [← (List.getElem?_eq_some_iff.mp en).2, ← List.drop_eq_getElem_cons il, List.take_append_drop]
        rw [e3]
        exact val_mid fun y hy => by have := rows_lt okF en y hy; omega
      have al : acc.length ≤ 1000 := by rw [hall.len, List.length_map, List.length_take]; omega
      walk_at "go"
      refine w_dgetF (hd0.ext hE2).rd hn fun v hv => ?_
      rw [evF] at hv
      walk_at "go"
      intro p4 hp4
      have npa := hall.npl (sq_rw _)
      refine LcP.put hD2 hacc npa hE (Ext.new hp4) al ?_
      rw [rows_take en, List.map_append]
      refine (hall.ext (Ext.del (Ext.new hp4))).snoc ?_
      obtain ⟨pu, rfl, hpu⟩ := hv.pair
      exact .tup (del_at L2.upd_same (ne_of_none hacc hp4).symm) (.cons (.int _) (.cons (Dq.of_pair (del_at (upd_old hp4 hpu) (ne_of hpu hacc (fun z => nomatch z)))) .nil))
  · rintro D2 acc H2 hD2 hacc hE hall
    rw [List.length_map, List.length_map, List.take_length] at hall
    walk_at "go"
    intro pt hpt
    walk_at "go"
    intro pr hpr
    have e12 : ∀ o, Ext H2 (upd (upd H2 pt (.tup acc)) pr o) := fun o => (Ext.new hpt).newer hpr
    exact q _ _ (((hE0.trans hE).newer hpt).newer hpr) (.of_form L2.upd_same ((hcy.ext (hE0.trans hE)).ext (e12 _)) (upd_old hpr L2.upd_same) (hall.ext (e12 _)))
end
end Kf

end
section
set_option Elab.async false
set_option linter.all false
set_option maxRecDepth 100000
set_option maxHeartbeats 4000000
local macro_rules | `(tactic| walk_at "npl") => `(tactic| first | exact Kf.npl rfl | exact Kf.npl_ints _ | exact Kf.npl_one _ _ | exact Kf.npl_refs _ | assumption)
local macro_rules | `(tactic| walk_at "nn") => `(tactic| first
  | assumption
  | (refine' Kf.Ext.non ?nne ?nnh; (case nne => assumption); (case nnh => walk_at "nn")))
local macro_rules | `(tactic| walk_at "ext") => `(tactic| first
  | assumption
  | exact Kf.Ext.refl
  | (refine' Kf.Ext.newer ?exa ?exn; (case exn => assumption); (case exa => walk_at "ext"))
  | (refine' Kf.Ext.own ?exa ?exn; (case exn => walk_at "nn"); (case exa => walk_at "ext"))
  | (refine' Kf.Ext.trans ?exa ?exb; (case exb => assumption); (case exa => walk_at "ext")))
local macro_rules | `(tactic| walk_at "pool") => `(tactic| first
  | assumption
  | (refine' Kf.PoolAt.ext ?plh ?ple; (case plh => assumption); (case ple => walk_at "ext"))
  | (refine' Kf.PoolAt.upd ?plh ?plo ?pln; (case plo => assumption); (case pln => walk_at "npl"); (case plh => walk_at "pool")))
local macro_rules | `(tactic| walk_at "lk") => `(tactic| first
  | assumption
  | exact L2.upd_same
  | (refine' Kf.upd_old ?lkn ?lkh; (case lkn => assumption); (case lkh => walk_at "lk"))
  | (refine' Kf.upd_oth ?lkn ?lkh; (case lkn => (first | assumption | (apply Ne.symm; assumption))); (case lkh => walk_at "lk"))
  | (refine' Kf.Ext.get ?lke ?lkh ?lkn; (case lke => assumption); (case lkh => walk_at "lk"); (case lkn => walk_at "npl"))
  | (refine' L2.Same.at ?lke ?lkh; (case lke => assumption); (case lkh => walk_at "lk")))
local macro_rules | `(tactic| walk_at "sq") => `(tactic| first
  | assumption
  | (refine' L2.SqL.of ?sqh; (case sqh => walk_at "lk"))
  | (refine' L2.SqT.of ?sqh; (case sqh => walk_at "lk"))
  | (refine' Kf.Ext.seqL ?sqe ?sqh ?sqn; (case sqh => assumption); (case sqe => walk_at "ext"); (case sqn => walk_at "npl"))
  | (refine' Kf.Ext.seqT ?sqe ?sqh; (case sqh => assumption); (case sqe => walk_at "ext")))
local macro_rules | `(tactic| walk_at "at") => `(tactic| first | exact L2.atI_nat (j := 0) rfl | exact L2.atI_nat (j := 1) rfl | exact L2.atI_nat (j := 2) rfl | exact L2.atI_nat (j := 3) rfl | exact L2.atI_nat (j := 4) rfl | assumption)
local macro_rules | `(tactic| walk_at "ixn") => `(tactic| first | exact Kf.ixN_nat (j := 0) rfl | exact Kf.ixN_nat (j := 1) rfl | exact Kf.ixN_nat (j := 2) rfl | exact Kf.ixN_nat (j := 3) rfl | assumption)
local macro_rules | `(tactic| walk_at "set") => `(tactic| (first | (simp only [List.set_cons_succ, List.set_cons_zero]; rfl) | rfl))
local macro_rules | `(tactic| walk_at "om") => `(tactic| first | decide | omega | (simp only [List.length_map, List.length_cons, List.length_nil] at *; omega))
local macro_rules | `(tactic| walk_at "calls") => `(tactic| first
  | (with_reducible refine' Kf.call_take ?clp ?cla ?clb ?clq; (case clp => walk_at "pool"); (case cla => walk_at "om"); (case clb => walk_at "om"); intro r H' hE h0 h1)
  | (with_reducible refine' Kf.call_pool ?cls ?cla ?clq; (case cls => walk_at "sq"); (case cla => walk_at "om"); intro p H' hE hN hP)
  | (with_reducible refine' Kf.call_turn ?cls ?clp ?cla ?clq; (case cls => walk_at "sq"); (case clp => walk_at "pool"); (case cla => walk_at "om"); intro u H' hE hP))
local macro_rules | `(tactic| walk_at "side") => `(tactic| first
  | exact Kf.cmul_fmod (by decide) (by decide)
  | exact rfl
  | decide
  | omega
  | assumption
  | (refine ⟨?_, ?_⟩ <;> decide)
  | (refine ⟨?_, ?_, ?_⟩ <;> decide)
  | (refine ⟨?_, ?_⟩ <;> omega)
  | (refine Or.inl ⟨?_, ?_⟩ <;> decide)
  | (refine Or.inr ⟨?_, ?_⟩ <;> decide)
  | (refine Or.inl ⟨?_, ?_⟩ <;> omega)
  | (refine Or.inr ⟨?_, ?_⟩ <;> omega))
local macro_rules | `(tactic| walk_at "kit") => `(tactic| first | exact Kf.isi_int_int | exact Kf.isi_int_bool | exact Kf.isi_int_str | exact Kf.isi_int_list | exact Kf.isi_int_tuple | exact Kf.isi_bool_int | exact Kf.isi_bool_bool | exact Kf.isi_bool_str | exact Kf.isi_bool_list | exact Kf.isi_bool_tuple | exact Kf.isi_str_int | exact Kf.isi_str_bool | exact Kf.isi_str_str | exact Kf.isi_str_list | exact Kf.isi_str_tuple | exact Kf.isi_non_list | exact Kf.isi_non_tuple | exact Kf.isi_list_list | exact Kf.isi_list_tuple | exact Kf.isi_tuple_list | exact Kf.isi_tuple_tuple | exact Kf.isi_dict_dict)
local macro_rules | `(tactic| walk_at "ty") => `(tactic| first
  | exact L2.TyX.base (L2.TyOf.int _)
  | exact L2.TyX.base (L2.TyOf.bl _)
  | exact L2.TyX.base (L2.TyOf.str _)
  | exact L2.TyX.base L2.TyOf.non
  | (refine' L2.TyX.base (L2.TyOf.lst ?tyh); (case tyh => walk_at "lk"))
  | (refine' L2.TyX.base (L2.TyOf.tup ?tyh); (case tyh => walk_at "lk"))
  | (refine' L2.TyX.base (L2.TyOf.dK ?tyh); (case tyh => walk_at "lk")))
local macro_rules | `(tactic| walk_at "om2") => `(tactic| first | assumption | decide | omega)
local macro_rules | `(tactic| walk_at "st") => `(tactic| with_reducible first
  | (refine Kf.w_var rfl ?_)
  | (refine Kf.w_c ?_)
  | (refine Kf.w_seq ?_)
  | (refine Kf.w_asg ?_)
  | (refine' Kf.w_gname ?sth ?_; (case sth => with_unfolding_all walk_at "set"))
  | (refine Kf.w_op ?_)
  | (refine Kf.w_un ?_)
  | (refine Kf.w_rU ?_)
  | (refine Kf.w_rI0 ?_)
  | (refine' Kf.w_rI ?sth ?_; (case sth => with_unfolding_all walk_at "side"))
  | (refine' Kf.w_rEq ?sth ?_; (case sth => with_unfolding_all rfl))
  | (refine' Kf.w_rNe ?sth ?_; (case sth => with_unfolding_all rfl))
  | (refine Kf.w_tTest ?_)
  | (refine Kf.w_tB ?_)
  | (refine Kf.w_exbl ?_)
  | (refine Kf.w_exint ?_)
  | (refine Kf.w_ifS ?_)
  | (refine Kf.w_ret ?_)
  | (refine Kf.w_retN ?_)
  | (refine Kf.w_drop ?_)
  | (refine Kf.w_and ?_)
  | (refine Kf.w_or ?_)
  | (refine Kf.w_not ?_)
  | (refine Kf.w_andV ?_)
  | (refine Kf.w_orV ?_)
  | (refine Kf.w_notV ?_)
  | (refine Kf.w_if ?_)
  | (refine Kf.w_lc ?_)
  | (refine Kf.w_for ?_)
  | (refine Kf.w_rng1 ?_)
  | (refine' Kf.w_rng1x ?sth ?stg ?_; (case sth => with_unfolding_all walk_at "om"); (case stg => with_unfolding_all walk_at "om"))
  | (refine Kf.w_ilist ?_)
  | (refine Kf.w_iseq ?_)
  | (refine Kf.w_itup ?_)
  | (refine' Kf.w_ilistx ?sth ?_; (case sth => with_unfolding_all walk_at "sq"))
  | (refine' Kf.w_itupx ?sth ?_; (case sth => with_unfolding_all walk_at "sq"))
  | (refine' Kf.w_wipe ?sth ?_; (case sth => with_unfolding_all rfl))
  | (refine Kf.w_yes ?_)
  | (refine' Kf.w_isi ?sth ?stg ?_; (case sth => with_unfolding_all walk_at "ty"); (case stg => walk_at "kit"))
  | (refine Kf.w_isN ?_)
  | (refine Kf.w_notN ?_)
  | (refine Kf.w_cb ?_)
  | (refine Kf.w_nil ?_)
  | (refine Kf.w_cons ?_)
  | (refine Kf.w_tup ?_)
  | (refine Kf.w_lst ?_)
  | (refine' Kf.w_lines ?sth ?_; (case sth => with_unfolding_all rfl))
  | (refine Kf.w_call ?_)
  | (refine Kf.w_next ?_)
  | (refine Kf.w_break ?_)
  | (refine Kf.w_cont ?_)
  | (refine Kf.w_dnewK ?_)
  | (refine Kf.w_ikeys ?_)
  | (refine Kf.w_dput ?_)
  | (refine Kf.w_dget2 ?_)
  | (refine Kf.w_dget ?_)
  | (refine Kf.w_sl ?_)
  | (refine Kf.w_nopart ?_)
  | (refine Kf.w_part ?_)
  | (refine Kf.w_bm ?_)
  | (refine Kf.w_bm0 ?_)
  | (refine' Kf.w_bmL ?sth ?_; (case sth => with_unfolding_all walk_at "lk"))
  | (refine' Kf.w_cat ?sth ?stg ?stf ?_; (case sth => with_unfolding_all walk_at "lk"); (case stg => with_unfolding_all walk_at "lk"); (case stf => with_unfolding_all walk_at "om"))
  | (refine' Kf.w_slL ?sth ?_; (case sth => with_unfolding_all walk_at "sq"))
  | (refine' Kf.w_inL ?sth ?_; (case sth => with_unfolding_all walk_at "sq"))
  | (refine' Kf.w_inT ?sth ?_; (case sth => with_unfolding_all walk_at "sq"))
  | (refine' Kf.w_ninL ?sth ?_; (case sth => with_unfolding_all walk_at "sq"))
  | (refine' Kf.w_ninT ?sth ?_; (case sth => with_unfolding_all walk_at "sq"))
  | (refine' Kf.w_listof ?sth ?_; (case sth => with_unfolding_all walk_at "sq"))
  | (refine' Kf.w_tupof ?sth ?_; (case sth => with_unfolding_all walk_at "sq"))
  | (refine Kf.w_listRev ?_)
  | (refine Kf.w_gsub ?_)
  | (refine' Kf.w_ixL ?sth ?stg ?_; (case sth => with_unfolding_all walk_at "sq"); (case stg => with_unfolding_all walk_at "at"))
  | (refine' Kf.w_ixT ?sth ?stg ?_; (case sth => with_unfolding_all walk_at "sq"); (case stg => with_unfolding_all walk_at "at"))
  | (refine' Kf.w_setL ?sth ?stg ?_; (case sth => with_unfolding_all walk_at "lk"); (case stg => with_unfolding_all walk_at "ixn"))
  | (refine' Kf.w_len ?sth ?_; (case sth => with_unfolding_all walk_at "sq"))
  | (refine' Kf.w_lenT ?sth ?_; (case sth => with_unfolding_all walk_at "sq"))
  | (refine Kf.w_int1 ?_)
  | (refine Kf.w_intb ?_)
  | (refine Kf.w_abs ?_)
  | (refine Kf.w_aug rfl ?_)
  | (refine Kf.w_par ?_)
  | (refine' Kf.w_gtup ?sth ?stg ?_; (case sth => with_unfolding_all walk_at "sq"); (case stg => with_unfolding_all exact rfl))
  | (refine' Kf.w_glst ?sth ?stg ?_; (case sth => with_unfolding_all walk_at "sq"); (case stg => with_unfolding_all exact rfl))
  | (refine Kf.w_rng2 ?_)
  | (refine Kf.w_rng3 ?_)
  | (refine' Kf.w_rng2x ?sth ?stg ?stf ?ste ?_; (case sth => with_unfolding_all walk_at "om"); (case stg => with_unfolding_all walk_at "om"); (case stf => with_unfolding_all walk_at "om"); (case ste => with_unfolding_all walk_at "om"))
  | (refine Kf.w_gcons ?_)
  | (refine Kf.w_gnil ?_)
  | (refine Kf.w_gcd ?_)
  | (refine Kf.w_bits ?_)
  | (refine Kf.w_two ?_)
  | (refine Kf.w_ipI ?_)
  | (refine L2.iteT ?_)
  | (refine L2.iteF ?_)
  | (refine Kf.iteNT ?_)
  | (refine Kf.iteNF ?_)
  | (refine' Kf.ite_decT ?sth ?_; (case sth => exact rfl))
  | (refine' Kf.ite_decF ?sth ?_; (case sth => with_unfolding_all (intro e; cases e; done)))
  | (refine' Kf.ite_ndecF ?sth ?_; (case sth => exact rfl))
  | (refine' Kf.ite_ndecT ?sth ?_; (case sth => with_unfolding_all (intro e; cases e; done)))
  | (refine' Kf.ite_viT ?sth ?_; (case sth => (with_unfolding_all walk_at "om2")))
  | (refine' Kf.ite_viF ?sth ?_; (case sth => (with_unfolding_all walk_at "om2")))
  | (refine' Kf.ite_nviT ?sth ?_; (case sth => (with_unfolding_all walk_at "om2")))
  | (refine' Kf.ite_nviF ?sth ?_; (case sth => (with_unfolding_all walk_at "om2")))
  | (refine' Kf.ite_decT ?sth ?_; (case sth => (with_unfolding_all walk_at "om2")))
  | (refine' Kf.ite_decF ?sth ?_; (case sth => (with_unfolding_all walk_at "om2")))
  | with_unfolding_all walk_at "calls")
local macro_rules | `(tactic| walk_at "go") => `(tactic| repeat walk_at "st")

namespace Kf
open PySem PySem.Spec PyProof.Rows L2
open R0 (Bd)
open R1 (mg Ok Rows val)
theorem lc_k {d : Addr} {o : Obj} {kvs : List (Key × V)} {g : TG} {tt : TT} {te : TE} {vs : List Nat} {σ : L2.St} {H : Hp} {Qd : Addr → Hp → Prop} (R : Nat → List V → Hp → Prop) (hl : H d = some (.frz o (.dK kvs))) (h0 : R 0 [] H) (mono : ∀ i acc H1 H2, Ext H1 H2 → R i acc H1 → R i acc H2)
    (hs : ∀ i k v acc D H1, kvs[i]? = some (k, v) → H D = none → H1 D = some (.lst acc) → Ext H H1 → R i acc (del H1 D) → g (kV k) (wipe σ vs) H1 fun σ2 H2 => wipe σ2 vs = wipe σ vs ∧ tt σ2 H2 fun b H3 =>
      if b = true then te σ2 H3 fun y H4 => ∃ acc, H4 D = some (.lst acc) ∧ acc.length < sizeLine ∧ LcP H D R (i + 1) (upd H4 D (.lst (acc ++ [y]))) else LcP H D R (i + 1) H3)
    (hd : ∀ D acc H1, H D = none → H1 D = some (.lst acc) → Ext H H1 → R kvs.length acc H1 → Qd D H1) :
    ∀ D, H D = none → ∃ W : Nat → Nat → Hp → Prop, (∃ m, W 0 m (upd H D (.lst []))) ∧ ∀ i m H, W i m H →
      ((Itk d o kvs).stop i H ∧ Qd D H) ∨ ((Itk d o kvs).go i H ∧ ∃ Nx : Hp → Prop, (∀ H', Nx H' → ∃ m', m' < m ∧ W (i + 1) m' H') ∧ ∀ x H', (Itk d o kvs).yld i H x H' → g x (wipe σ vs) H' fun σ2 H2 => wipe σ2 vs = wipe σ vs ∧ tt σ2 H2 fun b H3 =>
        if b = true then te σ2 H3 fun y H4 => ∃ acc, H4 D = some (.lst acc) ∧ acc.length < sizeLine ∧ Nx (upd H4 D (.lst (acc ++ [y]))) else Nx H3) := fun D hD => by
  refine ⟨fun i m H' => m = kvs.length - i ∧ i ≤ kvs.length ∧ LcP H D R i H', ⟨kvs.length, by simp, Nat.zero_le _, ⟨[], upd_same, Ext.new hD, by rw [del_upd, del_new hD]; exact h0⟩⟩, ?_⟩
  rintro i m H' ⟨rfl, hi, p⟩
  have q : H' d = some (.frz o (.dK kvs)) := by
    obtain ⟨acc, h1, e1, r1⟩ := p
    exact e1.get hl (npl rfl)
  by_cases hlt : i < kvs.length
  · refine .inr ⟨⟨q, hlt⟩, LcP H D R (i + 1), fun H' p' => ⟨kvs.length - (i + 1), by omega, rfl, hlt, p'⟩, fun x H' y => ?_⟩
    obtain ⟨e, k, v, y, z⟩ := y
    subst e z
    obtain ⟨acc, h1, e1, r1⟩ := p
    exact hs i k v acc D _ y hD h1 e1 r1
  · have e : i = kvs.length := by omega
    subst e
    obtain ⟨acc, h1, e1, r1⟩ := p
    exact .inl ⟨⟨q, Nat.le_refl _⟩, hd D acc H' hD h1 e1 (mono _ _ _ _ del_sub r1)⟩
theorem val_at {F : Rows} {i : Nat} {n : Int} {r : Rat} (ok : Ok F) (e : F[i]? = some (n, r)) : val F n = r := by
  have e3 : F = F.take i ++ (n, r) :: F.drop (i + 1) := by
    obtain ⟨hi, e⟩ := List.getElem?_eq_some_iff.mp e
    rw [← e, ← List.drop_eq_getElem_cons hi, List.take_append_drop]
  rw [e3]
  exact val_mid fun y hy => by have := rows_lt ok e y hy; omega
theorem DqAll.over {H : Hp} {d : Addr} {o : HO} {v : List V} {e : List PyData} (h : DqAll H v e) (h1 : ∀ xs, H d ≠ some (.tup xs)) (h2 : ∀ xs, H d ≠ some (.lst xs)) : DqAll (upd H d o) v e :=
  DqAll.kept (fun b xs hb => upd_oth (fun z => h1 xs (by rw [← z]; exact hb)) hb) (fun b xs hb => upd_oth (fun z => h2 xs (by rw [← z]; exact hb)) hb) h
/-- short on both sides -/
def Sh (r : Rat) : Prop := r.num.natAbs < 10 ^ 55 ∧ r.den < 10 ^ 55
theorem Sh.bd {r : Rat} (h : Sh r) : Bd 183 r := ⟨Nat.lt_trans h.1 (by decide), Nat.lt_trans h.2 (by decide)⟩
theorem sq_rd (l : List Rat) : ∀ d ∈ l.map rD, isSq d := fun d hd => by
  obtain ⟨r, _, e⟩ := List.mem_map.mp hd
  subst e; trivial
section
variable {P : Program} {w : World} {K : PySem.W.Frag} {mg' : Str → Option Value} {base : Heap} {H : Hp} {Q : VK} {E : XK}
def spSho (K : PySem.W.Frag) : Sp := fun vs H Q _ => ∃ (y : V) (c : Rat) (f : Rows), vs = [y] ∧ OwnAt H y c f ∧ Ok f ∧ f.length ≤ 500 ∧ ∀ b H', Ext H H' → (b = true → Sh c ∧ ∀ x ∈ f, Sh x.2) → Q (.bl b) H'
theorem ok_short (D : Df K mg' "_law_short" s__law_short P__law_short) (b_len : mg' "len" = none) (b_abs : mg' "abs" = none) : Pr P w K mg' base "_law_short" 1 P__law_short (spSho K) := by
  refine D.ok sc__law_short (fun vs H Q E h => ?_) (fun f cdv A outer s H vs Q E hr h => ?_)
  · obtain ⟨y, c, f, rfl, _⟩ := h; rfl
  obtain ⟨y, c, F, rfl, ⟨py, cy, dy, rfl, hpy, hcy, hdy⟩, okF, hl, q⟩ := h
  have nd := sc__law_short.nd
  have hu := hu_of hr
  refine ⟨_, (pss_cons (ps_set (i := 1) nd rfl (Or.inl rfl) (pe_op op_cat (pe_lst (pa_cons (pe_ix (ix_tupK (K := K) rfl) (pv 0) pe_int (fun _ _ => rfl)) pa_nil)) (pe_lock (pe_lc (own := [("node", 2)]) rfl nd (pi_keys (pe_ix (ix_tupK (K := K) rfl) (pv 0) pe_int (fun _ _ => rfl))) (blkOk_by (N := N__law_short) (sc := defScope s__law_short) (by decide +kernel)) (fun _ _ _ _ _ => pg_name (i := 2) nd rfl (Or.inl rfl)) (fun _ _ _ _ _ => pts_nil) (fun _ _ _ _ _ => (pe_dget hu (pe_ix (ix_tupK (K := K) rfl) (pv 0) pe_int (fun _ _ => rfl)) (pv 2) (fun _ _ => rfl)))))))
      (pss_one (ps_ret (pe_cmpR op_eq (pe_callB (call_lenK (K := K) rfl) (by rfl) b_len PySem.boot_len (pa_cons (pe_lc (own := [("one", 3)]) rfl nd (pi_listK (K := K) rfl (pv 1)) (blkOk_by (N := N__law_short) (sc := defScope s__law_short) (by decide +kernel)) (fun _ _ _ _ _ => pg_name (i := 3) nd rfl (Or.inl rfl)) (fun _ _ _ _ _ => pts_one (PW.pt (pw_or (pt_cmpR op_ge (pe_callB call_abs (by rfl) b_abs (by decide +kernel) (pa_cons (pe_ix (ix_tupK (K := K) rfl) (pv 3) pe_int (fun _ _ => rfl)) pa_nil)) (pe_op op_pow pe_int pe_int) (nomark _)) (pw_or1 (pt_cmpR op_ge (pe_ix (ix_tupK (K := K) rfl) (pv 3) pe_int (fun _ _ => rfl)) (pe_op op_pow pe_int pe_int) (nomark _)))))) (fun _ _ _ _ _ => (pv 3))) pa_nil)) pe_int (nomark _))))), ?_⟩
  refine w_start (σ := [some _, none, none, none]) rfl ?_
  walk_at "go"
  intro p0 hp0
  have hpy0 := upd_old (u := .lst [cy]) hp0 hpy
  have hd0 := hdy.ext (Ext.new (o := .lst [cy]) hp0)
  have hcy0 := hcy.ext (Ext.new (o := .lst [cy]) hp0)
  have h00 : upd H p0 (.lst [cy]) p0 = some (.lst [cy]) := L2.upd_same
  have np0 : ¬ Pl (.lst [cy]) := npl (by cases cy <;> rfl)
  have hEa : Ext H (upd H p0 (.lst [cy])) := Ext.new hp0
  generalize upd H p0 (.lst [cy]) = H0 at *
  obtain ⟨ky, hky, hly⟩ := hd0
  refine w_lockE hky trivial fun od => ?_
  have hpy1 := upd_oth (u := .frz od (.dK ky)) (ne_tk hpy0 hky) hpy0
  have hR1 := hly.over (o := .frz od (.dK ky)) (dk_nt hky) (dk_nl hky)
  have hcy1 := hcy0.over (o := .frz od (.dK ky)) (dk_nt hky) (dk_nl hky)
  have h01 := upd_oth (u := .frz od (.dK ky)) (ne_of h00 hky (fun z => nomatch z)) h00
  have hF1 : upd H0 dy (.frz od (.dK ky)) dy = some (.frz od (.dK ky)) := L2.upd_same
  have back : ∀ H', Ext (upd H0 dy (.frz od (.dK ky))) H' → Ext H0 (upd H' dy (.dK ky)) := fun H' e => e.unlock hky (npl rfl)
  generalize upd H0 dy (.frz od (.dK ky)) = H1 at *
  walk_at "go"
  refine ⟨dy, od, rfl, .inl ⟨ky, hF1, ?_⟩⟩
  have lky := hly.len
  refine lc_k (R := fun i acc Hd => DqAll Hd acc (((F.take i).map Prod.snd).map rD)) hF1 .nil (fun _ _ _ _ e h => h.ext e) ?_ ?_
  · rintro i k v acc D2 H2 hk hD2 hacc hE hall
    obtain ⟨n, r, eF, rfl, _⟩ := hR1.el hk
    have il := (List.getElem?_eq_some_iff.mp eF).1
    have hn : n ∈ F.map (·.1) := List.mem_map.mpr ⟨(n, r), List.mem_of_getElem? eF, rfl⟩
    have ekn : kV (Sum.inl n) = V.int n := rfl
    have al : acc.length ≤ 1000 := by rw [hall.len, List.length_map, List.length_map, List.length_take]; omega
    rw [ekn]
    walk_at "go"
    refine w_dgetF (l := F) ⟨ky, .inr ⟨od, hE.get hF1 (npl rfl)⟩, hR1.ext hE⟩ hn fun v hv => ?_
    rw [val_at okF eF] at hv
    have npa := hall.npl (sq_rd _)
    refine LcP.put hD2 hacc npa hE Ext.refl al ?_
    rw [rows_take eF, List.map_append, List.map_append]
    obtain ⟨pu, rfl, hpu⟩ := hv.pair
    exact hall.snoc (Dq.of_pair (del_at hpu (ne_of hpu hacc (fun z => nomatch z))))
  · rintro D2 acc H2 hD2 hacc hE hall
    have hF2 := hE.get hF1 (npl rfl)
    refine ⟨hF2, ?_⟩
    rw [lky, List.take_length] at hall
    have npa := hall.npl (sq_rd _)
    have h02 := upd_oth (u := .dK ky) (ne_of (hE.get h01 np0) hF2 (fun z => nomatch z)) (hE.get h01 np0)
    have hacc2 := upd_oth (u := .dK ky) (ne_of hacc hF2 (fun z => nomatch z)) hacc
    have hall2 := hall.over (o := .dK ky) (fz_nt hF2) (fz_nl hF2)
    have hcy2 := (hcy1.ext hE).over (o := .dK ky) (fz_nt hF2) (fz_nl hF2)
    have hEb := hEa.trans (back _ hE)
    generalize upd H2 dy (.dK ky) = H3 at *
    have al := hall2.len
    rw [List.length_map, List.length_map] at al
    refine w_cat h02 hacc2 (by rw [al]; simp; omega) fun p3 hp3 => ?_
    have hall3 : DqAll (upd H3 p3 (.lst ([cy] ++ acc))) (cy :: acc) ((c :: F.map Prod.snd).map rD) := (DqAll.cons hcy2 hall2).ext (Ext.new hp3)
    have npn : ¬ Pl (.lst (cy :: acc)) := hall3.npl (sq_rd _)
    have hS3 : SqL K (upd H3 p3 (.lst ([cy] ++ acc))) p3 (cy :: acc) := SqL.of L2.upd_same
    have hEc := hEb.newer (o := .lst ([cy] ++ acc)) hp3
    generalize upd H3 p3 (.lst ([cy] ++ acc)) = H4 at *
    walk_at "go"
    refine lc_l (K := K) (R := fun i acc Hd => (∀ x ∈ acc, ∃ b, x = .ref b) ∧ acc.length ≤ i ∧ (acc = [] → ∀ r ∈ (c :: F.map Prod.snd).take i, Sh r)) hS3 npn ?_ (fun _ _ _ _ e h => h) ?_ ?_
    · exact ⟨fun x h => (by simp at h), Nat.zero_le _, fun _ r h => (by simp at h)⟩
    · rintro i y acc2 D2' H5 hy hD2' hacc5 hE5 ⟨ha1, ha2, ha3⟩
      obtain ⟨r, er, hr⟩ := hall3.get hy
      rw [List.getElem?_map] at er
      obtain ⟨r, e1, rfl⟩ := Option.map_eq_some_iff.mp er
      obtain ⟨py', rfl, hpy'⟩ := (hr.ext hE5).pair
      have il := (List.getElem?_eq_some_iff.mp hy).1
      have npa2 : ¬ Pl (.lst acc2) := npl_nobl fun x hx b e => by
        obtain ⟨b', z⟩ := ha1 x hx
        rw [z] at e; cases e
      have hlen : acc2.length ≤ 1000 := by rw [List.length_cons] at il; omega
      have put : ∃ acc, H5 D2' = some (.lst acc) ∧ acc.length < sizeLine ∧ LcP H4 D2' (fun i acc Hd => (∀ x ∈ acc, ∃ b, x = .ref b) ∧ acc.length ≤ i ∧ (acc = [] → ∀ r ∈ (c :: F.map Prod.snd).take i, Sh r)) (i + 1) (upd H5 D2' (.lst (acc ++ [.ref py']))) := by
        refine LcP.put hD2' hacc5 npa2 hE5 Ext.refl hlen ⟨fun x hx => ?_, by rw [List.length_append]; simp; omega, fun z => by simp at z⟩
        rcases List.mem_append.mp hx with z | z
        · exact ha1 x z
        · rw [List.mem_singleton] at z; exact ⟨_, z⟩
      walk_at "go"
      refine ite_d (fun c1 => ?_) (fun c1 => ?_)
      · walk_at "go"
        exact put
      · walk_at "go"
        refine ite_d (fun c2 => ?_) (fun c2 => ?_)
        · walk_at "go"
          exact put
        · walk_at "go"
          refine LcP.skip hacc5 npa2 hE5 Ext.refl ⟨ha1, by omega, fun z r' hr' => ?_⟩
          rw [List.take_add_one, e1] at hr'
          rcases List.mem_append.mp hr' with u | u
          · exact ha3 z r' u
          · have : r' = r := by simpa using u
            subst this
            rw [show (10 : Int) ^ Int.toNat 55 = 10000000000000000000000000000000000000000000000000000000 by decide +kernel] at c1 c2
            exact ⟨by omega, by omega⟩
    · rintro D3 acc2 H5 hD3 hacc5 hE5 ⟨ha1, ha2, ha3⟩
      walk_at "go"
      refine q _ _ (hEc.trans hE5) fun hb => ?_
      have e0 : acc2 = [] := by
        have := V.int.inj (of_decide_eq_true hb)
        exact List.length_eq_zero_iff.mp (by omega)
      have al2 := hall3.len
      rw [List.length_map] at al2
      have hz := ha3 e0
      rw [al2, List.take_length] at hz
      exact ⟨hz c (by simp), fun x hx => hz x.2 (by rw [List.mem_cons]; exact .inr (List.mem_map.mpr ⟨x, hx, rfl⟩))⟩
end
end Kf

end
section
set_option Elab.async false
set_option linter.all false
set_option maxRecDepth 100000
set_option maxHeartbeats 4000000
local macro_rules | `(tactic| walk_at "npl") => `(tactic| first | exact Kf.npl rfl | exact Kf.npl_ints _ | exact Kf.npl_one _ _ | exact Kf.npl_refs _ | assumption)
local macro_rules | `(tactic| walk_at "nn") => `(tactic| first
  | assumption
  | (refine' Kf.Ext.non ?nne ?nnh; (case nne => assumption); (case nnh => walk_at "nn")))
local macro_rules | `(tactic| walk_at "ext") => `(tactic| first
  | assumption
  | exact Kf.Ext.refl
  | (refine' Kf.Ext.newer ?exa ?exn; (case exn => assumption); (case exa => walk_at "ext"))
  | (refine' Kf.Ext.own ?exa ?exn; (case exn => walk_at "nn"); (case exa => walk_at "ext"))
  | (refine' Kf.Ext.trans ?exa ?exb; (case exb => assumption); (case exa => walk_at "ext")))
local macro_rules | `(tactic| walk_at "pool") => `(tactic| first
  | assumption
  | (refine' Kf.PoolAt.ext ?plh ?ple; (case plh => assumption); (case ple => walk_at "ext"))
  | (refine' Kf.PoolAt.upd ?plh ?plo ?pln; (case plo => assumption); (case pln => walk_at "npl"); (case plh => walk_at "pool")))
local macro_rules | `(tactic| walk_at "lk") => `(tactic| first
  | assumption
  | exact L2.upd_same
  | (refine' Kf.upd_old ?lkn ?lkh; (case lkn => assumption); (case lkh => walk_at "lk"))
  | (refine' Kf.upd_oth ?lkn ?lkh; (case lkn => (first | assumption | (apply Ne.symm; assumption))); (case lkh => walk_at "lk"))
  | (refine' Kf.Ext.get ?lke ?lkh ?lkn; (case lke => assumption); (case lkh => walk_at "lk"); (case lkn => walk_at "npl"))
  | (refine' L2.Same.at ?lke ?lkh; (case lke => assumption); (case lkh => walk_at "lk")))
local macro_rules | `(tactic| walk_at "sq") => `(tactic| first
  | assumption
  | (refine' L2.SqL.of ?sqh; (case sqh => walk_at "lk"))
  | (refine' L2.SqT.of ?sqh; (case sqh => walk_at "lk"))
  | (refine' Kf.Ext.seqL ?sqe ?sqh ?sqn; (case sqh => assumption); (case sqe => walk_at "ext"); (case sqn => walk_at "npl"))
  | (refine' Kf.Ext.seqT ?sqe ?sqh; (case sqh => assumption); (case sqe => walk_at "ext")))
local macro_rules | `(tactic| walk_at "at") => `(tactic| first | exact L2.atI_nat (j := 0) rfl | exact L2.atI_nat (j := 1) rfl | exact L2.atI_nat (j := 2) rfl | exact L2.atI_nat (j := 3) rfl | exact L2.atI_nat (j := 4) rfl | assumption)
local macro_rules | `(tactic| walk_at "ixn") => `(tactic| first | exact Kf.ixN_nat (j := 0) rfl | exact Kf.ixN_nat (j := 1) rfl | exact Kf.ixN_nat (j := 2) rfl | exact Kf.ixN_nat (j := 3) rfl | assumption)
local macro_rules | `(tactic| walk_at "set") => `(tactic| (first | (simp only [List.set_cons_succ, List.set_cons_zero]; rfl) | rfl))
local macro_rules | `(tactic| walk_at "om") => `(tactic| first | decide | omega | (simp only [List.length_map, List.length_cons, List.length_nil] at *; omega))
local macro_rules | `(tactic| walk_at "calls") => `(tactic| first
  | (with_reducible refine' Kf.call_take ?clp ?cla ?clb ?clq; (case clp => walk_at "pool"); (case cla => walk_at "om"); (case clb => walk_at "om"); intro r H' hE h0 h1)
  | (with_reducible refine' Kf.call_pool ?cls ?cla ?clq; (case cls => walk_at "sq"); (case cla => walk_at "om"); intro p H' hE hN hP)
  | (with_reducible refine' Kf.call_turn ?cls ?clp ?cla ?clq; (case cls => walk_at "sq"); (case clp => walk_at "pool"); (case cla => walk_at "om"); intro u H' hE hP))
local macro_rules | `(tactic| walk_at "side") => `(tactic| first
  | exact Kf.cmul_fmod (by decide) (by decide)
  | exact rfl
  | decide
  | omega
  | assumption
  | (refine ⟨?_, ?_⟩ <;> decide)
  | (refine ⟨?_, ?_, ?_⟩ <;> decide)
  | (refine ⟨?_, ?_⟩ <;> omega)
  | (refine Or.inl ⟨?_, ?_⟩ <;> decide)
  | (refine Or.inr ⟨?_, ?_⟩ <;> decide)
  | (refine Or.inl ⟨?_, ?_⟩ <;> omega)
  | (refine Or.inr ⟨?_, ?_⟩ <;> omega))
local macro_rules | `(tactic| walk_at "kit") => `(tactic| first | exact Kf.isi_int_int | exact Kf.isi_int_bool | exact Kf.isi_int_str | exact Kf.isi_int_list | exact Kf.isi_int_tuple | exact Kf.isi_bool_int | exact Kf.isi_bool_bool | exact Kf.isi_bool_str | exact Kf.isi_bool_list | exact Kf.isi_bool_tuple | exact Kf.isi_str_int | exact Kf.isi_str_bool | exact Kf.isi_str_str | exact Kf.isi_str_list | exact Kf.isi_str_tuple | exact Kf.isi_non_list | exact Kf.isi_non_tuple | exact Kf.isi_list_list | exact Kf.isi_list_tuple | exact Kf.isi_tuple_list | exact Kf.isi_tuple_tuple | exact Kf.isi_dict_dict)
local macro_rules | `(tactic| walk_at "ty") => `(tactic| first
  | exact L2.TyX.base (L2.TyOf.int _)
  | exact L2.TyX.base (L2.TyOf.bl _)
  | exact L2.TyX.base (L2.TyOf.str _)
  | exact L2.TyX.base L2.TyOf.non
  | (refine' L2.TyX.base (L2.TyOf.lst ?tyh); (case tyh => walk_at "lk"))
  | (refine' L2.TyX.base (L2.TyOf.tup ?tyh); (case tyh => walk_at "lk"))
  | (refine' L2.TyX.base (L2.TyOf.dK ?tyh); (case tyh => walk_at "lk")))
local macro_rules | `(tactic| walk_at "om2") => `(tactic| first | assumption | decide | omega)
local macro_rules | `(tactic| walk_at "st") => `(tactic| with_reducible first
  | (refine Kf.w_var rfl ?_)
  | (refine Kf.w_c ?_)
  | (refine Kf.w_seq ?_)
  | (refine Kf.w_asg ?_)
  | (refine' Kf.w_gname ?sth ?_; (case sth => with_unfolding_all walk_at "set"))
  | (refine Kf.w_op ?_)
  | (refine Kf.w_un ?_)
  | (refine Kf.w_rU ?_)
  | (refine Kf.w_rI0 ?_)
  | (refine' Kf.w_rI ?sth ?_; (case sth => with_unfolding_all walk_at "side"))
  | (refine' Kf.w_rEq ?sth ?_; (case sth => with_unfolding_all rfl))
  | (refine' Kf.w_rNe ?sth ?_; (case sth => with_unfolding_all rfl))
  | (refine Kf.w_tTest ?_)
  | (refine Kf.w_tB ?_)
  | (refine Kf.w_exbl ?_)
  | (refine Kf.w_exint ?_)
  | (refine Kf.w_ifS ?_)
  | (refine Kf.w_ret ?_)
  | (refine Kf.w_retN ?_)
  | (refine Kf.w_drop ?_)
  | (refine Kf.w_and ?_)
  | (refine Kf.w_or ?_)
  | (refine Kf.w_not ?_)
  | (refine Kf.w_andV ?_)
  | (refine Kf.w_orV ?_)
  | (refine Kf.w_notV ?_)
  | (refine Kf.w_if ?_)
  | (refine Kf.w_lc ?_)
  | (refine Kf.w_for ?_)
  | (refine Kf.w_rng1 ?_)
  | (refine' Kf.w_rng1x ?sth ?stg ?_; (case sth => with_unfolding_all walk_at "om"); (case stg => with_unfolding_all walk_at "om"))
  | (refine Kf.w_ilist ?_)
  | (refine Kf.w_iseq ?_)
  | (refine Kf.w_itup ?_)
  | (refine' Kf.w_ilistx ?sth ?_; (case sth => with_unfolding_all walk_at "sq"))
  | (refine' Kf.w_itupx ?sth ?_; (case sth => with_unfolding_all walk_at "sq"))
  | (refine' Kf.w_wipe ?sth ?_; (case sth => with_unfolding_all rfl))
  | (refine Kf.w_yes ?_)
  | (refine' Kf.w_isi ?sth ?stg ?_; (case sth => with_unfolding_all walk_at "ty"); (case stg => walk_at "kit"))
  | (refine Kf.w_isN ?_)
  | (refine Kf.w_notN ?_)
  | (refine Kf.w_cb ?_)
  | (refine Kf.w_nil ?_)
  | (refine Kf.w_cons ?_)
  | (refine Kf.w_tup ?_)
  | (refine Kf.w_lst ?_)
  | (refine' Kf.w_lines ?sth ?_; (case sth => with_unfolding_all rfl))
  | (refine Kf.w_call ?_)
  | (refine Kf.w_next ?_)
  | (refine Kf.w_break ?_)
  | (refine Kf.w_cont ?_)
  | (refine Kf.w_dnewK ?_)
  | (refine Kf.w_ikeys ?_)
  | (refine Kf.w_dput ?_)
  | (refine Kf.w_dget2 ?_)
  | (refine Kf.w_dget ?_)
  | (refine Kf.w_sl ?_)
  | (refine Kf.w_nopart ?_)
  | (refine Kf.w_part ?_)
  | (refine Kf.w_bm ?_)
  | (refine Kf.w_bm0 ?_)
  | (refine' Kf.w_bmL ?sth ?_; (case sth => with_unfolding_all walk_at "lk"))
  | (refine' Kf.w_cat ?sth ?stg ?stf ?_; (case sth => with_unfolding_all walk_at "lk"); (case stg => with_unfolding_all walk_at "lk"); (case stf => with_unfolding_all walk_at "om"))
  | (refine' Kf.w_slL ?sth ?_; (case sth => with_unfolding_all walk_at "sq"))
  | (refine' Kf.w_inL ?sth ?_; (case sth => with_unfolding_all walk_at "sq"))
  | (refine' Kf.w_inT ?sth ?_; (case sth => with_unfolding_all walk_at "sq"))
  | (refine' Kf.w_ninL ?sth ?_; (case sth => with_unfolding_all walk_at "sq"))
  | (refine' Kf.w_ninT ?sth ?_; (case sth => with_unfolding_all walk_at "sq"))
  | (refine' Kf.w_listof ?sth ?_; (case sth => with_unfolding_all walk_at "sq"))
  | (refine' Kf.w_tupof ?sth ?_; (case sth => with_unfolding_all walk_at "sq"))
  | (refine Kf.w_listRev ?_)
  | (refine Kf.w_gsub ?_)
  | (refine' Kf.w_ixL ?sth ?stg ?_; (case sth => with_unfolding_all walk_at "sq"); (case stg => with_unfolding_all walk_at "at"))
  | (refine' Kf.w_ixT ?sth ?stg ?_; (case sth => with_unfolding_all walk_at "sq"); (case stg => with_unfolding_all walk_at "at"))
  | (refine' Kf.w_setL ?sth ?stg ?_; (case sth => with_unfolding_all walk_at "lk"); (case stg => with_unfolding_all walk_at "ixn"))
  | (refine' Kf.w_len ?sth ?_; (case sth => with_unfolding_all walk_at "sq"))
  | (refine' Kf.w_lenT ?sth ?_; (case sth => with_unfolding_all walk_at "sq"))
  | (refine Kf.w_int1 ?_)
  | (refine Kf.w_intb ?_)
  | (refine Kf.w_abs ?_)
  | (refine Kf.w_aug rfl ?_)
  | (refine Kf.w_par ?_)
  | (refine' Kf.w_gtup ?sth ?stg ?_; (case sth => with_unfolding_all walk_at "sq"); (case stg => with_unfolding_all exact rfl))
  | (refine' Kf.w_glst ?sth ?stg ?_; (case sth => with_unfolding_all walk_at "sq"); (case stg => with_unfolding_all exact rfl))
  | (refine Kf.w_rng2 ?_)
  | (refine Kf.w_rng3 ?_)
  | (refine' Kf.w_rng2x ?sth ?stg ?stf ?ste ?_; (case sth => with_unfolding_all walk_at "om"); (case stg => with_unfolding_all walk_at "om"); (case stf => with_unfolding_all walk_at "om"); (case ste => with_unfolding_all walk_at "om"))
  | (refine Kf.w_gcons ?_)
  | (refine Kf.w_gnil ?_)
  | (refine Kf.w_gcd ?_)
  | (refine Kf.w_bits ?_)
  | (refine Kf.w_two ?_)
  | (refine Kf.w_ipI ?_)
  | (refine L2.iteT ?_)
  | (refine L2.iteF ?_)
  | (refine Kf.iteNT ?_)
  | (refine Kf.iteNF ?_)
  | (refine' Kf.ite_decT ?sth ?_; (case sth => exact rfl))
  | (refine' Kf.ite_decF ?sth ?_; (case sth => with_unfolding_all (intro e; cases e; done)))
  | (refine' Kf.ite_ndecF ?sth ?_; (case sth => exact rfl))
  | (refine' Kf.ite_ndecT ?sth ?_; (case sth => with_unfolding_all (intro e; cases e; done)))
  | (refine' Kf.ite_viT ?sth ?_; (case sth => (with_unfolding_all walk_at "om2")))
  | (refine' Kf.ite_viF ?sth ?_; (case sth => (with_unfolding_all walk_at "om2")))
  | (refine' Kf.ite_nviT ?sth ?_; (case sth => (with_unfolding_all walk_at "om2")))
  | (refine' Kf.ite_nviF ?sth ?_; (case sth => (with_unfolding_all walk_at "om2")))
  | (refine' Kf.ite_decT ?sth ?_; (case sth => (with_unfolding_all walk_at "om2")))
  | (refine' Kf.ite_decF ?sth ?_; (case sth => (with_unfolding_all walk_at "om2")))
  | with_unfolding_all walk_at "calls")
local macro_rules | `(tactic| walk_at "go") => `(tactic| repeat walk_at "st")

namespace Kf
open PySem PySem.Spec PyProof.Rows L2
open R0 (Bd)
open R1 (mg Ok Rows val)
abbrev s__law_ratio : Stmt := topS 23
abbrev N__law_ratio : List Str := ["pool", "pieces", "top"]
abbrev P__law_ratio : List Str := ["pool", "pieces"]
theorem sc__law_ratio : FnScope N__law_ratio P__law_ratio (defScope s__law_ratio) := ⟨rfl, rfl, rfl, by decide +kernel, rfl, by decide +kernel, by decide +kernel⟩
abbrev s__law_factor : Stmt := topS 24
abbrev N__law_factor : List Str := ["pool", "long", "way"]
abbrev P__law_factor : List Str := ["pool", "long"]
theorem sc__law_factor : FnScope N__law_factor P__law_factor (defScope s__law_factor) := ⟨rfl, rfl, rfl, by decide +kernel, rfl, by decide +kernel, by decide +kernel⟩
abbrev s__law_nodes : Stmt := topS 25
abbrev N__law_nodes : List Str := ["pool", "nodes", "node", "k"]
abbrev P__law_nodes : List Str := ["pool"]
theorem sc__law_nodes : FnScope N__law_nodes P__law_nodes (defScope s__law_nodes) := ⟨rfl, rfl, rfl, by decide +kernel, rfl, by decide +kernel, by decide +kernel⟩
abbrev s__law_values : Stmt := topS 39
abbrev N__law_values : List Str := ["pool", "nodes", "pieces", "values", "node"]
abbrev P__law_values : List Str := ["pool", "nodes", "pieces"]
theorem sc__law_values : FnScope N__law_values P__law_values (defScope s__law_values) := ⟨rfl, rfl, rfl, by decide +kernel, rfl, by decide +kernel, by decide +kernel⟩
theorem pow20 {n : Nat} (h : n ≤ 3) : (2 : Int) ^ (20 * n) ≤ 1152921504606846976 := by
  rcases (show n = 0 ∨ n = 1 ∨ n = 2 ∨ n = 3 by omega) with rfl | rfl | rfl | rfl <;> decide
theorem pow8000 {n : Nat} (h : n ≤ 8000) : 2 ^ n ≤ 2 ^ 8000 := Nat.pow_le_pow_right (by decide) h
theorem put_key {l : Rows} {n : Int} {r : Rat} : n ∈ (R1.put l n r).map (·.1) := by
  unfold R1.put
  split
  · rename_i h
    obtain ⟨x, hx, e⟩ := R1.any_iff.mp h
    exact List.mem_map.mpr ⟨(x.1, r), List.mem_map.mpr ⟨x, hx, by rw [if_pos e]⟩, e⟩
  · simp
theorem put_keys {l : Rows} {n m : Int} {r : Rat} (h : m ∈ l.map (·.1)) : m ∈ (R1.put l n r).map (·.1) := by
  obtain ⟨x, hx, e⟩ := List.mem_map.mp h
  unfold R1.put
  split
  · refine List.mem_map.mpr ⟨_, List.mem_map.mpr ⟨x, hx, rfl⟩, ?_⟩
    split <;> exact e
  · exact List.mem_map.mpr ⟨x, by simp [hx], e⟩
theorem put_all {l : Rows} {n : Int} {r : Rat} {x : Int × Rat} (h : x ∈ R1.put l n r) : x ∈ l ∨ x.2 = r := by
  unfold R1.put at h
  split at h
  · obtain ⟨y, hy, e⟩ := List.mem_map.mp h
    split at e
    · subst e; exact .inr rfl
    · subst e; exact .inl hy
  · rcases List.mem_append.mp h with z | z
    · exact .inl z
    · rw [List.mem_singleton] at z; subst z; exact .inr rfl
section
variable {P : Program} {w : World} {K : PySem.W.Frag} {mg' : Str → Option Value} {base : Heap} {H : Hp} {Q : VK} {E : XK}
def spRtL (K : PySem.W.Frag) : Sp := fun vs H Q _ => ∃ (v : V) (n : Int), vs = [v, .int n] ∧ PoolAt H v ∧ 0 ≤ n ∧ n ≤ 3 ∧ ∀ u H' a, Ext H H' → Dq H' u (rD a) → Bd 70 a → Q u H'
theorem call_rtl {v : V} {n : Int} (hP : PoolAt H v) (n0 : 0 ≤ n) (n3 : n ≤ 3) (q : ∀ u H' a, Ext H H' → Dq H' u (rD a) → Bd 70 a → Q u H') : spRtL K ([v, .int n] ++ []) H Q E := ⟨v, n, rfl, hP, n0, n3, q⟩
theorem ok_ratl (D : Df K mg' "_law_ratio" s__law_ratio P__law_ratio) (p__law_take : Pr P w K mg' base "_law_take" 1 P__law_take (spTake K)) (p__law_lowest : Pr P w K mg' base "_law_lowest" 1 P__law_lowest (spLow K)) (p__law_long : Pr P w K mg' base "_law_long" 2 P__law_long (spLong K)) : Pr P w K mg' base "_law_ratio" 3 P__law_ratio (spRtL K) := by
  refine D.ok sc__law_ratio (fun vs H Q E h => ?_) (fun f cdv A outer s H vs Q E hr h => ?_)
  · obtain ⟨v, n, rfl, _⟩ := h; rfl
  obtain ⟨v, n, rfl, hP, n0, n3, q⟩ := h
  have nd := sc__law_ratio.nd
  refine ⟨_, (pss_cons (ps_if (pt_cmpR op_eq (pv 1) pe_int (nomark _)) (pss_one (ps_ret (pe_callP p__law_lowest hr (pa_cons (pe_op op_sub (pe_callP p__law_take hr (pa_cons (pv 0) (pa_cons pe_int pa_nil))) pe_int) (pa_cons (pe_op op_add pe_int (pe_callP p__law_take hr (pa_cons (pv 0) (pa_cons pe_int pa_nil)))) pa_nil))))) pss_nil)
      (pss_cons (ps_set (i := 2) nd rfl (Or.inl rfl) (pe_op op_mul (pe_callP p__law_long hr (pa_cons (pv 0) (pa_cons (pv 1) pa_nil))) (pe_op op_sub pe_int (pe_op op_mul pe_int (pe_callP p__law_take hr (pa_cons (pv 0) (pa_cons pe_int pa_nil)))))))
      (pss_one (ps_ret (pe_callP p__law_lowest hr (pa_cons (pv 2) (pa_cons (pe_op op_add pe_int (pe_callP p__law_long hr (pa_cons (pv 0) (pa_cons (pv 1) pa_nil)))) pa_nil))))))), ?_⟩
  refine w_start (σ := [some _, some _, none]) rfl ?_
  walk_at "go"
  refine ite_vi (fun cz => ?_) (fun cz => ?_)
  · walk_at "go"
    rename_i r1 H1 hE1 r10 r11 r2 H2 hE2 r20 r21
    refine call_low (by omega) (Nat.lt_of_lt_of_le (m := 2 ^ 4) (by omega) (pow8000 (by decide))) fun u H3 hE3 hu => ?_
    exact q u H3 _ ((hE1.trans hE2).trans hE3) hu (Bd.up (Bd.div (n := 4) (by omega) (by omega) (by omega)) (by decide))
  · obtain ⟨m, rfl⟩ : ∃ m : Nat, n = (m : Int) := ⟨n.toNat, by omega⟩
    have pm := pow20 (n := m) (by omega)
    walk_at "go"
    refine ⟨v, m, rfl, hP, by omega, fun r H1 hE1 r0 r1 => ?_⟩
    have hP1 := hP.ext hE1
    walk_at "go"
    rename_i t H2 hE2 t0 t1
    have hP2 := hP1.ext hE2
    walk_at "go"
    refine ⟨v, m, rfl, hP2, by omega, fun r' H3 hE3 r0' r1' => ?_⟩
    have e1 : (r * (1 - 2 * t)).natAbs = r.natAbs := by
      rcases (show t = 0 ∨ t = 1 by omega) with rfl | rfl
      · simp
      · rw [Int.natAbs_mul]; simp
    walk_at "go"
    refine call_low (by omega) (Nat.lt_of_lt_of_le (m := 2 ^ 61) (by omega) (pow8000 (by decide))) fun u H4 hE4 hu => ?_
    exact q u H4 _ (((hE1.trans hE2).trans hE3).trans hE4) hu (Bd.up (Bd.div (n := 61) (by rw [e1]; omega) (by omega) (by omega)) (by decide))
def spFac (K : PySem.W.Frag) : Sp := fun vs H Q _ => ∃ (v : V) (b : Bool), vs = [v, .bl b] ∧ PoolAt H v ∧ ∀ u H' a, Ext H H' → Dq H' u (rD a) → Bd 70 a → Q u H'
theorem ok_factor (D : Df K mg' "_law_factor" s__law_factor P__law_factor) (b_int : mg' "int" = none) (p__law_take : Pr P w K mg' base "_law_take" 1 P__law_take (spTake K)) (p__law_ratio : Pr P w K mg' base "_law_ratio" 3 P__law_ratio (spRtL K)) : Pr P w K mg' base "_law_factor" 4 P__law_factor (spFac K) := by
  refine D.ok sc__law_factor (fun vs H Q E h => ?_) (fun f cdv A outer s H vs Q E hr h => ?_)
  · obtain ⟨v, b, rfl, _⟩ := h; rfl
  obtain ⟨v, b, rfl, hP, q⟩ := h
  have nd := sc__law_factor.nd
  refine ⟨_, (pss_cons (ps_set (i := 2) nd rfl (Or.inl rfl) (pe_callP p__law_take hr (pa_cons (pv 0) (pa_cons pe_int pa_nil))))
      (pss_cons (ps_if (pt_cmpR op_lt (pv 2) pe_int (nomark _)) (pss_one (ps_ret (pe_ix (ix_tupK (K := K) rfl) (pe_tup (pa_cons (pe_tup (pa_cons pe_int (pa_cons pe_int pa_nil))) (pa_cons (pe_tup (pa_cons (pe_un un_neg pe_int) (pa_cons pe_int pa_nil))) pa_nil))) (pv 2) (fun _ _ => rfl)))) pss_nil)
      (pss_one (ps_ret (pe_callP p__law_ratio hr (pa_cons (pv 0) (pa_cons (pe_op op_mul pe_int (pe_callTy call_int1 (by rfl) b_int (by decide +kernel) (pa_cons (pe_or (pe_cmpR op_eq (pv 2) pe_int (nomark _)) (pe_one (pe_and (pv 1) (pe_one (pe_cmpR op_lt (pv 2) pe_int (nomark _)))))) pa_nil))) pa_nil))))))), ?_⟩
  refine w_start (σ := [some _, some _, none]) rfl ?_
  walk_at "go"
  rename_i t H1 hE1 t0 t1
  have hP1 := hP.ext hE1
  walk_at "go"
  refine ite_d (fun cz => ?_) (fun cz => ?_)
  · walk_at "go"
    intro p1 hp1
    walk_at "go"
    intro p2 hp2
    walk_at "go"
    intro p3 hp3
    have h1 := upd_old (u := .tup [.ref p1, .ref p2]) hp3 (upd_old (u := .tup [.int (-1), .int 1]) hp2 (L2.upd_same (H := H1) (a := p1) (o := .tup [.int 0, .int 1])))
    have h2 := upd_old (u := .tup [.ref p1, .ref p2]) hp3 (L2.upd_same (H := upd H1 p1 (.tup [.int 0, .int 1])) (a := p2) (o := .tup [.int (-1), .int 1]))
    have hE3 : Ext H (upd (upd (upd H1 p1 (.tup [.int 0, .int 1])) p2 (.tup [.int (-1), .int 1])) p3 (.tup [.ref p1, .ref p2])) := ((hE1.newer hp1).newer hp2).newer hp3
    walk_at "go"
    rcases (show t = 0 ∨ t = 1 by omega) with rfl | rfl
    · walk_at "go"
      exact q _ _ 0 hE3 (zero_D h1) ⟨by decide, by decide⟩
    · walk_at "go"
      exact q _ _ (-1) hE3 (Dq.of_pair h2) ⟨by decide, by decide⟩
  · have fin : ∀ n : Int, n = 0 ∨ n = 2 → spRtL K ([v, .int n] ++ []) H1 Q E := fun n hn => call_rtl hP1 (by omega) (by omega) fun u H' a hE hu hb => q u H' a (hE1.trans hE) hu hb
    walk_at "go"
    refine ite_vi (fun c1 => ?_) (fun c1 => ?_)
    · walk_at "go"
      exact fin _ (by decide)
    · walk_at "go"
      refine ite_b (fun c2 => ?_) (fun c2 => ?_)
      · subst c2
        walk_at "go"
        by_cases c3 : t < 7
        · rw [decide_eq_true c3]
          walk_at "go"
          exact fin _ (by decide)
        · rw [decide_eq_false c3]
          walk_at "go"
          exact fin _ (by decide)
      · subst c2
        walk_at "go"
        exact fin _ (by decide)
def spNod (K : PySem.W.Frag) : Sp := fun vs H Q _ => ∃ (v : V), vs = [v] ∧ PoolAt H v ∧ ∀ (p : Addr) (H' : Hp) (ns : List Int), Ext H H' → H' p = some (.lst (ns.map V.int)) → ns.Pairwise (· < ·) → ns.length = 12 → Q (.ref p) H'
theorem ok_nodes (D : Df K mg' "_law_nodes" s__law_nodes P__law_nodes) (b_range : mg' "range" = none) (p__law_take : Pr P w K mg' base "_law_take" 1 P__law_take (spTake K)) : Pr P w K mg' base "_law_nodes" 2 P__law_nodes (spNod K) := by
  refine D.ok sc__law_nodes (fun vs H Q E h => ?_) (fun f cdv A outer s H vs Q E hr h => ?_)
  · obtain ⟨v, rfl, _⟩ := h; rfl
  obtain ⟨v, rfl, hP, q⟩ := h
  have nd := sc__law_nodes.nd
  refine ⟨_, (pss_cons (ps_set (i := 1) nd rfl (Or.inl rfl) (pe_lst pa_nil))
      (pss_cons (ps_set (i := 2) nd rfl (Or.inl rfl) pe_int)
      (pss_cons (ps_for PassesOwn.never rfl (pi_range1 (by rfl) b_range (pa_cons pe_int pa_nil)) (pg_name (i := 3) nd rfl (Or.inl rfl)) (pss_cons (ps_set (i := 2) nd rfl (Or.inl rfl) (pe_op op_add (pe_op op_add (pv 2) pe_int) (pe_callP p__law_take hr (pa_cons (pv 0) (pa_cons (pe_ix (ix_tupK (K := K) rfl) (pe_tup (pa_cons pe_int (pa_cons pe_int (pa_cons pe_int (pa_cons pe_int pa_nil))))) (pe_callP p__law_take hr (pa_cons (pv 0) (pa_cons pe_int pa_nil))) (fun _ _ => rfl)) pa_nil)))))
      (pss_one (ps_expr (pe_bmK (K := K) rfl PySem.F.plainAttrs_list PySem.F.slot_list_append PySem.F.type_list_append mt_append (pv 1) (pa_cons (pv 2) pa_nil))))))
      (pss_one (ps_ret (pv 1)))))), ?_⟩
  refine w_start (σ := [some _, none, none, none]) rfl ?_
  walk_at "go"
  intro D0 hD0
  walk_at "go"
  refine for_range (fun i σ H' => ∃ (ns : List Int) (m : Int) (y : Option V), σ = [some v, some (.ref D0), some (.int m), y] ∧ Ext H H' ∧ H' D0 = some (.lst (ns.map V.int)) ∧ ns.Pairwise (· < ·) ∧ (∀ n ∈ ns, n ≤ m) ∧ ns.length = i)
    ⟨[], 0, _, rfl, Ext.new hD0, L2.upd_same, .nil, by simp, rfl⟩ ?_ ?_
  · rintro i σ H1 hi ⟨ns, m, y, rfl, hE, hD1, hs, hm, hl⟩
    have hP1 := hP.ext hE
    walk_at "go"
    intro p1 hp1
    have hD2 := upd_old (u := .tup [.int 1, .int 3, .int 40, .int 330]) hp1 hD1
    have hP2 := hP1.ext (Ext.new (o := .tup [.int 1, .int 3, .int 40, .int 330]) hp1)
    have ht2 : upd H1 p1 (.tup [.int 1, .int 3, .int 40, .int 330]) p1 = some (.tup [.int 1, .int 3, .int 40, .int 330]) := L2.upd_same
    have hE2 : Ext H (upd H1 p1 (.tup [.int 1, .int 3, .int 40, .int 330])) := hE.newer hp1
    generalize upd H1 p1 (.tup [.int 1, .int 3, .int 40, .int 330]) = H2 at *
    walk_at "go"
    rename_i t H3 hE3 t0 t1
    have ht3 := hE3.get ht2 (npl rfl)
    have hD3 := hE3.get hD2 (npl_ints _)
    have hP3 := hP2.ext hE3
    obtain ⟨z, hz, z0, z1⟩ : ∃ z, atI [V.int 1, .int 3, .int 40, .int 330] t = some (.int z) ∧ 0 < z ∧ z < 1000 := by
      rcases (show t = 0 ∨ t = 1 ∨ t = 2 ∨ t = 3 by omega) with rfl | rfl | rfl | rfl
      · exact ⟨1, rfl, by decide, by decide⟩
      · exact ⟨3, rfl, by decide, by decide⟩
      · exact ⟨40, rfl, by decide, by decide⟩
      · exact ⟨330, rfl, by decide, by decide⟩
    refine w_ixT (SqT.of ht3) hz ?_
    walk_at "go"
    rename_i u H4 hE4 u0 u1
    have hD4 := hE4.get hD3 (npl_ints _)
    walk_at "go"
    refine w_append hD4 (small1000 (by rw [List.length_map]; omega)) ?_
    walk_at "go"
    refine ⟨ns ++ [m + 1 + u], m + 1 + u, _, rfl, ((hE2.trans hE3).trans hE4).own hD0, ?_, ?_, ?_, by rw [List.length_append, hl]; rfl⟩
    · rw [List.map_append]; exact L2.upd_same
    · exact List.pairwise_append.mpr ⟨hs, by simp, fun a ha b hb => by rw [List.mem_singleton] at hb; have := hm a ha; omega⟩
    · intro n hn
      rcases List.mem_append.mp hn with z | z
      · have := hm n z; omega
      · rw [List.mem_singleton] at z; omega
  · rintro σ H1 ⟨ns, m, y, rfl, hE, hD1, hs, hm, hl⟩
    walk_at "go"
    exact q D0 H1 ns hE hD1 hs hl
def spVls (K : PySem.W.Frag) : Sp := fun vs H Q _ => ∃ (v : V) (a : Addr) (ns : List Int) (k : Int), vs = [v, .ref a, .int k] ∧ PoolAt H v ∧ H a = some (.lst (ns.map V.int)) ∧ ns.length = 12 ∧ 0 ≤ k ∧ k ≤ 3 ∧ ∀ d H' l, Ext H H' → DkAt H' d l → (∀ n ∈ ns, n ∈ l.map (·.1)) → (∀ x ∈ l, Bd 70 x.2) → l.length ≤ 14 → R1.Nd l → Q (.ref d) H'
theorem ok_values (D : Df K mg' "_law_values" s__law_values P__law_values) (p__law_take : Pr P w K mg' base "_law_take" 1 P__law_take (spTake K)) (p__law_ratio : Pr P w K mg' base "_law_ratio" 3 P__law_ratio (spRtL K)) : Pr P w K mg' base "_law_values" 4 P__law_values (spVls K) := by
  refine D.ok sc__law_values (fun vs H Q E h => ?_) (fun f cdv A outer s H vs Q E hr h => ?_)
  · obtain ⟨v, a, ns, k, rfl, _⟩ := h; rfl
  obtain ⟨v, a, ns, k, rfl, hP, ha, hl, k0, k3, q⟩ := h
  have nd := sc__law_values.nd
  have hu := hu_of hr
  refine ⟨_, (pss_cons (ps_set (i := 3) nd rfl (Or.inl rfl) pe_dnewK)
      (pss_cons (ps_for PassesOwn.never rfl (pi_listK (K := K) rfl (pe_op op_cat (pv 1) (pe_lst (pa_cons (pe_op op_add (pe_ix (ix_listK (K := K) rfl) (pv 1) pe_int (fun _ _ => rfl)) pe_int) (pa_cons (pe_op op_add (pe_ix (ix_listK (K := K) rfl) (pv 1) pe_int (fun _ _ => rfl)) pe_int) pa_nil))))) (pg_name (i := 4) nd rfl (Or.inl rfl)) (pss_one (ps_dput hu (pv 3) (pv 4) (pe_callP p__law_ratio hr (pa_cons (pv 0) (pa_cons (pe_op op_mul (pv 2) (pe_callP p__law_take hr (pa_cons (pv 0) (pa_cons pe_int pa_nil)))) pa_nil))) rfl)))
      (pss_one (ps_ret (pv 3))))), ?_⟩
  refine w_start (σ := [some _, some _, some _, none, none]) rfl ?_
  walk_at "go"
  intro d hd
  have ha1 := upd_old (u := .dK []) hd ha
  have hat : atI (ns.map V.int) 11 = some (.int (ns.getD 11 0)) := atI_ints (k := 11) (by decide) (by rw [List.length_map]; omega)
  walk_at "go"
  intro p1 hp1
  have ha2 := upd_old (u := .lst [.int (ns.getD 11 0 + 1), .int (ns.getD 11 0 + 7)]) hp1 ha1
  refine w_cat ha2 L2.upd_same (by rw [List.length_map, hl]; simp) fun p2 hp2 => ?_
  have exs : ns.map V.int ++ [V.int (ns.getD 11 0 + 1), V.int (ns.getD 11 0 + 7)] = (ns ++ [ns.getD 11 0 + 1, ns.getD 11 0 + 7]).map V.int := by rw [List.map_append]; rfl
  rw [exs]
  have hl2 : (ns ++ [ns.getD 11 0 + 1, ns.getD 11 0 + 7]).length = 14 := by rw [List.length_append, hl]; rfl
  have hsub : ∀ n ∈ ns, n ∈ ns ++ [ns.getD 11 0 + 1, ns.getD 11 0 + 7] := fun n hn => List.mem_append_left _ hn
  have hE2 : Ext H (upd (upd (upd H d (.dK [])) p1 (.lst [.int (ns.getD 11 0 + 1), .int (ns.getD 11 0 + 7)])) p2 (.lst ((ns ++ [ns.getD 11 0 + 1, ns.getD 11 0 + 7]).map V.int))) := ((Ext.new hd).newer hp1).newer hp2
  have hd2 : upd (upd (upd H d (.dK [])) p1 (.lst [.int (ns.getD 11 0 + 1), .int (ns.getD 11 0 + 7)])) p2 (.lst ((ns ++ [ns.getD 11 0 + 1, ns.getD 11 0 + 7]).map V.int)) d = some (.dK []) := upd_old hp2 (upd_old hp1 L2.upd_same)
  have hx2 : upd (upd (upd H d (.dK [])) p1 (.lst [.int (ns.getD 11 0 + 1), .int (ns.getD 11 0 + 7)])) p2 (.lst ((ns ++ [ns.getD 11 0 + 1, ns.getD 11 0 + 7]).map V.int)) p2 = some (.lst ((ns ++ [ns.getD 11 0 + 1, ns.getD 11 0 + 7]).map V.int)) := L2.upd_same
  generalize upd (upd (upd H d (.dK [])) p1 (.lst [.int (ns.getD 11 0 + 1), .int (ns.getD 11 0 + 7)])) p2 (.lst ((ns ++ [ns.getD 11 0 + 1, ns.getD 11 0 + 7]).map V.int)) = H2 at *
  generalize ns ++ [ns.getD 11 0 + 1, ns.getD 11 0 + 7] = xs at *
  have hdp : p2 ≠ d := (ne_of hx2 hd2 (fun z => nomatch z))
  walk_at "go"
  refine for_list (K := K) (a := p2) (xs := xs.map V.int) (fun i σ H' => ∃ (y : Option V) (kv : List (Key × V)) (l : Rows), σ = [some v, some (.ref a), some (.int k), some (.ref d), y] ∧ Ext H H' ∧ H' p2 = some (.lst (xs.map V.int)) ∧ H' d = some (.dK kv) ∧ DkL H' kv l ∧ (∀ n ∈ xs.take i, n ∈ l.map (·.1)) ∧ (∀ x ∈ l, Bd 70 x.2) ∧ l.length ≤ i ∧ R1.Nd l)
    ⟨_, [], [], rfl, hE2, hx2, hd2, trivial, by simp, by simp, Nat.le_refl _, by simp [R1.Nd]⟩ (fun i σ H' _ ⟨_, _, _, _, _, e, _⟩ => SqL.of e) ?_ ?_
  · rintro i y σ H3 hy ⟨y1, kv, l, rfl, hE3, hx3, hd3, hk3, hm3, hb3, hl3, hn3⟩
    rw [List.getElem?_map] at hy
    cases en : xs[i]? with
    | none => rw [en] at hy; cases hy
    | some n =>
      rw [en] at hy
      cases hy
      have il := (List.getElem?_eq_some_iff.mp en).1
      have hP3 := hP.ext hE3
      walk_at "go"
      rename_i t H4 hE4 t0 t1
      have hP4 := hP3.ext hE4
      have kt : 0 ≤ k * t ∧ k * t ≤ 3 := by
        rcases (show t = 0 ∨ t = 1 by omega) with rfl | rfl
        · simp
        · simp; omega
      walk_at "go"
      refine call_rtl hP4 kt.1 kt.2 fun u H5 r hE5 hu5 hb5 => ?_
      have hd5 := hE5.get (hE4.get hd3 (npl rfl)) (npl rfl)
      have hx5 := hE5.get (hE4.get hx3 (npl_ints _)) (npl_ints _)
      have hk5 := (hk3.ext hE4).ext hE5
      have kl := hk5.len
      walk_at "go"
      refine ⟨d, _, rfl, DPut.k (k := .inl n) hd5 (small1000 (by omega)), ?_⟩
      refine ⟨_, putK kv (.inl n) u, R1.put l n r, rfl, ((hE3.trans hE4).trans hE5).own hd, upd_oth hdp hx5, L2.upd_same, (hk5.put hu5).over (dk_nt hd5) (dk_nl hd5), ?_, ?_, ?_, R1.put_nd hn3⟩
      · intro m hm
        rw [List.take_add_one, en] at hm
        rcases List.mem_append.mp hm with z | z
        · exact put_keys (hm3 m z)
        · have : m = n := by simpa using z
          subst this
          exact put_key
      · intro x hx
        rcases put_all hx with z | z
        · exact hb3 x z
        · rw [z]; exact hb5
      · have := put_len (l := l) (n := n) (r := r); omega
  · rintro σ H3 ⟨y1, kv, l, rfl, hE3, hx3, hd3, hk3, hm3, hb3, hl3, hn3⟩
    rw [List.length_map] at hm3 hl3
    rw [List.take_length] at hm3
    walk_at "go"
    exact q d H3 l hE3 ⟨kv, hd3, hk3⟩ (fun n hn => hm3 n (hsub n hn)) hb3 (by omega) hn3
end
end Kf

end
section
set_option Elab.async false
set_option linter.all false
set_option maxRecDepth 100000
set_option maxHeartbeats 4000000
local macro_rules | `(tactic| walk_at "npl") => `(tactic| first | exact Kf.npl rfl | exact Kf.npl_ints _ | exact Kf.npl_one _ _ | exact Kf.npl_refs _ | assumption)
local macro_rules | `(tactic| walk_at "nn") => `(tactic| first
  | assumption
  | (refine' Kf.Ext.non ?nne ?nnh; (case nne => assumption); (case nnh => walk_at "nn")))
local macro_rules | `(tactic| walk_at "ext") => `(tactic| first
  | assumption
  | exact Kf.Ext.refl
  | (refine' Kf.Ext.newer ?exa ?exn; (case exn => assumption); (case exa => walk_at "ext"))
  | (refine' Kf.Ext.own ?exa ?exn; (case exn => walk_at "nn"); (case exa => walk_at "ext"))
  | (refine' Kf.Ext.trans ?exa ?exb; (case exb => assumption); (case exa => walk_at "ext")))
local macro_rules | `(tactic| walk_at "pool") => `(tactic| first
  | assumption
  | (refine' Kf.PoolAt.ext ?plh ?ple; (case plh => assumption); (case ple => walk_at "ext"))
  | (refine' Kf.PoolAt.upd ?plh ?plo ?pln; (case plo => assumption); (case pln => walk_at "npl"); (case plh => walk_at "pool")))
local macro_rules | `(tactic| walk_at "lk") => `(tactic| first
  | assumption
  | exact L2.upd_same
  | (refine' Kf.upd_old ?lkn ?lkh; (case lkn => assumption); (case lkh => walk_at "lk"))
  | (refine' Kf.upd_oth ?lkn ?lkh; (case lkn => (first | assumption | (apply Ne.symm; assumption))); (case lkh => walk_at "lk"))
  | (refine' Kf.Ext.get ?lke ?lkh ?lkn; (case lke => assumption); (case lkh => walk_at "lk"); (case lkn => walk_at "npl"))
  | (refine' L2.Same.at ?lke ?lkh; (case lke => assumption); (case lkh => walk_at "lk")))
local macro_rules | `(tactic| walk_at "sq") => `(tactic| first
  | assumption
  | (refine' L2.SqL.of ?sqh; (case sqh => walk_at "lk"))
  | (refine' L2.SqT.of ?sqh; (case sqh => walk_at "lk"))
  | (refine' Kf.Ext.seqL ?sqe ?sqh ?sqn; (case sqh => assumption); (case sqe => walk_at "ext"); (case sqn => walk_at "npl"))
  | (refine' Kf.Ext.seqT ?sqe ?sqh; (case sqh => assumption); (case sqe => walk_at "ext")))
local macro_rules | `(tactic| walk_at "at") => `(tactic| first | exact L2.atI_nat (j := 0) rfl | exact L2.atI_nat (j := 1) rfl | exact L2.atI_nat (j := 2) rfl | exact L2.atI_nat (j := 3) rfl | exact L2.atI_nat (j := 4) rfl | assumption)
local macro_rules | `(tactic| walk_at "ixn") => `(tactic| first | exact Kf.ixN_nat (j := 0) rfl | exact Kf.ixN_nat (j := 1) rfl | exact Kf.ixN_nat (j := 2) rfl | exact Kf.ixN_nat (j := 3) rfl | assumption)
local macro_rules | `(tactic| walk_at "set") => `(tactic| (first | (simp only [List.set_cons_succ, List.set_cons_zero]; rfl) | rfl))
local macro_rules | `(tactic| walk_at "om") => `(tactic| first | decide | omega | (simp only [List.length_map, List.length_cons, List.length_nil] at *; omega))
local macro_rules | `(tactic| walk_at "calls") => `(tactic| first
  | (with_reducible refine' Kf.call_take ?clp ?cla ?clb ?clq; (case clp => walk_at "pool"); (case cla => walk_at "om"); (case clb => walk_at "om"); intro r H' hE h0 h1)
  | (with_reducible refine' Kf.call_pool ?cls ?cla ?clq; (case cls => walk_at "sq"); (case cla => walk_at "om"); intro p H' hE hN hP)
  | (with_reducible refine' Kf.call_turn ?cls ?clp ?cla ?clq; (case cls => walk_at "sq"); (case clp => walk_at "pool"); (case cla => walk_at "om"); intro u H' hE hP))
local macro_rules | `(tactic| walk_at "side") => `(tactic| first
  | exact Kf.cmul_fmod (by decide) (by decide)
  | exact rfl
  | decide
  | omega
  | assumption
  | (refine ⟨?_, ?_⟩ <;> decide)
  | (refine ⟨?_, ?_, ?_⟩ <;> decide)
  | (refine ⟨?_, ?_⟩ <;> omega)
  | (refine Or.inl ⟨?_, ?_⟩ <;> decide)
  | (refine Or.inr ⟨?_, ?_⟩ <;> decide)
  | (refine Or.inl ⟨?_, ?_⟩ <;> omega)
  | (refine Or.inr ⟨?_, ?_⟩ <;> omega))
local macro_rules | `(tactic| walk_at "kit") => `(tactic| first | exact Kf.isi_int_int | exact Kf.isi_int_bool | exact Kf.isi_int_str | exact Kf.isi_int_list | exact Kf.isi_int_tuple | exact Kf.isi_bool_int | exact Kf.isi_bool_bool | exact Kf.isi_bool_str | exact Kf.isi_bool_list | exact Kf.isi_bool_tuple | exact Kf.isi_str_int | exact Kf.isi_str_bool | exact Kf.isi_str_str | exact Kf.isi_str_list | exact Kf.isi_str_tuple | exact Kf.isi_non_list | exact Kf.isi_non_tuple | exact Kf.isi_list_list | exact Kf.isi_list_tuple | exact Kf.isi_tuple_list | exact Kf.isi_tuple_tuple | exact Kf.isi_dict_dict)
local macro_rules | `(tactic| walk_at "ty") => `(tactic| first
  | exact L2.TyX.base (L2.TyOf.int _)
  | exact L2.TyX.base (L2.TyOf.bl _)
  | exact L2.TyX.base (L2.TyOf.str _)
  | exact L2.TyX.base L2.TyOf.non
  | (refine' L2.TyX.base (L2.TyOf.lst ?tyh); (case tyh => walk_at "lk"))
  | (refine' L2.TyX.base (L2.TyOf.tup ?tyh); (case tyh => walk_at "lk"))
  | (refine' L2.TyX.base (L2.TyOf.dK ?tyh); (case tyh => walk_at "lk")))
local macro_rules | `(tactic| walk_at "om2") => `(tactic| first | assumption | decide | omega)
local macro_rules | `(tactic| walk_at "st") => `(tactic| with_reducible first
  | (refine Kf.w_var rfl ?_)
  | (refine Kf.w_c ?_)
  | (refine Kf.w_seq ?_)
  | (refine Kf.w_asg ?_)
  | (refine' Kf.w_gname ?sth ?_; (case sth => with_unfolding_all walk_at "set"))
  | (refine Kf.w_op ?_)
  | (refine Kf.w_un ?_)
  | (refine Kf.w_rU ?_)
  | (refine Kf.w_rI0 ?_)
  | (refine' Kf.w_rI ?sth ?_; (case sth => with_unfolding_all walk_at "side"))
  | (refine' Kf.w_rEq ?sth ?_; (case sth => with_unfolding_all rfl))
  | (refine' Kf.w_rNe ?sth ?_; (case sth => with_unfolding_all rfl))
  | (refine Kf.w_tTest ?_)
  | (refine Kf.w_tB ?_)
  | (refine Kf.w_exbl ?_)
  | (refine Kf.w_exint ?_)
  | (refine Kf.w_ifS ?_)
  | (refine Kf.w_ret ?_)
  | (refine Kf.w_retN ?_)
  | (refine Kf.w_drop ?_)
  | (refine Kf.w_and ?_)
  | (refine Kf.w_or ?_)
  | (refine Kf.w_not ?_)
  | (refine Kf.w_andV ?_)
  | (refine Kf.w_orV ?_)
  | (refine Kf.w_notV ?_)
  | (refine Kf.w_if ?_)
  | (refine Kf.w_lc ?_)
  | (refine Kf.w_for ?_)
  | (refine Kf.w_rng1 ?_)
  | (refine' Kf.w_rng1x ?sth ?stg ?_; (case sth => with_unfolding_all walk_at "om"); (case stg => with_unfolding_all walk_at "om"))
  | (refine Kf.w_ilist ?_)
  | (refine Kf.w_iseq ?_)
  | (refine Kf.w_itup ?_)
  | (refine' Kf.w_ilistx ?sth ?_; (case sth => with_unfolding_all walk_at "sq"))
  | (refine' Kf.w_itupx ?sth ?_; (case sth => with_unfolding_all walk_at "sq"))
  | (refine' Kf.w_wipe ?sth ?_; (case sth => with_unfolding_all rfl))
  | (refine Kf.w_yes ?_)
  | (refine' Kf.w_isi ?sth ?stg ?_; (case sth => with_unfolding_all walk_at "ty"); (case stg => walk_at "kit"))
  | (refine Kf.w_isN ?_)
  | (refine Kf.w_notN ?_)
  | (refine Kf.w_cb ?_)
  | (refine Kf.w_nil ?_)
  | (refine Kf.w_cons ?_)
  | (refine Kf.w_tup ?_)
  | (refine Kf.w_lst ?_)
  | (refine' Kf.w_lines ?sth ?_; (case sth => with_unfolding_all rfl))
  | (refine Kf.w_call ?_)
  | (refine Kf.w_next ?_)
  | (refine Kf.w_break ?_)
  | (refine Kf.w_cont ?_)
  | (refine Kf.w_dnewK ?_)
  | (refine Kf.w_ikeys ?_)
  | (refine Kf.w_dput ?_)
  | (refine Kf.w_dget2 ?_)
  | (refine Kf.w_dget ?_)
  | (refine Kf.w_sl ?_)
  | (refine Kf.w_nopart ?_)
  | (refine Kf.w_part ?_)
  | (refine Kf.w_bm ?_)
  | (refine Kf.w_bm0 ?_)
  | (refine' Kf.w_bmL ?sth ?_; (case sth => with_unfolding_all walk_at "lk"))
  | (refine' Kf.w_cat ?sth ?stg ?stf ?_; (case sth => with_unfolding_all walk_at "lk"); (case stg => with_unfolding_all walk_at "lk"); (case stf => with_unfolding_all walk_at "om"))
  | (refine' Kf.w_slL ?sth ?_; (case sth => with_unfolding_all walk_at "sq"))
  | (refine' Kf.w_inL ?sth ?_; (case sth => with_unfolding_all walk_at "sq"))
  | (refine' Kf.w_inT ?sth ?_; (case sth => with_unfolding_all walk_at "sq"))
  | (refine' Kf.w_ninL ?sth ?_; (case sth => with_unfolding_all walk_at "sq"))
  | (refine' Kf.w_ninT ?sth ?_; (case sth => with_unfolding_all walk_at "sq"))
  | (refine' Kf.w_listof ?sth ?_; (case sth => with_unfolding_all walk_at "sq"))
  | (refine' Kf.w_tupof ?sth ?_; (case sth => with_unfolding_all walk_at "sq"))
  | (refine Kf.w_listRev ?_)
  | (refine Kf.w_gsub ?_)
  | (refine' Kf.w_ixL ?sth ?stg ?_; (case sth => with_unfolding_all walk_at "sq"); (case stg => with_unfolding_all walk_at "at"))
  | (refine' Kf.w_ixT ?sth ?stg ?_; (case sth => with_unfolding_all walk_at "sq"); (case stg => with_unfolding_all walk_at "at"))
  | (refine' Kf.w_setL ?sth ?stg ?_; (case sth => with_unfolding_all walk_at "lk"); (case stg => with_unfolding_all walk_at "ixn"))
  | (refine' Kf.w_len ?sth ?_; (case sth => with_unfolding_all walk_at "sq"))
  | (refine' Kf.w_lenT ?sth ?_; (case sth => with_unfolding_all walk_at "sq"))
  | (refine Kf.w_int1 ?_)
  | (refine Kf.w_intb ?_)
  | (refine Kf.w_abs ?_)
  | (refine Kf.w_aug rfl ?_)
  | (refine Kf.w_par ?_)
  | (refine' Kf.w_gtup ?sth ?stg ?_; (case sth => with_unfolding_all walk_at "sq"); (case stg => with_unfolding_all exact rfl))
  | (refine' Kf.w_glst ?sth ?stg ?_; (case sth => with_unfolding_all walk_at "sq"); (case stg => with_unfolding_all exact rfl))
  | (refine Kf.w_rng2 ?_)
  | (refine Kf.w_rng3 ?_)
  | (refine' Kf.w_rng2x ?sth ?stg ?stf ?ste ?_; (case sth => with_unfolding_all walk_at "om"); (case stg => with_unfolding_all walk_at "om"); (case stf => with_unfolding_all walk_at "om"); (case ste => with_unfolding_all walk_at "om"))
  | (refine Kf.w_gcons ?_)
  | (refine Kf.w_gnil ?_)
  | (refine Kf.w_gcd ?_)
  | (refine Kf.w_bits ?_)
  | (refine Kf.w_two ?_)
  | (refine Kf.w_ipI ?_)
  | (refine L2.iteT ?_)
  | (refine L2.iteF ?_)
  | (refine Kf.iteNT ?_)
  | (refine Kf.iteNF ?_)
  | (refine' Kf.ite_decT ?sth ?_; (case sth => exact rfl))
  | (refine' Kf.ite_decF ?sth ?_; (case sth => with_unfolding_all (intro e; cases e; done)))
  | (refine' Kf.ite_ndecF ?sth ?_; (case sth => exact rfl))
  | (refine' Kf.ite_ndecT ?sth ?_; (case sth => with_unfolding_all (intro e; cases e; done)))
  | (refine' Kf.ite_viT ?sth ?_; (case sth => (with_unfolding_all walk_at "om2")))
  | (refine' Kf.ite_viF ?sth ?_; (case sth => (with_unfolding_all walk_at "om2")))
  | (refine' Kf.ite_nviT ?sth ?_; (case sth => (with_unfolding_all walk_at "om2")))
  | (refine' Kf.ite_nviF ?sth ?_; (case sth => (with_unfolding_all walk_at "om2")))
  | (refine' Kf.ite_decT ?sth ?_; (case sth => (with_unfolding_all walk_at "om2")))
  | (refine' Kf.ite_decF ?sth ?_; (case sth => (with_unfolding_all walk_at "om2")))
  | with_unfolding_all walk_at "calls")
local macro_rules | `(tactic| walk_at "go") => `(tactic| repeat walk_at "st")

namespace Kf
open PySem PySem.Spec PyProof.Rows L2
open R0 (Bd)
open R1 (mg Ok Rows val)
abbrev s__law_added : Stmt := topS 32
abbrev N__law_added : List Str := ["rows", "told", "own"]
abbrev P__law_added : List Str := ["rows", "told", "own"]
theorem sc__law_added : FnScope N__law_added P__law_added (defScope s__law_added) := ⟨rfl, rfl, rfl, by decide +kernel, rfl, by decide +kernel, by decide +kernel⟩
abbrev s__law_sum_added : Stmt := topS 33
abbrev N__law_sum_added : List Str := ["rows", "one", "two", "own"]
abbrev P__law_sum_added : List Str := ["rows", "one", "two"]
theorem sc__law_sum_added : FnScope N__law_sum_added P__law_sum_added (defScope s__law_sum_added) := ⟨rfl, rfl, rfl, by decide +kernel, rfl, by decide +kernel, by decide +kernel⟩
abbrev s__law_widest : Stmt := topS 34
abbrev N__law_widest : List Str := ["pool", "rows", "many", "one", "two"]
abbrev P__law_widest : List Str := ["pool", "rows"]
theorem sc__law_widest : FnScope N__law_widest P__law_widest (defScope s__law_widest) := ⟨rfl, rfl, rfl, by decide +kernel, rfl, by decide +kernel, by decide +kernel⟩
abbrev s__law_scaled_added : Stmt := topS 35
abbrev N__law_scaled_added : List Str := ["rows", "a", "one", "own"]
abbrev P__law_scaled_added : List Str := ["rows", "a", "one"]
theorem sc__law_scaled_added : FnScope N__law_scaled_added P__law_scaled_added (defScope s__law_scaled_added) := ⟨rfl, rfl, rfl, by decide +kernel, rfl, by decide +kernel, by decide +kernel⟩
theorem len_sub : ∀ {a b : List Int}, a.Pairwise (· < ·) → b.Pairwise (· < ·) → (∀ n ∈ a, n ∈ b) → a.length ≤ b.length
  | [], _, _, _, _ => Nat.zero_le _
  | x :: a, [], _, _, h => absurd (h x (by simp)) (by simp)
  | x :: a, y :: b, ha, hb, h => by
    have h1 := List.pairwise_cons.mp ha
    have h2 := List.pairwise_cons.mp hb
    by_cases e : x = y
    · subst e
      have := len_sub h1.2 h2.2 fun n hn => by
        rcases List.mem_cons.mp (h n (by simp [hn])) with z | z
        · have := h1.1 n hn; omega
        · exact z
      simp only [List.length_cons]; omega
    · have hx : y < x := by
        rcases List.mem_cons.mp (h x (by simp)) with z | z
        · exact absurd z e
        · exact h2.1 x z
      have := len_sub ha h2.2 fun n hn => by
        rcases List.mem_cons.mp (h n hn) with z | z
        · rcases List.mem_cons.mp hn with u | u
          · omega
          · have := h1.1 n u; omega
        · exact z
      simp only [List.length_cons] at this ⊢; omega
/-- a form over the nodes -/
structure G (ns : List Int) (c : Rat) (f : Rows) : Prop where
  ok : Ok f
  bc : Bd 190 c
  br : ∀ x ∈ f, Bd 190 x.2 ∧ x.1 ∈ ns
theorem G.len {ns : List Int} {c : Rat} {f : Rows} (g : G ns c f) (hs : ns.Pairwise (· < ·)) (hl : ns.length = 12) : f.length ≤ 12 := by
  have := len_sub (List.pairwise_map.mpr g.ok.srt) hs fun n hn => by
    obtain ⟨x, hx, rfl⟩ := List.mem_map.mp hn
    exact (g.br x hx).2
  rw [List.length_map, hl] at this
  exact this
theorem G.fok {ns : List Int} {c : Rat} {f : Rows} (g : G ns c f) (hs : ns.Pairwise (· < ·)) (hl : ns.length = 12) : FOk c f :=
  ⟨g.ok, g.bc.up (by decide), fun x hx => (g.br x hx).1.up (by decide), by have := g.len hs hl; omega⟩
theorem G.sum {ns : List Int} {c d : Rat} {f g : Rows} (a : G ns c f) (b : G ns d g) (h : Sh (c + d) ∧ ∀ x ∈ mg f g, Sh x.2) : G ns (c + d) (mg f g) :=
  ⟨R1.mg_ok a.ok b.ok, h.1.bd.up (by decide), fun x hx => ⟨(h.2 x hx).bd.up (by decide), by
    rcases R1.mg_mem f g x hx with ⟨y, hy, e⟩ | ⟨y, hy, e⟩
    · rw [← e]; exact (a.br y hy).2
    · rw [← e]; exact (b.br y hy).2⟩⟩
theorem G.scl {ns : List Int} {a c : Rat} {f : Rows} (g : G ns c f) (h : Sh (a * c) ∧ ∀ x ∈ R1.sc a f, Sh x.2) : G ns (a * c) (R1.sc a f) :=
  ⟨R1.sc_ok g.ok, h.1.bd.up (by decide), fun x hx => ⟨(h.2 x hx).bd.up (by decide), by
    unfold R1.sc at hx
    split at hx
    · cases hx
    · obtain ⟨y, hy, rfl⟩ := List.mem_map.mp hx
      exact (g.br y hy).2⟩⟩
theorem bd_ng {n : Nat} {r : Rat} (h : Bd n r) : Bd n (-1 * r) := by
  have e : -1 * r = -r := by grind
  rw [e]
  exact ⟨by rw [Rat.neg_num, Int.natAbs_neg]; exact h.1, by rw [Rat.neg_den]; exact h.2⟩
theorem G.neg {ns : List Int} {c : Rat} {f : Rows} (g : G ns c f) : G ns (-1 * c) (R1.sc (-1) f) :=
  ⟨R1.sc_ok g.ok, bd_ng g.bc, fun x hx => by
    unfold R1.sc at hx
    split at hx
    · cases hx
    · obtain ⟨y, hy, rfl⟩ := List.mem_map.mp hx
      exact ⟨bd_ng (g.br y hy).1, (g.br y hy).2⟩⟩
theorem G.base {ns : List Int} {a : Rat} {n : Int} (h : n ∈ ns) (b : Bd 70 a) : G ns (a * 0) (R1.sc a [(n, 1)]) := by
  have e : a * 0 = 0 := by grind
  have ok1 : Ok [(n, (1 : Rat))] := ⟨by simp, fun x hx => by rw [List.mem_singleton] at hx; subst hx; show (1 : Rat) ≠ 0; decide⟩
  refine ⟨R1.sc_ok ok1, by rw [e]; exact ⟨by decide, by decide⟩, fun x hx => ?_⟩
  unfold R1.sc at hx
  split at hx
  · cases hx
  · obtain ⟨y, hy, rfl⟩ := List.mem_map.mp hx
    rw [List.mem_singleton] at hy; subst hy
    have e1 : a * (1 : Rat) = a := by grind
    exact ⟨by dsimp only; rw [e1]; exact b.up (by decide), h⟩
theorem sm_rd (n : Nat) (r : Rat) : Sm (n + 1) (rD r) := ⟨by show 2 ≤ 1000; decide, fun d hd => by
  simp only [List.mem_cons, List.not_mem_nil, or_false] at hd
  rcases hd with e | e <;> subst e <;> (cases n <;> trivial)⟩
theorem sm_form {c : Rat} {f : Rows} (h : f.length ≤ 1000) : Sm 4 (fD c f) := ⟨by show 2 ≤ 1000; decide, fun d hd => by
  simp only [List.mem_cons, List.not_mem_nil, or_false] at hd
  rcases hd with e | e
  · subst e; exact sm_rd 2 c
  · subst e
    refine ⟨by rw [List.length_map]; exact h, fun d hd => ?_⟩
    obtain ⟨x, _, rfl⟩ := List.mem_map.mp hd
    refine ⟨by show 2 ≤ 1000; decide, fun d hd => ?_⟩
    simp only [List.mem_cons, List.not_mem_nil, or_false] at hd
    rcases hd with e | e
    · subst e; trivial
    · subst e; exact sm_rd 0 x.2⟩
theorem G.sm {ns : List Int} {c : Rat} {f : Rows} (g : G ns c f) (hs : ns.Pairwise (· < ·)) (hl : ns.length = 12) : Sm 4 (fD c f) := sm_form (by have := g.len hs hl; omega)
/-- a row: the told form, the own one -/
def RowAt (ns : List Int) (H : Hp) (v : V) : Prop := ∃ (p : Addr) (told own : V) (c : Rat) (f : Rows), v = .ref p ∧ H p = some (.tup [told, own]) ∧ Dq H told (fD c f) ∧ OwnAt H own c f ∧ G ns c f
theorem RowAt.ext {ns : List Int} {H H' : Hp} {v : V} (h : RowAt ns H v) (e : Ext H H') : RowAt ns H' v := by
  obtain ⟨p, t, o, c, f, rfl, h1, h2, h3, h4⟩ := h
  exact ⟨p, t, o, c, f, rfl, e.get h1 (npl rfl), h2.ext e, h3.ext e, h4⟩
theorem RowAt.ref {ns : List Int} {H : Hp} {v : V} (h : RowAt ns H v) : ∃ p, v = .ref p := by
  obtain ⟨p, t, o, c, f, rfl, _⟩ := h; exact ⟨p, rfl⟩
/-- the list of the rows -/
def RowsAt (ns : List Int) (H : Hp) (r : Addr) (k : Nat) : Prop := ∃ vs, H r = some (.lst vs) ∧ vs.length = k ∧ ∀ v ∈ vs, RowAt ns (del H r) v
theorem rows_npl {ns : List Int} {H : Hp} {vs : List V} (h : ∀ v ∈ vs, RowAt ns H v) : ¬ Pl (.lst vs) := npl_nobl fun x hx b e => by
  obtain ⟨p, z⟩ := (h x hx).ref
  rw [z] at e; cases e
theorem RowsAt.ext {ns : List Int} {H H' : Hp} {r : Addr} {k : Nat} (h : RowsAt ns H r k) (e : Ext H H') : RowsAt ns H' r k := by
  obtain ⟨vs, h1, h2, h3⟩ := h
  exact ⟨vs, e.get h1 (rows_npl h3), h2, fun v hv => (h3 v hv).ext (Ext.del e)⟩
theorem OwnAt.delD {H : Hp} {r : Addr} {v : V} {c : Rat} {f : Rows} {vs : List V} (h : OwnAt H v c f) (hr : H r = some (.lst vs)) (he : ∀ {e d}, Dq H e (rD d) → Dq (del H r) e (rD d)) : OwnAt (del H r) v c f := by
  obtain ⟨p, cv, d, rfl, h1, h2, ⟨kvs, h3, h4⟩⟩ := h
  refine ⟨p, cv, d, rfl, del_at h1 (ne_of h1 hr (fun z => nomatch z)), he h2, kvs, del_at h3 (ne_of h3 hr (fun z => nomatch z)), ?_⟩
  clear h3
  induction kvs generalizing f with
  | nil => cases f <;> exact h4
  | cons kv kvs ih => cases f with
    | nil => exact h4
    | cons x f => exact ⟨h4.1, he h4.2.1, ih h4.2.2⟩
theorem rd_del {H : Hp} {r : Addr} {vs : List V} (hr : H r = some (.lst vs)) {e : V} {d : Rat} (h : Dq H e (rD d)) : Dq (del H r) e (rD d) := by
  obtain ⟨p, rfl, hp⟩ := h.pair
  exact Dq.of_pair (del_at hp (ne_of hp hr (fun z => nomatch z)))
theorem rw_del {H : Hp} {r : Addr} {vs : List V} (hr : H r = some (.lst vs)) : ∀ {f : Rows} {ws : List V}, DqAll H ws (f.map rwD) → DqAll (del H r) ws (f.map rwD)
  | [], _, h => by cases h; exact .nil
  | x :: f, _, h => by
    cases h with
    | cons h1 h2 =>
      refine .cons ?_ (rw_del hr h2)
      obtain ⟨q, us, rfl, hq, hu⟩ := h1.tp
      obtain ⟨a, b, rfl, ha, hb⟩ := hu.two
      cases ha
      exact .tup (del_at hq (ne_of hq hr (fun z => nomatch z))) (.cons (.int _) (.cons (rd_del hr hb) .nil))
theorem fd_del {H : Hp} {r : Addr} {vs : List V} (hr : H r = some (.lst vs)) {e : V} {c : Rat} {f : Rows} (h : Dq H e (fD c f)) : Dq (del H r) e (fD c f) := by
  obtain ⟨p, cv, t, ws, rfl, hp, hc, ht, hw⟩ := h.form
  exact .of_form (del_at hp (ne_of hp hr (fun z => nomatch z))) (rd_del hr hc) (del_at ht (ne_of ht hr (fun z => nomatch z))) (rw_del hr hw)
section
variable {P : Program} {w : World} {K : PySem.W.Frag} {mg' : Str → Option Value} {base : Heap} {H : Hp} {Q : VK} {E : XK}
theorem call_frm {y : V} {c : Rat} {f : Rows} (h : OwnAt H y c f) (ok : Ok f) (hl : f.length ≤ 500) (q : ∀ v H', Ext H H' → Dq H' v (fD c f) → Q v H') : spFrm K ([y] ++ []) H Q E := ⟨y, c, f, rfl, h, ok, hl, q⟩
theorem call_sho {y : V} {c : Rat} {f : Rows} (h : OwnAt H y c f) (ok : Ok f) (hl : f.length ≤ 500) (q : ∀ b H', Ext H H' → (b = true → Sh c ∧ ∀ x ∈ f, Sh x.2) → Q (.bl b) H') : spSho K ([y] ++ []) H Q E := ⟨y, c, f, rfl, h, ok, hl, q⟩
theorem call_fpl {x y : V} {c d : Rat} {f g : Rows} (hx : Dq H x (fD c f)) (hy : Dq H y (fD d g)) (a : FOk c f) (b : FOk d g) (q : ∀ v H', Ext H H' → Dq H' v (fD (c + d) (mg f g)) → Q v H') : spFPl K ([x, y] ++ []) H Q E := ⟨x, y, c, d, f, g, rfl, hx, hy, a, b, q⟩
theorem call_sum {x y : V} {c d : Rat} {f g : Rows} (hx : OwnAt H x c f) (hy : OwnAt H y d g) (a : FOk c f) (b : FOk d g) (q : ∀ v H', Ext H H' → OwnAt H' v (c + d) (mg f g) → Q v H') : spSum K ([x, y] ++ []) H Q E := ⟨x, y, c, d, f, g, rfl, hx, hy, a, b, q⟩
theorem call_scd {x y : V} {a c : Rat} {f : Rows} (hx : Dq H x (rD a)) (hy : OwnAt H y c f) (ba : Bd 200 a) (b : FOk c f) (q : ∀ v H', Ext H H' → OwnAt H' v (a * c) (R1.sc a f) → Q v H') : spScd K ([x, y] ++ []) H Q E := ⟨x, y, a, c, f, rfl, hx, hy, ba, b, q⟩
theorem call_fti {x y : V} {a c : Rat} {f : Rows} (hx : Dq H x (rD a)) (hy : Dq H y (fD c f)) (ba : Bd 200 a) (b : FOk c f) (q : ∀ v H', Ext H H' → Dq H' v (fD (a * c) (R1.sc a f)) → Q v H') : spFTi K ([x, y] ++ []) H Q E := ⟨x, y, a, c, f, rfl, hx, hy, ba, b, q⟩
theorem call_alk {n : Nat} {t u : V} {d : PyData} (h1 : Dq H t d) (h2 : Dq H u d) (hs : Sm n d) (q : ∀ H', Ext H H' → Q (.bl true) H') : spAlike n ([t, u] ++ []) H Q E := call_alike h1 h2 hs q
def spAdd (K : PySem.W.Frag) : Sp := fun vs H Q _ => ∃ (ns : List Int) (r : Addr) (told own : V) (c : Rat) (f : Rows) (k : Nat), vs = [.ref r, told, own] ∧ ns.Pairwise (· < ·) ∧ ns.length = 12 ∧ RowsAt ns H r k ∧ k ≤ 100 ∧ Dq H told (fD c f) ∧ OwnAt H own c f ∧ G ns c f ∧ ∀ H', Ext (del H r) H' → RowsAt ns H' r (k + 1) → Q (.bl true) H'
theorem ok_added (D : Df K mg' "_law_added" s__law_added P__law_added) (p__law_alike : Pr P w K mg' base "_law_alike" 6 P__law_alike (spAlike 4)) (p__law_formed : Pr P w K mg' base "_law_formed" 1 P__law_formed (spFrm K)) : Pr P w K mg' base "_law_added" 7 P__law_added (spAdd K) := by
  refine D.ok sc__law_added (fun vs H Q E h => ?_) (fun f cdv A outer s H vs Q E hr h => ?_)
  · obtain ⟨ns, r, told, own, c, f, k, rfl, _⟩ := h; rfl
  obtain ⟨ns, r, told, own, c, f, k, rfl, hs, hl, ⟨vs, hvs, hk, hall⟩, k1, htold, hown, hG, q⟩ := h
  have nd := sc__law_added.nd
  refine ⟨_, (pss_cons (ps_expr (pe_bmK (K := K) rfl PySem.F.plainAttrs_list PySem.F.slot_list_append PySem.F.type_list_append mt_append (pv 0) (pa_cons (pe_tup (pa_cons (pv 1) (pa_cons (pv 2) pa_nil))) pa_nil)))
      (pss_one (ps_ret (pe_callP p__law_alike hr (pa_cons (pv 1) (pa_cons (pe_callP p__law_formed hr (pa_cons (pv 2) pa_nil)) pa_nil)))))), ?_⟩
  refine w_start (σ := [some _, some _, some _]) rfl ?_
  walk_at "go"
  intro p1 hp1
  have hvs1 := upd_old (u := .tup [told, own]) hp1 hvs
  have nv := rows_npl hall
  walk_at "go"
  refine w_append hvs1 (small1000 (by omega)) ?_
  have hne : p1 ≠ r := (ne_of_none hvs hp1).symm
  have e1 : Ext H (upd H p1 (.tup [told, own])) := Ext.new hp1
  have e2 : Ext (del H r) (upd (upd H p1 (.tup [told, own])) r (.lst (vs ++ [.ref p1]))) := (e1.trans Ext.refl |> fun e => (del_sub.trans e).own del_same)
  have t1 := fd_del hvs htold
  have o1 := hown.delD hvs (fun h => rd_del hvs h)
  have hR : RowsAt ns (upd (upd H p1 (.tup [told, own])) r (.lst (vs ++ [.ref p1]))) r (k + 1) := by
    refine ⟨_, L2.upd_same, by rw [List.length_append, hk]; rfl, fun v hv => ?_⟩
    rw [del_upd]
    rcases List.mem_append.mp hv with z | z
    · exact (hall v z).ext (Ext.del e1)
    · rw [List.mem_singleton] at z; subst z
      exact ⟨p1, told, own, c, f, rfl, del_at L2.upd_same hne, t1.ext (Ext.del e1), o1.ext (Ext.del e1), hG⟩
  have t2 := t1.ext e2
  have o2 := o1.ext e2
  generalize upd (upd H p1 (.tup [told, own])) r (.lst (vs ++ [.ref p1])) = H1 at *
  walk_at "go"
  have fl := hG.len hs hl
  refine call_frm o2 hG.ok (by omega) fun v H2 hE2 hv => ?_
  walk_at "go"
  refine call_alk (t2.ext hE2) hv (hG.sm hs hl) fun H3 hE3 => ?_
  exact q H3 ((e2.trans hE2).trans hE3) ((hR.ext hE2).ext hE3)
/-- a row as its parts -/
theorem RowsAt.el {ns : List Int} {H : Hp} {r : Addr} {k : Nat} {v : V} {vs : List V} (hr : H r = some (.lst vs)) (h : RowsAt ns H r k) (hv : v ∈ vs) : RowAt ns H v := by
  obtain ⟨ws, h1, _, h3⟩ := h
  rw [hr] at h1; cases h1
  exact (h3 v hv).ext del_sub
def spSAd (K : PySem.W.Frag) : Sp := fun vs H Q _ => ∃ (ns : List Int) (r : Addr) (x y : V) (k : Nat), vs = [.ref r, x, y] ∧ ns.Pairwise (· < ·) ∧ ns.length = 12 ∧ RowsAt ns H r k ∧ k ≤ 100 ∧ RowAt ns H x ∧ RowAt ns H y ∧ ∀ H' k', Ext (del H r) H' → RowsAt ns H' r k' → k ≤ k' → k' ≤ k + 1 → Q (.bl true) H'
theorem ok_sadd (D : Df K mg' "_law_sum_added" s__law_sum_added P__law_sum_added) (p__law_summed : Pr P w K mg' base "_law_summed" 3 P__law_summed (spSum K)) (p__law_short : Pr P w K mg' base "_law_short" 1 P__law_short (spSho K)) (p__law_alike : Pr P w K mg' base "_law_alike" 6 P__law_alike (spAlike 4)) (p__law_formed : Pr P w K mg' base "_law_formed" 1 P__law_formed (spFrm K)) (p_form_plus : Pr P w K mg' base "form_plus" 3 P_form_plus (spFPl K)) (p__law_added : Pr P w K mg' base "_law_added" 7 P__law_added (spAdd K)) : Pr P w K mg' base "_law_sum_added" 8 P__law_sum_added (spSAd K) := by
  refine D.ok sc__law_sum_added (fun vs H Q E h => ?_) (fun f cdv A outer s H vs Q E hr h => ?_)
  · obtain ⟨ns, r, x, y, k, rfl, _⟩ := h; rfl
  obtain ⟨ns, r, x, y, k, rfl, hs, hl, hR, k1, ⟨px, tx, ox, c, f, rfl, hpx, htx, hox, gf⟩, ⟨py, ty, oy, d, g, rfl, hpy, hty, hoy, gg⟩, q⟩ := h
  have nd := sc__law_sum_added.nd
  have okf := gf.fok hs hl
  have okg := gg.fok hs hl
  have lf := gf.len hs hl
  have lg := gg.len hs hl
  have ecomm : mg g f = mg f g := Ok.ext (R1.mg_ok gg.ok gf.ok) (R1.mg_ok gf.ok gg.ok) fun n => by rw [R1.mg_val gg.ok gf.ok, R1.mg_val gf.ok gg.ok]; grind
  have ecc : d + c = c + d := by grind
  refine ⟨_, (pss_cons (ps_set (i := 3) nd rfl (Or.inl rfl) (pe_callP p__law_summed hr (pa_cons (pe_ix (ix_tupK (K := K) rfl) (pv 1) pe_int (fun _ _ => rfl)) (pa_cons (pe_ix (ix_tupK (K := K) rfl) (pv 2) pe_int (fun _ _ => rfl)) pa_nil))))
      (pss_cons (ps_if (pt_not (pt_val (pe_callP p__law_short hr (pa_cons (pv 3) pa_nil)))) (pss_one (ps_ret pe_bl)) pss_nil)
      (pss_cons (ps_if (pt_not (pt_val (pe_callP p__law_alike hr (pa_cons (pe_callP p_form_plus hr (pa_cons (pe_ix (ix_tupK (K := K) rfl) (pv 2) pe_int (fun _ _ => rfl)) (pa_cons (pe_ix (ix_tupK (K := K) rfl) (pv 1) pe_int (fun _ _ => rfl)) pa_nil))) (pa_cons (pe_callP p__law_formed hr (pa_cons (pv 3) pa_nil)) pa_nil))))) (pss_one (ps_ret pe_bl)) pss_nil)
      (pss_one (ps_ret (pe_callP p__law_added hr (pa_cons (pv 0) (pa_cons (pe_callP p_form_plus hr (pa_cons (pe_ix (ix_tupK (K := K) rfl) (pv 1) pe_int (fun _ _ => rfl)) (pa_cons (pe_ix (ix_tupK (K := K) rfl) (pv 2) pe_int (fun _ _ => rfl)) pa_nil))) (pa_cons (pv 3) pa_nil))))))))), ?_⟩
  refine w_start (σ := [some _, some _, some _, none]) rfl ?_
  walk_at "go"
  refine call_sum hox hoy okf okg fun v H1 hE1 hv => ?_
  have lm : (mg f g).length ≤ 500 := by
    have h := (List.pairwise_map.mpr (R1.mg_ok gf.ok gg.ok).srt)
    have := len_sub h hs fun n hn => by
      obtain ⟨x, hx, rfl⟩ := List.mem_map.mp hn
      rcases R1.mg_mem f g x hx with ⟨y, hy, e⟩ | ⟨y, hy, e⟩
      · rw [← e]; exact (gf.br y hy).2
      · rw [← e]; exact (gg.br y hy).2
    rw [List.length_map] at this; omega
  walk_at "go"
  refine call_sho hv (R1.mg_ok gf.ok gg.ok) lm fun b H2 hE2 hb => ?_
  have hE02 := hE1.trans hE2
  have hpx2 := hE02.get hpx (npl rfl)
  have hpy2 := hE02.get hpy (npl rfl)
  cases b with
  | false =>
    walk_at "go"
    exact q H2 k (del_sub.trans hE02) (hR.ext hE02) (Nat.le_refl _) (by omega)
  | true =>
    have gs := gf.sum gg (hb rfl)
    walk_at "go"
    refine call_fpl (hty.ext hE02) (htx.ext hE02) okg okf fun u H3 hE3 hu => ?_
    rw [ecomm, ecc] at hu
    walk_at "go"
    refine call_frm ((hv.ext hE2).ext hE3) gs.ok lm fun u2 H4 hE4 hu2 => ?_
    walk_at "go"
    refine call_alk (hu.ext hE4) hu2 (gs.sm hs hl) fun H5 hE5 => ?_
    have hE35 := (hE3.trans hE4).trans hE5
    have hE05 := hE02.trans hE35
    have hpx5 := hE35.get hpx2 (npl rfl)
    have hpy5 := hE35.get hpy2 (npl rfl)
    walk_at "go"
    refine call_fpl (htx.ext hE05) (hty.ext hE05) okf okg fun u H6 hE6 hu => ?_
    have hE06 := hE05.trans hE6
    walk_at "go"
    exact ⟨ns, r, u, v, _, _, k, rfl, hs, hl, hR.ext hE06, k1, hu, ((hv.ext hE2).ext hE35).ext hE6, gs, fun H7 e7 R7 => q H7 (k + 1) ((Ext.del hE06).trans e7) R7 (by omega) (Nat.le_refl _)⟩
def spScA (K : PySem.W.Frag) : Sp := fun vs H Q _ => ∃ (ns : List Int) (r : Addr) (x y : V) (a : Rat) (k : Nat), vs = [.ref r, x, y] ∧ ns.Pairwise (· < ·) ∧ ns.length = 12 ∧ RowsAt ns H r k ∧ k ≤ 100 ∧ Dq H x (rD a) ∧ Bd 70 a ∧ RowAt ns H y ∧ ∀ H' k', Ext (del H r) H' → RowsAt ns H' r k' → k ≤ k' → k' ≤ k + 1 → Q (.bl true) H'
theorem ok_scadd (D : Df K mg' "_law_scaled_added" s__law_scaled_added P__law_scaled_added) (p__law_scaled : Pr P w K mg' base "_law_scaled" 2 P__law_scaled (spScd K)) (p__law_short : Pr P w K mg' base "_law_short" 1 P__law_short (spSho K)) (p_form_times : Pr P w K mg' base "form_times" 3 P_form_times (spFTi K)) (p__law_added : Pr P w K mg' base "_law_added" 7 P__law_added (spAdd K)) : Pr P w K mg' base "_law_scaled_added" 8 P__law_scaled_added (spScA K) := by
  refine D.ok sc__law_scaled_added (fun vs H Q E h => ?_) (fun f cdv A outer s H vs Q E hr h => ?_)
  · obtain ⟨ns, r, x, y, a, k, rfl, _⟩ := h; rfl
  obtain ⟨ns, r, x, y, a, k, rfl, hs, hl, hR, k1, hx, ba, ⟨py, ty, oy, d, g, rfl, hpy, hty, hoy, gg⟩, q⟩ := h
  have nd := sc__law_scaled_added.nd
  have okg := gg.fok hs hl
  have lg := gg.len hs hl
  refine ⟨_, (pss_cons (ps_set (i := 3) nd rfl (Or.inl rfl) (pe_callP p__law_scaled hr (pa_cons (pv 1) (pa_cons (pe_ix (ix_tupK (K := K) rfl) (pv 2) pe_int (fun _ _ => rfl)) pa_nil))))
      (pss_cons (ps_if (pt_not (pt_val (pe_callP p__law_short hr (pa_cons (pv 3) pa_nil)))) (pss_one (ps_ret pe_bl)) pss_nil)
      (pss_one (ps_ret (pe_callP p__law_added hr (pa_cons (pv 0) (pa_cons (pe_callP p_form_times hr (pa_cons (pv 1) (pa_cons (pe_ix (ix_tupK (K := K) rfl) (pv 2) pe_int (fun _ _ => rfl)) pa_nil))) (pa_cons (pv 3) pa_nil)))))))), ?_⟩
  refine w_start (σ := [some _, some _, some _, none]) rfl ?_
  walk_at "go"
  refine call_scd hx hoy (ba.up (by decide)) okg fun v H1 hE1 hv => ?_
  have lm : (R1.sc a g).length ≤ 500 := by unfold R1.sc; split <;> simp; omega
  walk_at "go"
  refine call_sho hv (R1.sc_ok gg.ok) lm fun b H2 hE2 hb => ?_
  have hE02 := hE1.trans hE2
  have hpy2 := hE02.get hpy (npl rfl)
  cases b with
  | false =>
    walk_at "go"
    exact q H2 k (del_sub.trans hE02) (hR.ext hE02) (Nat.le_refl _) (by omega)
  | true =>
    have gs := gg.scl (hb rfl)
    walk_at "go"
    refine call_fti (hx.ext hE02) (hty.ext hE02) (ba.up (by decide)) okg fun u H3 hE3 hu => ?_
    have hE03 := hE02.trans hE3
    walk_at "go"
    exact ⟨ns, r, u, v, _, _, k, rfl, hs, hl, hR.ext hE03, k1, hu, (hv.ext hE2).ext hE3, gs, fun H7 e7 R7 => q H7 (k + 1) ((Ext.del hE03).trans e7) R7 (by omega) (Nat.le_refl _)⟩
theorem OwnAt.cnt {H : Hp} {v : V} {c : Rat} {f : Rows} (h : OwnAt H v c f) : ∃ p cv d kvs, v = .ref p ∧ H p = some (.tup [cv, .ref d]) ∧ H d = some (.dK kvs) := by
  obtain ⟨p, cv, d, rfl, h1, _, kvs, h2, _⟩ := h
  exact ⟨p, cv, d, kvs, rfl, h1, h2⟩
def spWid (K : PySem.W.Frag) : Sp := fun vs H Q _ => ∃ (ns : List Int) (r : Addr) (v : V) (ws : List V), vs = [v, .ref r] ∧ PoolAt H v ∧ H r = some (.lst ws) ∧ (∀ x ∈ ws, RowAt ns H x) ∧ ws ≠ [] ∧ ws.length ≤ 200 ∧ ∀ x H', x ∈ ws → Ext H H' → Q x H'
theorem ok_widest (D : Df K mg' "_law_widest" s__law_widest P__law_widest) (b_len : mg' "len" = none) (b_min : mg' "min" = none) (p__law_take : Pr P w K mg' base "_law_take" 1 P__law_take (spTake K)) : Pr P w K mg' base "_law_widest" 2 P__law_widest (spWid K) := by
  refine D.ok sc__law_widest (fun vs H Q E h => ?_) (fun f cdv A outer s H vs Q E hr h => ?_)
  · obtain ⟨ns, r, v, ws, rfl, _⟩ := h; rfl
  obtain ⟨ns, r, v, ws, rfl, hP, hws, hall, hw0, hw1, q⟩ := h
  have nd := sc__law_widest.nd
  have hlen : 0 < ws.length := List.length_pos_iff.mpr hw0
  have nv := rows_npl hall
  refine ⟨_, (pss_cons (ps_set (i := 2) nd rfl (Or.inl rfl) (pe_callB (call_lenK (K := K) rfl) (by rfl) b_len PySem.boot_len (pa_cons (pv 1) pa_nil)))
      (pss_cons (ps_set (i := 3) nd rfl (Or.inl rfl) (pe_ix (ix_listK (K := K) rfl) (pv 1) (pe_op op_sub (pe_op op_sub (pv 2) pe_int) (pe_callP p__law_take hr (pa_cons (pv 0) (pa_cons (pe_callB (call_min2 rfl) (by rfl) b_min (by decide +kernel) (pa_cons (pv 2) (pa_cons pe_int pa_nil))) pa_nil)))) (fun _ _ => rfl)))
      (pss_cons (ps_set (i := 4) nd rfl (Or.inl rfl) (pe_ix (ix_listK (K := K) rfl) (pv 1) (pe_op op_sub (pe_op op_sub (pv 2) pe_int) (pe_callP p__law_take hr (pa_cons (pv 0) (pa_cons (pe_callB (call_min2 rfl) (by rfl) b_min (by decide +kernel) (pa_cons (pv 2) (pa_cons pe_int pa_nil))) pa_nil)))) (fun _ _ => rfl)))
      (pss_one (ps_ret (pe_ifExp (pt_cmpR op_ge (pe_callB call_lenD (by rfl) b_len PySem.boot_len (pa_cons (pe_ix (ix_tupK (K := K) rfl) (pe_ix (ix_tupK (K := K) rfl) (pv 3) pe_int (fun _ _ => rfl)) pe_int (fun _ _ => rfl)) pa_nil)) (pe_callB call_lenD (by rfl) b_len PySem.boot_len (pa_cons (pe_ix (ix_tupK (K := K) rfl) (pe_ix (ix_tupK (K := K) rfl) (pv 4) pe_int (fun _ _ => rfl)) pe_int (fun _ _ => rfl)) pa_nil)) (nomark _)) (pv 3) (pv 4))))))), ?_⟩
  refine w_start (σ := [some _, some _, none, none, none]) rfl ?_
  have hmin : ∀ m : Int, 1 ≤ m → 0 < (if m < (ws.length : Int) then m else (ws.length : Int)) ∧ (if m < (ws.length : Int) then m else (ws.length : Int)) ≤ ws.length ∧ (if m < (ws.length : Int) then m else (ws.length : Int)) ≤ m := fun m hm => by split <;> omega
  walk_at "go"
  refine ⟨_, _, rfl, ?_⟩
  obtain ⟨m1, m2, m3⟩ := hmin 4 (by decide)
  generalize (if (4 : Int) < (ws.length : Int) then (4 : Int) else (ws.length : Int)) = m at *
  walk_at "go"
  rename_i t H1 hE1 t0 t1
  have hws1 := hE1.get hws nv
  have hP1 := hP.ext hE1
  obtain ⟨x, hx, _, ex⟩ := atI_in (xs := ws) (k := (ws.length : Int) - 1 - t) (by omega) (by omega)
  refine w_ixL (SqL.of hws1) ex ?_
  walk_at "go"
  refine ⟨_, _, rfl, ?_⟩
  obtain ⟨m1, m2, m3⟩ := hmin 6 (by decide)
  generalize (if (6 : Int) < (ws.length : Int) then (6 : Int) else (ws.length : Int)) = m at *
  walk_at "go"
  rename_i u H2 hE2 u0 u1
  have hws2 := hE2.get hws1 nv
  obtain ⟨y, hy, _, ey⟩ := atI_in (xs := ws) (k := (ws.length : Int) - 1 - u) (by omega) (by omega)
  refine w_ixL (SqL.of hws2) ey ?_
  have hE12 := hE1.trans hE2
  have rx := (hall x hx).ext hE12
  have ry := (hall y hy).ext hE12
  obtain ⟨px, tx, ox, c, f, rfl, hpx, htx, hox, gf⟩ := rx
  obtain ⟨py, ty, oy, d, g, rfl, hpy, hty, hoy, gg⟩ := ry
  obtain ⟨qx, cx, dx, kx, rfl, hqx, hkx⟩ := hox.cnt
  obtain ⟨qy, cy, dy, ky, rfl, hqy, hky⟩ := hoy.cnt
  walk_at "go"
  refine ⟨dx, kx, rfl, hkx, ?_⟩
  walk_at "go"
  refine ⟨dy, ky, rfl, hky, ?_⟩
  walk_at "go"
  refine ite_d (fun _ => ?_) (fun _ => ?_)
  · walk_at "go"
    exact q _ _ hx hE12
  · walk_at "go"
    exact q _ _ hy hE12
end
end Kf

end
section
set_option Elab.async false
set_option linter.all false
set_option maxRecDepth 100000
set_option maxHeartbeats 4000000
local macro_rules | `(tactic| walk_at "npl") => `(tactic| first | exact Kf.npl rfl | exact Kf.npl_ints _ | exact Kf.npl_one _ _ | exact Kf.npl_refs _ | assumption)
local macro_rules | `(tactic| walk_at "nn") => `(tactic| first
  | assumption
  | (refine' Kf.Ext.non ?nne ?nnh; (case nne => assumption); (case nnh => walk_at "nn")))
local macro_rules | `(tactic| walk_at "ext") => `(tactic| first
  | assumption
  | exact Kf.Ext.refl
  | (refine' Kf.Ext.newer ?exa ?exn; (case exn => assumption); (case exa => walk_at "ext"))
  | (refine' Kf.Ext.own ?exa ?exn; (case exn => walk_at "nn"); (case exa => walk_at "ext"))
  | (refine' Kf.Ext.trans ?exa ?exb; (case exb => assumption); (case exa => walk_at "ext")))
local macro_rules | `(tactic| walk_at "pool") => `(tactic| first
  | assumption
  | (refine' Kf.PoolAt.ext ?plh ?ple; (case plh => assumption); (case ple => walk_at "ext"))
  | (refine' Kf.PoolAt.upd ?plh ?plo ?pln; (case plo => assumption); (case pln => walk_at "npl"); (case plh => walk_at "pool")))
local macro_rules | `(tactic| walk_at "lk") => `(tactic| first
  | assumption
  | exact L2.upd_same
  | (refine' Kf.upd_old ?lkn ?lkh; (case lkn => assumption); (case lkh => walk_at "lk"))
  | (refine' Kf.upd_oth ?lkn ?lkh; (case lkn => (first | assumption | (apply Ne.symm; assumption))); (case lkh => walk_at "lk"))
  | (refine' Kf.Ext.get ?lke ?lkh ?lkn; (case lke => assumption); (case lkh => walk_at "lk"); (case lkn => walk_at "npl"))
  | (refine' L2.Same.at ?lke ?lkh; (case lke => assumption); (case lkh => walk_at "lk")))
local macro_rules | `(tactic| walk_at "sq") => `(tactic| first
  | assumption
  | (refine' L2.SqL.of ?sqh; (case sqh => walk_at "lk"))
  | (refine' L2.SqT.of ?sqh; (case sqh => walk_at "lk"))
  | (refine' Kf.Ext.seqL ?sqe ?sqh ?sqn; (case sqh => assumption); (case sqe => walk_at "ext"); (case sqn => walk_at "npl"))
  | (refine' Kf.Ext.seqT ?sqe ?sqh; (case sqh => assumption); (case sqe => walk_at "ext")))
local macro_rules | `(tactic| walk_at "at") => `(tactic| first | exact L2.atI_nat (j := 0) rfl | exact L2.atI_nat (j := 1) rfl | exact L2.atI_nat (j := 2) rfl | exact L2.atI_nat (j := 3) rfl | exact L2.atI_nat (j := 4) rfl | assumption)
local macro_rules | `(tactic| walk_at "ixn") => `(tactic| first | exact Kf.ixN_nat (j := 0) rfl | exact Kf.ixN_nat (j := 1) rfl | exact Kf.ixN_nat (j := 2) rfl | exact Kf.ixN_nat (j := 3) rfl | assumption)
local macro_rules | `(tactic| walk_at "set") => `(tactic| (first | (simp only [List.set_cons_succ, List.set_cons_zero]; rfl) | rfl))
local macro_rules | `(tactic| walk_at "om") => `(tactic| first | decide | omega | (simp only [List.length_map, List.length_cons, List.length_nil] at *; omega))
local macro_rules | `(tactic| walk_at "calls") => `(tactic| first
  | (with_reducible refine' Kf.call_take ?clp ?cla ?clb ?clq; (case clp => walk_at "pool"); (case cla => walk_at "om"); (case clb => walk_at "om"); intro r H' hE h0 h1)
  | (with_reducible refine' Kf.call_pool ?cls ?cla ?clq; (case cls => walk_at "sq"); (case cla => walk_at "om"); intro p H' hE hN hP)
  | (with_reducible refine' Kf.call_turn ?cls ?clp ?cla ?clq; (case cls => walk_at "sq"); (case clp => walk_at "pool"); (case cla => walk_at "om"); intro u H' hE hP))
local macro_rules | `(tactic| walk_at "side") => `(tactic| first
  | exact Kf.cmul_fmod (by decide) (by decide)
  | exact rfl
  | decide
  | omega
  | assumption
  | (refine ⟨?_, ?_⟩ <;> decide)
  | (refine ⟨?_, ?_, ?_⟩ <;> decide)
  | (refine ⟨?_, ?_⟩ <;> omega)
  | (refine Or.inl ⟨?_, ?_⟩ <;> decide)
  | (refine Or.inr ⟨?_, ?_⟩ <;> decide)
  | (refine Or.inl ⟨?_, ?_⟩ <;> omega)
  | (refine Or.inr ⟨?_, ?_⟩ <;> omega))
local macro_rules | `(tactic| walk_at "kit") => `(tactic| first | exact Kf.isi_int_int | exact Kf.isi_int_bool | exact Kf.isi_int_str | exact Kf.isi_int_list | exact Kf.isi_int_tuple | exact Kf.isi_bool_int | exact Kf.isi_bool_bool | exact Kf.isi_bool_str | exact Kf.isi_bool_list | exact Kf.isi_bool_tuple | exact Kf.isi_str_int | exact Kf.isi_str_bool | exact Kf.isi_str_str | exact Kf.isi_str_list | exact Kf.isi_str_tuple | exact Kf.isi_non_list | exact Kf.isi_non_tuple | exact Kf.isi_list_list | exact Kf.isi_list_tuple | exact Kf.isi_tuple_list | exact Kf.isi_tuple_tuple | exact Kf.isi_dict_dict)
local macro_rules | `(tactic| walk_at "ty") => `(tactic| first
  | exact L2.TyX.base (L2.TyOf.int _)
  | exact L2.TyX.base (L2.TyOf.bl _)
  | exact L2.TyX.base (L2.TyOf.str _)
  | exact L2.TyX.base L2.TyOf.non
  | (refine' L2.TyX.base (L2.TyOf.lst ?tyh); (case tyh => walk_at "lk"))
  | (refine' L2.TyX.base (L2.TyOf.tup ?tyh); (case tyh => walk_at "lk"))
  | (refine' L2.TyX.base (L2.TyOf.dK ?tyh); (case tyh => walk_at "lk")))
local macro_rules | `(tactic| walk_at "om2") => `(tactic| first | assumption | decide | omega)
local macro_rules | `(tactic| walk_at "st") => `(tactic| with_reducible first
  | (refine Kf.w_var rfl ?_)
  | (refine Kf.w_c ?_)
  | (refine Kf.w_seq ?_)
  | (refine Kf.w_asg ?_)
  | (refine' Kf.w_gname ?sth ?_; (case sth => with_unfolding_all walk_at "set"))
  | (refine Kf.w_op ?_)
  | (refine Kf.w_un ?_)
  | (refine Kf.w_rU ?_)
  | (refine Kf.w_rI0 ?_)
  | (refine' Kf.w_rI ?sth ?_; (case sth => with_unfolding_all walk_at "side"))
  | (refine' Kf.w_rEq ?sth ?_; (case sth => with_unfolding_all rfl))
  | (refine' Kf.w_rNe ?sth ?_; (case sth => with_unfolding_all rfl))
  | (refine Kf.w_tTest ?_)
  | (refine Kf.w_tB ?_)
  | (refine Kf.w_exbl ?_)
  | (refine Kf.w_exint ?_)
  | (refine Kf.w_ifS ?_)
  | (refine Kf.w_ret ?_)
  | (refine Kf.w_retN ?_)
  | (refine Kf.w_drop ?_)
  | (refine Kf.w_and ?_)
  | (refine Kf.w_or ?_)
  | (refine Kf.w_not ?_)
  | (refine Kf.w_andV ?_)
  | (refine Kf.w_orV ?_)
  | (refine Kf.w_notV ?_)
  | (refine Kf.w_if ?_)
  | (refine Kf.w_lc ?_)
  | (refine Kf.w_for ?_)
  | (refine Kf.w_rng1 ?_)
  | (refine' Kf.w_rng1x ?sth ?stg ?_; (case sth => with_unfolding_all walk_at "om"); (case stg => with_unfolding_all walk_at "om"))
  | (refine Kf.w_ilist ?_)
  | (refine Kf.w_iseq ?_)
  | (refine Kf.w_itup ?_)
  | (refine' Kf.w_ilistx ?sth ?_; (case sth => with_unfolding_all walk_at "sq"))
  | (refine' Kf.w_itupx ?sth ?_; (case sth => with_unfolding_all walk_at "sq"))
  | (refine' Kf.w_wipe ?sth ?_; (case sth => with_unfolding_all rfl))
  | (refine Kf.w_yes ?_)
  | (refine' Kf.w_isi ?sth ?stg ?_; (case sth => with_unfolding_all walk_at "ty"); (case stg => walk_at "kit"))
  | (refine Kf.w_isN ?_)
  | (refine Kf.w_notN ?_)
  | (refine Kf.w_cb ?_)
  | (refine Kf.w_nil ?_)
  | (refine Kf.w_cons ?_)
  | (refine Kf.w_tup ?_)
  | (refine Kf.w_lst ?_)
  | (refine' Kf.w_lines ?sth ?_; (case sth => with_unfolding_all rfl))
  | (refine Kf.w_call ?_)
  | (refine Kf.w_next ?_)
  | (refine Kf.w_break ?_)
  | (refine Kf.w_cont ?_)
  | (refine Kf.w_dnewK ?_)
  | (refine Kf.w_ikeys ?_)
  | (refine Kf.w_dput ?_)
  | (refine Kf.w_dget2 ?_)
  | (refine Kf.w_dget ?_)
  | (refine Kf.w_sl ?_)
  | (refine Kf.w_nopart ?_)
  | (refine Kf.w_part ?_)
  | (refine Kf.w_bm ?_)
  | (refine Kf.w_bm0 ?_)
  | (refine' Kf.w_bmL ?sth ?_; (case sth => with_unfolding_all walk_at "lk"))
  | (refine' Kf.w_cat ?sth ?stg ?stf ?_; (case sth => with_unfolding_all walk_at "lk"); (case stg => with_unfolding_all walk_at "lk"); (case stf => with_unfolding_all walk_at "om"))
  | (refine' Kf.w_slL ?sth ?_; (case sth => with_unfolding_all walk_at "sq"))
  | (refine' Kf.w_inL ?sth ?_; (case sth => with_unfolding_all walk_at "sq"))
  | (refine' Kf.w_inT ?sth ?_; (case sth => with_unfolding_all walk_at "sq"))
  | (refine' Kf.w_ninL ?sth ?_; (case sth => with_unfolding_all walk_at "sq"))
  | (refine' Kf.w_ninT ?sth ?_; (case sth => with_unfolding_all walk_at "sq"))
  | (refine' Kf.w_listof ?sth ?_; (case sth => with_unfolding_all walk_at "sq"))
  | (refine' Kf.w_tupof ?sth ?_; (case sth => with_unfolding_all walk_at "sq"))
  | (refine Kf.w_listRev ?_)
  | (refine Kf.w_gsub ?_)
  | (refine' Kf.w_ixL ?sth ?stg ?_; (case sth => with_unfolding_all walk_at "sq"); (case stg => with_unfolding_all walk_at "at"))
  | (refine' Kf.w_ixT ?sth ?stg ?_; (case sth => with_unfolding_all walk_at "sq"); (case stg => with_unfolding_all walk_at "at"))
  | (refine' Kf.w_setL ?sth ?stg ?_; (case sth => with_unfolding_all walk_at "lk"); (case stg => with_unfolding_all walk_at "ixn"))
  | (refine' Kf.w_len ?sth ?_; (case sth => with_unfolding_all walk_at "sq"))
  | (refine' Kf.w_lenT ?sth ?_; (case sth => with_unfolding_all walk_at "sq"))
  | (refine Kf.w_int1 ?_)
  | (refine Kf.w_intb ?_)
  | (refine Kf.w_abs ?_)
  | (refine Kf.w_aug rfl ?_)
  | (refine Kf.w_par ?_)
  | (refine' Kf.w_gtup ?sth ?stg ?_; (case sth => with_unfolding_all walk_at "sq"); (case stg => with_unfolding_all exact rfl))
  | (refine' Kf.w_glst ?sth ?stg ?_; (case sth => with_unfolding_all walk_at "sq"); (case stg => with_unfolding_all exact rfl))
  | (refine Kf.w_rng2 ?_)
  | (refine Kf.w_rng3 ?_)
  | (refine' Kf.w_rng2x ?sth ?stg ?stf ?ste ?_; (case sth => with_unfolding_all walk_at "om"); (case stg => with_unfolding_all walk_at "om"); (case stf => with_unfolding_all walk_at "om"); (case ste => with_unfolding_all walk_at "om"))
  | (refine Kf.w_gcons ?_)
  | (refine Kf.w_gnil ?_)
  | (refine Kf.w_gcd ?_)
  | (refine Kf.w_bits ?_)
  | (refine Kf.w_two ?_)
  | (refine Kf.w_ipI ?_)
  | (refine L2.iteT ?_)
  | (refine L2.iteF ?_)
  | (refine Kf.iteNT ?_)
  | (refine Kf.iteNF ?_)
  | (refine' Kf.ite_decT ?sth ?_; (case sth => exact rfl))
  | (refine' Kf.ite_decF ?sth ?_; (case sth => with_unfolding_all (intro e; cases e; done)))
  | (refine' Kf.ite_ndecF ?sth ?_; (case sth => exact rfl))
  | (refine' Kf.ite_ndecT ?sth ?_; (case sth => with_unfolding_all (intro e; cases e; done)))
  | (refine' Kf.ite_viT ?sth ?_; (case sth => (with_unfolding_all walk_at "om2")))
  | (refine' Kf.ite_viF ?sth ?_; (case sth => (with_unfolding_all walk_at "om2")))
  | (refine' Kf.ite_nviT ?sth ?_; (case sth => (with_unfolding_all walk_at "om2")))
  | (refine' Kf.ite_nviF ?sth ?_; (case sth => (with_unfolding_all walk_at "om2")))
  | (refine' Kf.ite_decT ?sth ?_; (case sth => (with_unfolding_all walk_at "om2")))
  | (refine' Kf.ite_decF ?sth ?_; (case sth => (with_unfolding_all walk_at "om2")))
  | with_unfolding_all walk_at "calls")
local macro_rules | `(tactic| walk_at "go") => `(tactic| repeat walk_at "st")

namespace Kf
open PySem PySem.Spec PyProof.Rows L2
open R0 (Bd)
open R1 (mg Ok Rows val)
abbrev s__law_done : Stmt := topS 36
abbrev N__law_done : List Str := ["pool", "nodes", "rows", "long", "pick", "one", "two", "node", "a", "other", "own", "told", "base"]
abbrev P__law_done : List Str := ["pool", "nodes", "rows", "long"]
theorem sc__law_done : FnScope N__law_done P__law_done (defScope s__law_done) := ⟨rfl, rfl, rfl, by decide +kernel, rfl, by decide +kernel, by decide +kernel⟩
section
variable {P : Program} {w : World} {K : PySem.W.Frag} {mg' : Str → Option Value} {base : Heap} {H : Hp} {Q : VK} {E : XK}
theorem call_wid {ns : List Int} {r : Addr} {v : V} {ws : List V} (hP : PoolAt H v) (hw : H r = some (.lst ws)) (ha : ∀ x ∈ ws, RowAt ns H x) (h0 : ws ≠ []) (h1 : ws.length ≤ 200) (q : ∀ x H', x ∈ ws → Ext H H' → Q x H') : spWid K ([v, .ref r] ++ []) H Q E := ⟨ns, r, v, ws, rfl, hP, hw, ha, h0, h1, q⟩
theorem call_fac {v : V} {b : Bool} (hP : PoolAt H v) (q : ∀ u H' a, Ext H H' → Dq H' u (rD a) → Bd 70 a → Q u H') : spFac K ([v, .bl b] ++ []) H Q E := ⟨v, b, rfl, hP, q⟩
theorem call_add {ns : List Int} {r : Addr} {told own : V} {c : Rat} {f : Rows} {k : Nat} (hs : ns.Pairwise (· < ·)) (hl : ns.length = 12) (hR : RowsAt ns H r k) (hk : k ≤ 100) (h1 : Dq H told (fD c f)) (h2 : OwnAt H own c f) (g : G ns c f) (q : ∀ H', Ext (del H r) H' → RowsAt ns H' r (k + 1) → Q (.bl true) H') : spAdd K ([.ref r, told, own] ++ []) H Q E := ⟨ns, r, told, own, c, f, k, rfl, hs, hl, hR, hk, h1, h2, g, q⟩
theorem call_sad {ns : List Int} {r : Addr} {x y : V} {k : Nat} (hs : ns.Pairwise (· < ·)) (hl : ns.length = 12) (hR : RowsAt ns H r k) (hk : k ≤ 100) (h1 : RowAt ns H x) (h2 : RowAt ns H y) (q : ∀ H' k', Ext (del H r) H' → RowsAt ns H' r k' → k ≤ k' → k' ≤ k + 1 → Q (.bl true) H') : spSAd K ([.ref r, x, y] ++ []) H Q E := ⟨ns, r, x, y, k, rfl, hs, hl, hR, hk, h1, h2, q⟩
theorem call_sca {ns : List Int} {r : Addr} {x y : V} {a : Rat} {k : Nat} (hs : ns.Pairwise (· < ·)) (hl : ns.length = 12) (hR : RowsAt ns H r k) (hk : k ≤ 100) (h1 : Dq H x (rD a)) (ba : Bd 70 a) (h2 : RowAt ns H y) (q : ∀ H' k', Ext (del H r) H' → RowsAt ns H' r k' → k ≤ k' → k' ≤ k + 1 → Q (.bl true) H') : spScA K ([.ref r, x, y] ++ []) H Q E := ⟨ns, r, x, y, a, k, rfl, hs, hl, hR, hk, h1, ba, h2, q⟩
theorem call_con {x : V} {c : Rat} (h : Dq H x (rD c)) (q : ∀ v H', Ext H H' → Dq H' v (fD c []) → Q v H') : spCon K ([x] ++ []) H Q E := ⟨x, c, rfl, h, q⟩
theorem call_bas {n : Int} (q : ∀ v H', Ext H H' → Dq H' v (fD 0 [(n, 1)]) → Q v H') : spBas K ([.int n] ++ []) H Q E := ⟨n, rfl, q⟩
theorem base1_ok (n : Int) : Ok [(n, (1 : Rat))] := ⟨by simp, fun x hx => by rw [List.mem_singleton] at hx; subst hx; show (1 : Rat) ≠ 0; decide⟩
theorem fok_base (n : Int) : FOk 0 [(n, (1 : Rat))] := ⟨base1_ok n, ⟨by decide, by decide⟩, fun x hx => by rw [List.mem_singleton] at hx; subst hx; exact ⟨by show (1 : Rat).num.natAbs < 2 ^ 200; decide, by show (1 : Rat).den < 2 ^ 200; decide⟩, by show 1 ≤ 200; decide⟩
theorem w_disp1 {tk tv : TE} {σ : L2.St} {H : Hp} {Q : VK} (h : ∀ p, H p = none → tk σ (upd H p (.dK [])) fun x H1 => tv σ H1 fun y H2 => H2 p = some (.dK []) ∧ ∃ kvs : List (Key × V), [(x, y)] = kvs.map (fun kv => (kV kv.1, kv.2)) ∧ kvs.length ≤ 15 ∧ Q (.ref p) (upd H2 p (.dK (mergeK [] kvs)))) : tDisp [(tk, tv)] σ H Q := h
theorem rows_mid {ns : List Int} {H H' : Hp} {r : Addr} {k : Nat} (h : RowsAt ns H r k) (e : Ext H H') (q : Bool → Hp → Prop) (Qq : ∀ H' k', Ext (del H r) H' → RowsAt ns H' r k' → k ≤ k' → k' ≤ k + 1 → q true H') : ∀ H2 k', Ext (del H' r) H2 → RowsAt ns H2 r k' → k ≤ k' → k' ≤ k + 1 → q true H2 := fun H2 k' e2 R2 a b => Qq H2 k' ((Ext.del e).trans e2) R2 a b
def spDon (K : PySem.W.Frag) : Sp := fun vs H Q _ => ∃ (ns : List Int) (v : V) (a r : Addr) (b : Bool) (k : Nat), vs = [v, .ref a, .ref r, .bl b] ∧ PoolAt H v ∧ H a = some (.lst (ns.map V.int)) ∧ ns.Pairwise (· < ·) ∧ ns.length = 12 ∧ RowsAt ns H r k ∧ 1 ≤ k ∧ k ≤ 100 ∧ ∀ H' k', Ext (del H r) H' → RowsAt ns H' r k' → k ≤ k' → k' ≤ k + 1 → Q (.bl true) H'
theorem ok_done (D : Df K mg' "_law_done" s__law_done P__law_done) (p__law_take : Pr P w K mg' base "_law_take" 1 P__law_take (spTake K)) (p__law_widest : Pr P w K mg' base "_law_widest" 2 P__law_widest (spWid K)) (p__law_pick : Pr P w K mg' base "_law_pick" 2 P__law_pick (spPick K)) (p__law_factor : Pr P w K mg' base "_law_factor" 4 P__law_factor (spFac K)) (p__law_added : Pr P w K mg' base "_law_added" 7 P__law_added (spAdd K)) (p_constant_form : Pr P w K mg' base "constant_form" 1 P_constant_form (spCon K)) (p__law_sum_added : Pr P w K mg' base "_law_sum_added" 8 P__law_sum_added (spSAd K))
    (p__law_scaled_added : Pr P w K mg' base "_law_scaled_added" 8 P__law_scaled_added (spScA K)) (p__law_scaled : Pr P w K mg' base "_law_scaled" 2 P__law_scaled (spScd K)) (p_form_times : Pr P w K mg' base "form_times" 3 P_form_times (spFTi K)) (p__law_alike : Pr P w K mg' base "_law_alike" 6 P__law_alike (spAlike 4)) (p__law_formed : Pr P w K mg' base "_law_formed" 1 P__law_formed (spFrm K)) (p_base_form : Pr P w K mg' base "base_form" 1 P_base_form (spBas K)) : Pr P w K mg' base "_law_done" 9 P__law_done (spDon K) := by
  refine D.ok sc__law_done (fun vs H Q E h => ?_) (fun f cdv A outer s H vs Q E hr h => ?_)
  · obtain ⟨ns, v, a, r, b, k, rfl, _⟩ := h; rfl
  obtain ⟨ns, v, na, r, b, k, rfl, hP, hna, hs, hl, hR, k0, k1, q⟩ := h
  obtain ⟨ws, hws, hwl, hwa⟩ := id hR
  have nv := rows_npl hwa
  have hw0 : ws ≠ [] := fun z => by subst z; simp at hwl; omega
  have hra : ∀ x ∈ ws, RowAt ns H x := fun x hx => (hwa x hx).ext del_sub
  have nd := sc__law_done.nd
  refine ⟨_, (pss_cons (ps_set (i := 4) nd rfl (Or.inl rfl) (pe_callP p__law_take hr (pa_cons (pv 0) (pa_cons pe_int pa_nil))))
      (pss_cons (ps_set (i := 5) nd rfl (Or.inl rfl) (pe_callP p__law_widest hr (pa_cons (pv 0) (pa_cons (pv 2) pa_nil))))
      (pss_cons (ps_set (i := 6) nd rfl (Or.inl rfl) (pe_callP p__law_pick hr (pa_cons (pv 0) (pa_cons (pv 2) pa_nil))))
      (pss_cons (ps_set (i := 7) nd rfl (Or.inl rfl) (pe_callP p__law_pick hr (pa_cons (pv 0) (pa_cons (pv 1) pa_nil))))
      (pss_cons (ps_set (i := 8) nd rfl (Or.inl rfl) (pe_callP p__law_factor hr (pa_cons (pv 0) (pa_cons (pv 3) pa_nil))))
      (pss_cons (ps_if (pt_cmpR op_eq (pv 4) pe_int (nomark _)) (pss_one (ps_ret (pe_callP p__law_added hr (pa_cons (pv 2) (pa_cons (pe_callP p_constant_form hr (pa_cons (pv 8) pa_nil)) (pa_cons (pe_tup (pa_cons (pv 8) (pa_cons pe_dnewK pa_nil))) pa_nil)))))) pss_nil)
      (pss_cons (ps_if (pt_cmpR op_eq (pv 4) pe_int (nomark _)) (pss_one (ps_ret (pe_callP p__law_sum_added hr (pa_cons (pv 2) (pa_cons (pv 5) (pa_cons (pv 5) pa_nil)))))) pss_nil)
      (pss_cons (ps_if (pt_cmpR op_lt (pv 4) pe_int (nomark _)) (pss_one (ps_ret (pe_callP p__law_sum_added hr (pa_cons (pv 2) (pa_cons (pv 5) (pa_cons (pv 6) pa_nil)))))) pss_nil)
      (pss_cons (ps_if (PW.pt (pw_or (pt_cmpR op_eq (pv 4) pe_int (nomark _)) (pw_or1 (PW.pt (pw_and (pt_val (pv 3)) (pw_and1 (pt_cmpR op_gt (pv 4) pe_int (nomark _)))))))) (pss_one (ps_ret (pe_callP p__law_scaled_added hr (pa_cons (pv 2) (pa_cons (pv 8) (pa_cons (pv 5) pa_nil)))))) pss_nil)
      (pss_cons (ps_if (pt_cmpR op_lt (pv 4) pe_int (nomark _)) (pss_cons (ps_set (i := 9) nd rfl (Or.inl rfl) (pe_ifExp (pt_cmpR op_eq (pv 4) pe_int (nomark _)) (pv 5) (pv 6)))
      (pss_cons (ps_set (i := 10) nd rfl (Or.inl rfl) (pe_callP p__law_scaled hr (pa_cons (pe_tup (pa_cons (pe_un un_neg pe_int) (pa_cons pe_int pa_nil))) (pa_cons (pe_ix (ix_tupK (K := K) rfl) (pv 9) pe_int (fun _ _ => rfl)) pa_nil))))
      (pss_cons (ps_set (i := 11) nd rfl (Or.inl rfl) (pe_callP p_form_times hr (pa_cons (pe_tup (pa_cons (pe_un un_neg pe_int) (pa_cons pe_int pa_nil))) (pa_cons (pe_ix (ix_tupK (K := K) rfl) (pv 9) pe_int (fun _ _ => rfl)) pa_nil))))
      (pss_one (ps_ret (pe_and (pe_callP p__law_alike hr (pa_cons (pv 11) (pa_cons (pe_callP p__law_formed hr (pa_cons (pv 10) pa_nil)) pa_nil))) (pe_one (pe_callP p__law_sum_added hr (pa_cons (pv 2) (pa_cons (pv 5) (pa_cons (pe_tup (pa_cons (pv 11) (pa_cons (pv 10) pa_nil))) pa_nil))))))))))) pss_nil)
      (pss_cons (ps_set (i := 12) nd rfl (Or.inl rfl) (pe_tup (pa_cons (pe_tup (pa_cons pe_int (pa_cons pe_int pa_nil))) (pa_cons (pe_disp (pps_cons (pv 7) (pe_tup (pa_cons pe_int (pa_cons pe_int pa_nil))) pps_nil) (by rfl) (by rfl) (fun z => by cases z) (by decide)) pa_nil))))
      (pss_cons (ps_set (i := 11) nd rfl (Or.inl rfl) (pe_callP p_base_form hr (pa_cons (pv 7) pa_nil)))
      (pss_cons (ps_set (i := 10) nd rfl (Or.inl rfl) (pe_callP p__law_scaled hr (pa_cons (pv 8) (pa_cons (pv 12) pa_nil))))
      (pss_cons (ps_if (pt_not (pt_val (pe_callP p__law_alike hr (pa_cons (pv 11) (pa_cons (pe_callP p__law_formed hr (pa_cons (pv 12) pa_nil)) pa_nil))))) (pss_one (ps_ret pe_bl)) pss_nil)
      (pss_cons (ps_set (i := 11) nd rfl (Or.inl rfl) (pe_callP p_form_times hr (pa_cons (pv 8) (pa_cons (pv 11) pa_nil))))
      (pss_one (ps_ret (pe_and (pe_callP p__law_alike hr (pa_cons (pv 11) (pa_cons (pe_callP p__law_formed hr (pa_cons (pv 10) pa_nil)) pa_nil))) (pe_one (pe_callP p__law_sum_added hr (pa_cons (pv 2) (pa_cons (pv 5) (pa_cons (pe_tup (pa_cons (pv 11) (pa_cons (pv 10) pa_nil))) pa_nil))))))))))))))))))))))), ?_⟩
  refine w_start (σ := [some _, some _, some _, some _, none, none, none, none, none, none, none, none, none]) rfl ?_
  walk_at "go"
  rename_i pk H1 hE1 pk0 pk1
  refine call_wid (ns := ns) (hP.ext hE1) (hE1.get hws nv) (fun x hx => (hra x hx).ext hE1) hw0 (by omega) fun one H2 hone hE2 => ?_
  have hE02 := hE1.trans hE2
  walk_at "go"
  refine call_pick (hP.ext hE02) (SqL.of (hE02.get hws nv)) nv hw0 (by omega) fun two H3 htwo hE3 => ?_
  have hE03 := hE02.trans hE3
  walk_at "go"
  have hn0 : ns.map V.int ≠ [] := fun z => by have := congrArg List.length z; rw [List.length_map, hl] at this; simp at this
  refine call_pick (hP.ext hE03) (SqL.of (hE03.get hna (npl_ints _))) (npl_ints _) hn0 (by rw [List.length_map]; omega) fun nv' H4 hnode hE4 => ?_
  obtain ⟨n, hn, rfl⟩ := List.mem_map.mp hnode
  have hE04 := hE03.trans hE4
  walk_at "go"
  refine call_fac (hP.ext hE04) fun av H5 a hE5 hav ba => ?_
  have hE05 := hE04.trans hE5
  have R5 := hR.ext hE05
  have r1 := (hra one hone).ext hE05
  have r2 := (hra two htwo).ext hE05
  have q5 : ∀ H' k', Ext (del H5 r) H' → RowsAt ns H' r k' → k ≤ k' → k' ≤ k + 1 → Q (.bl true) H' := fun H2 k' e2 R2 a b => q H2 k' ((Ext.del hE05).trans e2) R2 a b
  clear q hra hwa hws hna hE05 hE04 hE03 hE02 hE1 hE2 hE3 hE4 hE5
  obtain ⟨pa, rfl, hpa⟩ := hav.pair
  walk_at "go"
  refine ite_vi (fun c0 => ?_) (fun c0 => ?_)
  · walk_at "go"
    refine call_con hav fun u H6 hE6 hu => ?_
    walk_at "go"
    intro pd hpd
    walk_at "go"
    intro pp hpp
    have e1 : Ext H5 (upd (upd H6 pd (.dK [])) pp (.tup [.ref pa, .ref pd])) := (hE6.newer hpd).newer hpp
    have e2 : Ext H6 (upd (upd H6 pd (.dK [])) pp (.tup [.ref pa, .ref pd])) := (Ext.new hpd).newer hpp
    have ow : OwnAt (upd (upd H6 pd (.dK [])) pp (.tup [.ref pa, .ref pd])) (.ref pp) a [] := ⟨pp, _, pd, rfl, L2.upd_same, hav.ext e1, [], upd_old hpp L2.upd_same, trivial⟩
    exact call_add (K := K) (E := E0) hs hl (R5.ext e1) k1 (hu.ext e2) ow ⟨Ok.nil, ba.up (by decide), fun x hx => nomatch hx⟩ fun H7 e7 R7 => q5 H7 (k + 1) ((Ext.del e1).trans e7) R7 (by omega) (Nat.le_refl _)
  · walk_at "go"
    refine ite_vi (fun c1 => ?_) (fun c1 => ?_)
    · walk_at "go"
      exact call_sad (K := K) (E := E0) hs hl R5 k1 r1 r1 q5
    · walk_at "go"
      refine ite_d (fun c2 => ?_) (fun c2 => ?_)
      · walk_at "go"
        exact call_sad (K := K) (E := E0) hs hl R5 k1 r1 r2 q5
      · walk_at "go"
        have fs : spScA K ([.ref r, .ref pa, one] ++ []) H5 Q E0 := call_sca hs hl R5 k1 hav ba r1 q5
        refine ite_vi (fun c3 => ?_) (fun c3 => ?_)
        · walk_at "go"
          exact fs
        · by_cases c4 : b = true ∧ 9 < pk
          · obtain ⟨rfl, c4⟩ := c4
            walk_at "go"
            exact fs
          · have c4' : b = false ∨ (b = true ∧ ¬ 9 < pk) := by cases b <;> simp at c4 ⊢; omega
            rcases c4' with rfl | ⟨rfl, c4'⟩
            all_goals
              walk_at "go"
              refine ite_d (fun c5 => ?_) (fun c5 => ?_)
              · obtain ⟨other, ro, eo⟩ : ∃ other, RowAt ns H5 other ∧ (if pk = 5 then other = one else other = two) := by
                  by_cases z : pk = 5
                  · exact ⟨one, r1, by rw [if_pos z]⟩
                  · exact ⟨two, r2, by rw [if_neg z]⟩
                obtain ⟨po, to, oo, c, f, rfl, hpo, hto, hoo, go⟩ := ro
                have hpick : ∀ {A : Prop}, A → A := fun h => h
                walk_at "go"
                refine ite_vi (fun c6 => ?_) (fun c6 => ?_)
                all_goals
                  (first | (rw [if_pos c6] at eo; subst eo) | (rw [if_neg c6] at eo; subst eo))
                  walk_at "go"
                  intro p1 hp1
                  have e1 : Ext H5 (upd H5 p1 (.tup [.int (-1), .int 1])) := Ext.new hp1
                  have hm1 : Dq (upd H5 p1 (.tup [.int (-1), .int 1])) (.ref p1) (rD (-1)) := Dq.of_pair L2.upd_same
                  have hpo1 := e1.get hpo (npl rfl)
                  walk_at "go"
                  refine call_scd hm1 (hoo.ext e1) ⟨by decide, by decide⟩ (go.fok hs hl) fun ow H6 hE6 how => ?_
                  have e6 := e1.trans hE6
                  have hpo6 := e6.get hpo (npl rfl)
                  walk_at "go"
                  intro p2 hp2
                  have e7 : Ext H5 (upd H6 p2 (.tup [.int (-1), .int 1])) := e6.newer hp2
                  have hm2 : Dq (upd H6 p2 (.tup [.int (-1), .int 1])) (.ref p2) (rD (-1)) := Dq.of_pair L2.upd_same
                  have how7 := how.ext (Ext.new (o := .tup [.int (-1), .int 1]) hp2)
                  have hpo7 := e7.get hpo (npl rfl)
                  generalize upd H6 p2 (.tup [.int (-1), .int 1]) = H7 at *
                  walk_at "go"
                  refine call_fti hm2 (hto.ext e7) ⟨by decide, by decide⟩ (go.fok hs hl) fun tl H8 hE8 htl => ?_
                  have gn := go.neg
                  walk_at "go"
                  refine call_frm (how7.ext hE8) gn.ok (by have := gn.len hs hl; omega) fun u H9 hE9 hu => ?_
                  walk_at "go"
                  refine call_alk (htl.ext hE9) hu (gn.sm hs hl) fun H10 hE10 => ?_
                  have e810 := hE9.trans hE10
                  have e10 := (e7.trans hE8).trans e810
                  walk_at "go"
                  intro p3 hp3
                  have e11 : Ext H5 (upd H10 p3 (.tup [tl, ow])) := e10.newer hp3
                  have e11' : Ext H10 (upd H10 p3 (.tup [tl, ow])) := Ext.new hp3
                  have rn : RowAt ns (upd H10 p3 (.tup [tl, ow])) (.ref p3) := ⟨p3, tl, ow, _, _, rfl, L2.upd_same, (htl.ext e810).ext e11', ((how7.ext hE8).ext e810).ext e11', gn⟩
                  exact call_sad (K := K) (E := E0) hs hl (R5.ext e11) k1 (r1.ext e11) rn fun H12 k' e12 R12 a b => q5 H12 k' ((Ext.del e11).trans e12) R12 a b
              · walk_at "go"
                intro p1 hp1
                have e1 : Ext H5 (upd H5 p1 (.tup [.int 0, .int 1])) := Ext.new hp1
                have hz1 : Dq (upd H5 p1 (.tup [.int 0, .int 1])) (.ref p1) (rD 0) := zero_D L2.upd_same
                generalize upd H5 p1 (.tup [.int 0, .int 1]) = H6 at *
                walk_at "go"
                refine w_disp1 fun pd hpd => ?_
                walk_at "go"
                intro p2 hp2
                refine ⟨upd_old hp2 L2.upd_same, [(.inl n, .ref p2)], rfl, (by show 1 ≤ 15; decide), ?_⟩
                rw [show mergeK [] [((.inl n : Key), V.ref p2)] = [(.inl n, .ref p2)] from rfl]
                walk_at "go"
                intro p3 hp3
                have e3 : Ext H5 (upd (upd (upd (upd H6 pd (.dK [])) p2 (.tup [.int 1, .int 1])) pd (.dK [(.inl n, .ref p2)])) p3 (.tup [.ref p1, .ref pd])) := (((e1.newer hpd).newer hp2).own (e1.non hpd)).newer hp3
                have e36 : Ext H6 (upd (upd (upd (upd H6 pd (.dK [])) p2 (.tup [.int 1, .int 1])) pd (.dK [(.inl n, .ref p2)])) p3 (.tup [.ref p1, .ref pd])) := (((Ext.new hpd).newer hp2).own hpd).newer hp3
                have hne : p2 ≠ pd := (ne_of_none (upd_same) hp2).symm
                have hb3 : OwnAt (upd (upd (upd (upd H6 pd (.dK [])) p2 (.tup [.int 1, .int 1])) pd (.dK [(.inl n, .ref p2)])) p3 (.tup [.ref p1, .ref pd])) (.ref p3) 0 [(n, 1)] :=
                  ⟨p3, .ref p1, pd, rfl, L2.upd_same, hz1.ext e36, [(.inl n, .ref p2)], upd_old hp3 L2.upd_same, rfl, Dq.of_pair (upd_old hp3 (upd_oth hne L2.upd_same)), trivial⟩
                generalize upd (upd (upd (upd H6 pd (.dK [])) p2 (.tup [.int 1, .int 1])) pd (.dK [(.inl n, .ref p2)])) p3 (.tup [.ref p1, .ref pd]) = H7 at *
                walk_at "go"
                refine call_bas fun tb H8 hE8 htb => ?_
                walk_at "go"
                refine call_scd (hav.ext (e3.trans hE8)) (hb3.ext hE8) (ba.up (by decide)) (fok_base n) fun ow H9 hE9 how => ?_
                walk_at "go"
                refine call_frm ((hb3.ext hE8).ext hE9) (base1_ok n) (by show 1 ≤ 500; decide) fun u H10 hE10 hu => ?_
                walk_at "go"
                refine call_alk ((htb.ext hE9).ext hE10) hu (sm_form (by show 1 ≤ 1000; decide)) fun H11 hE11 => ?_
                have e911 := hE10.trans hE11
                have e811 := hE9.trans e911
                have e11 := (e3.trans hE8).trans e811
                have gb : G ns (a * 0) (R1.sc a [(n, 1)]) := G.base hn ba
                walk_at "go"
                refine call_fti (hav.ext e11) (htb.ext e811) (ba.up (by decide)) (fok_base n) fun tl H12 hE12 htl => ?_
                walk_at "go"
                refine call_frm ((how.ext e911).ext hE12) gb.ok (by have := gb.len hs hl; omega) fun u H13 hE13 hu => ?_
                walk_at "go"
                refine call_alk (htl.ext hE13) hu (gb.sm hs hl) fun H14 hE14 => ?_
                have e1214 := hE13.trans hE14
                have e14 := (e11.trans hE12).trans e1214
                walk_at "go"
                intro p4 hp4
                have e15 : Ext H5 (upd H14 p4 (.tup [tl, ow])) := e14.newer hp4
                have e15' : Ext H14 (upd H14 p4 (.tup [tl, ow])) := Ext.new hp4
                have rn : RowAt ns (upd H14 p4 (.tup [tl, ow])) (.ref p4) := ⟨p4, tl, ow, _, _, rfl, L2.upd_same, (htl.ext e1214).ext e15', (((how.ext e911).ext hE12).ext e1214).ext e15', gb⟩
                exact call_sad (K := K) (E := E0) hs hl (R5.ext e15) k1 (r1.ext e15) rn fun H12 k' e12 R12 a b => q5 H12 k' ((Ext.del e15).trans e12) R12 a b
end
end Kf

end
section
set_option Elab.async false
set_option linter.all false
set_option maxRecDepth 100000
set_option maxHeartbeats 4000000
local macro_rules | `(tactic| walk_at "npl") => `(tactic| first | exact Kf.npl rfl | exact Kf.npl_ints _ | exact Kf.npl_one _ _ | exact Kf.npl_refs _ | assumption)
local macro_rules | `(tactic| walk_at "nn") => `(tactic| first
  | assumption
  | (refine' Kf.Ext.non ?nne ?nnh; (case nne => assumption); (case nnh => walk_at "nn")))
local macro_rules | `(tactic| walk_at "ext") => `(tactic| first
  | assumption
  | exact Kf.Ext.refl
  | (refine' Kf.Ext.newer ?exa ?exn; (case exn => assumption); (case exa => walk_at "ext"))
  | (refine' Kf.Ext.own ?exa ?exn; (case exn => walk_at "nn"); (case exa => walk_at "ext"))
  | (refine' Kf.Ext.trans ?exa ?exb; (case exb => assumption); (case exa => walk_at "ext")))
local macro_rules | `(tactic| walk_at "pool") => `(tactic| first
  | assumption
  | (refine' Kf.PoolAt.ext ?plh ?ple; (case plh => assumption); (case ple => walk_at "ext"))
  | (refine' Kf.PoolAt.upd ?plh ?plo ?pln; (case plo => assumption); (case pln => walk_at "npl"); (case plh => walk_at "pool")))
local macro_rules | `(tactic| walk_at "lk") => `(tactic| first
  | assumption
  | exact L2.upd_same
  | (refine' Kf.upd_old ?lkn ?lkh; (case lkn => assumption); (case lkh => walk_at "lk"))
  | (refine' Kf.upd_oth ?lkn ?lkh; (case lkn => (first | assumption | (apply Ne.symm; assumption))); (case lkh => walk_at "lk"))
  | (refine' Kf.Ext.get ?lke ?lkh ?lkn; (case lke => assumption); (case lkh => walk_at "lk"); (case lkn => walk_at "npl"))
  | (refine' L2.Same.at ?lke ?lkh; (case lke => assumption); (case lkh => walk_at "lk")))
local macro_rules | `(tactic| walk_at "sq") => `(tactic| first
  | assumption
  | (refine' L2.SqL.of ?sqh; (case sqh => walk_at "lk"))
  | (refine' L2.SqT.of ?sqh; (case sqh => walk_at "lk"))
  | (refine' Kf.Ext.seqL ?sqe ?sqh ?sqn; (case sqh => assumption); (case sqe => walk_at "ext"); (case sqn => walk_at "npl"))
  | (refine' Kf.Ext.seqT ?sqe ?sqh; (case sqh => assumption); (case sqe => walk_at "ext")))
local macro_rules | `(tactic| walk_at "at") => `(tactic| first | exact L2.atI_nat (j := 0) rfl | exact L2.atI_nat (j := 1) rfl | exact L2.atI_nat (j := 2) rfl | exact L2.atI_nat (j := 3) rfl | exact L2.atI_nat (j := 4) rfl | assumption)
local macro_rules | `(tactic| walk_at "ixn") => `(tactic| first | exact Kf.ixN_nat (j := 0) rfl | exact Kf.ixN_nat (j := 1) rfl | exact Kf.ixN_nat (j := 2) rfl | exact Kf.ixN_nat (j := 3) rfl | assumption)
local macro_rules | `(tactic| walk_at "set") => `(tactic| (first | (simp only [List.set_cons_succ, List.set_cons_zero]; rfl) | rfl))
local macro_rules | `(tactic| walk_at "om") => `(tactic| first | decide | omega | (simp only [List.length_map, List.length_cons, List.length_nil] at *; omega))
local macro_rules | `(tactic| walk_at "calls") => `(tactic| first
  | (with_reducible refine' Kf.call_take ?clp ?cla ?clb ?clq; (case clp => walk_at "pool"); (case cla => walk_at "om"); (case clb => walk_at "om"); intro r H' hE h0 h1)
  | (with_reducible refine' Kf.call_pool ?cls ?cla ?clq; (case cls => walk_at "sq"); (case cla => walk_at "om"); intro p H' hE hN hP)
  | (with_reducible refine' Kf.call_turn ?cls ?clp ?cla ?clq; (case cls => walk_at "sq"); (case clp => walk_at "pool"); (case cla => walk_at "om"); intro u H' hE hP))
local macro_rules | `(tactic| walk_at "side") => `(tactic| first
  | exact Kf.cmul_fmod (by decide) (by decide)
  | exact rfl
  | decide
  | omega
  | assumption
  | (refine ⟨?_, ?_⟩ <;> decide)
  | (refine ⟨?_, ?_, ?_⟩ <;> decide)
  | (refine ⟨?_, ?_⟩ <;> omega)
  | (refine Or.inl ⟨?_, ?_⟩ <;> decide)
  | (refine Or.inr ⟨?_, ?_⟩ <;> decide)
  | (refine Or.inl ⟨?_, ?_⟩ <;> omega)
  | (refine Or.inr ⟨?_, ?_⟩ <;> omega))
local macro_rules | `(tactic| walk_at "kit") => `(tactic| first | exact Kf.isi_int_int | exact Kf.isi_int_bool | exact Kf.isi_int_str | exact Kf.isi_int_list | exact Kf.isi_int_tuple | exact Kf.isi_bool_int | exact Kf.isi_bool_bool | exact Kf.isi_bool_str | exact Kf.isi_bool_list | exact Kf.isi_bool_tuple | exact Kf.isi_str_int | exact Kf.isi_str_bool | exact Kf.isi_str_str | exact Kf.isi_str_list | exact Kf.isi_str_tuple | exact Kf.isi_non_list | exact Kf.isi_non_tuple | exact Kf.isi_list_list | exact Kf.isi_list_tuple | exact Kf.isi_tuple_list | exact Kf.isi_tuple_tuple | exact Kf.isi_dict_dict)
local macro_rules | `(tactic| walk_at "ty") => `(tactic| first
  | exact L2.TyX.base (L2.TyOf.int _)
  | exact L2.TyX.base (L2.TyOf.bl _)
  | exact L2.TyX.base (L2.TyOf.str _)
  | exact L2.TyX.base L2.TyOf.non
  | (refine' L2.TyX.base (L2.TyOf.lst ?tyh); (case tyh => walk_at "lk"))
  | (refine' L2.TyX.base (L2.TyOf.tup ?tyh); (case tyh => walk_at "lk"))
  | (refine' L2.TyX.base (L2.TyOf.dK ?tyh); (case tyh => walk_at "lk")))
local macro_rules | `(tactic| walk_at "om2") => `(tactic| first | assumption | decide | omega)
local macro_rules | `(tactic| walk_at "st") => `(tactic| with_reducible first
  | (refine Kf.w_var rfl ?_)
  | (refine Kf.w_c ?_)
  | (refine Kf.w_seq ?_)
  | (refine Kf.w_asg ?_)
  | (refine' Kf.w_gname ?sth ?_; (case sth => with_unfolding_all walk_at "set"))
  | (refine Kf.w_op ?_)
  | (refine Kf.w_un ?_)
  | (refine Kf.w_rU ?_)
  | (refine Kf.w_rI0 ?_)
  | (refine' Kf.w_rI ?sth ?_; (case sth => with_unfolding_all walk_at "side"))
  | (refine' Kf.w_rEq ?sth ?_; (case sth => with_unfolding_all rfl))
  | (refine' Kf.w_rNe ?sth ?_; (case sth => with_unfolding_all rfl))
  | (refine Kf.w_tTest ?_)
  | (refine Kf.w_tB ?_)
  | (refine Kf.w_exbl ?_)
  | (refine Kf.w_exint ?_)
  | (refine Kf.w_ifS ?_)
  | (refine Kf.w_ret ?_)
  | (refine Kf.w_retN ?_)
  | (refine Kf.w_drop ?_)
  | (refine Kf.w_and ?_)
  | (refine Kf.w_or ?_)
  | (refine Kf.w_not ?_)
  | (refine Kf.w_andV ?_)
  | (refine Kf.w_orV ?_)
  | (refine Kf.w_notV ?_)
  | (refine Kf.w_if ?_)
  | (refine Kf.w_lc ?_)
  | (refine Kf.w_for ?_)
  | (refine Kf.w_rng1 ?_)
  | (refine' Kf.w_rng1x ?sth ?stg ?_; (case sth => with_unfolding_all walk_at "om"); (case stg => with_unfolding_all walk_at "om"))
  | (refine Kf.w_ilist ?_)
  | (refine Kf.w_iseq ?_)
  | (refine Kf.w_itup ?_)
  | (refine' Kf.w_ilistx ?sth ?_; (case sth => with_unfolding_all walk_at "sq"))
  | (refine' Kf.w_itupx ?sth ?_; (case sth => with_unfolding_all walk_at "sq"))
  | (refine' Kf.w_wipe ?sth ?_; (case sth => with_unfolding_all rfl))
  | (refine Kf.w_yes ?_)
  | (refine' Kf.w_isi ?sth ?stg ?_; (case sth => with_unfolding_all walk_at "ty"); (case stg => walk_at "kit"))
  | (refine Kf.w_isN ?_)
  | (refine Kf.w_notN ?_)
  | (refine Kf.w_cb ?_)
  | (refine Kf.w_nil ?_)
  | (refine Kf.w_cons ?_)
  | (refine Kf.w_tup ?_)
  | (refine Kf.w_lst ?_)
  | (refine' Kf.w_lines ?sth ?_; (case sth => with_unfolding_all rfl))
  | (refine Kf.w_call ?_)
  | (refine Kf.w_next ?_)
  | (refine Kf.w_break ?_)
  | (refine Kf.w_cont ?_)
  | (refine Kf.w_dnewK ?_)
  | (refine Kf.w_ikeys ?_)
  | (refine Kf.w_dput ?_)
  | (refine Kf.w_dget2 ?_)
  | (refine Kf.w_dget ?_)
  | (refine Kf.w_sl ?_)
  | (refine Kf.w_nopart ?_)
  | (refine Kf.w_part ?_)
  | (refine Kf.w_bm ?_)
  | (refine Kf.w_bm0 ?_)
  | (refine' Kf.w_bmL ?sth ?_; (case sth => with_unfolding_all walk_at "lk"))
  | (refine' Kf.w_cat ?sth ?stg ?stf ?_; (case sth => with_unfolding_all walk_at "lk"); (case stg => with_unfolding_all walk_at "lk"); (case stf => with_unfolding_all walk_at "om"))
  | (refine' Kf.w_slL ?sth ?_; (case sth => with_unfolding_all walk_at "sq"))
  | (refine' Kf.w_inL ?sth ?_; (case sth => with_unfolding_all walk_at "sq"))
  | (refine' Kf.w_inT ?sth ?_; (case sth => with_unfolding_all walk_at "sq"))
  | (refine' Kf.w_ninL ?sth ?_; (case sth => with_unfolding_all walk_at "sq"))
  | (refine' Kf.w_ninT ?sth ?_; (case sth => with_unfolding_all walk_at "sq"))
  | (refine' Kf.w_listof ?sth ?_; (case sth => with_unfolding_all walk_at "sq"))
  | (refine' Kf.w_tupof ?sth ?_; (case sth => with_unfolding_all walk_at "sq"))
  | (refine Kf.w_listRev ?_)
  | (refine Kf.w_gsub ?_)
  | (refine' Kf.w_ixL ?sth ?stg ?_; (case sth => with_unfolding_all walk_at "sq"); (case stg => with_unfolding_all walk_at "at"))
  | (refine' Kf.w_ixT ?sth ?stg ?_; (case sth => with_unfolding_all walk_at "sq"); (case stg => with_unfolding_all walk_at "at"))
  | (refine' Kf.w_setL ?sth ?stg ?_; (case sth => with_unfolding_all walk_at "lk"); (case stg => with_unfolding_all walk_at "ixn"))
  | (refine' Kf.w_len ?sth ?_; (case sth => with_unfolding_all walk_at "sq"))
  | (refine' Kf.w_lenT ?sth ?_; (case sth => with_unfolding_all walk_at "sq"))
  | (refine Kf.w_int1 ?_)
  | (refine Kf.w_intb ?_)
  | (refine Kf.w_abs ?_)
  | (refine Kf.w_aug rfl ?_)
  | (refine Kf.w_par ?_)
  | (refine' Kf.w_gtup ?sth ?stg ?_; (case sth => with_unfolding_all walk_at "sq"); (case stg => with_unfolding_all exact rfl))
  | (refine' Kf.w_glst ?sth ?stg ?_; (case sth => with_unfolding_all walk_at "sq"); (case stg => with_unfolding_all exact rfl))
  | (refine Kf.w_rng2 ?_)
  | (refine Kf.w_rng3 ?_)
  | (refine' Kf.w_rng2x ?sth ?stg ?stf ?ste ?_; (case sth => with_unfolding_all walk_at "om"); (case stg => with_unfolding_all walk_at "om"); (case stf => with_unfolding_all walk_at "om"); (case ste => with_unfolding_all walk_at "om"))
  | (refine Kf.w_gcons ?_)
  | (refine Kf.w_gnil ?_)
  | (refine Kf.w_gcd ?_)
  | (refine Kf.w_bits ?_)
  | (refine Kf.w_two ?_)
  | (refine Kf.w_ipI ?_)
  | (refine L2.iteT ?_)
  | (refine L2.iteF ?_)
  | (refine Kf.iteNT ?_)
  | (refine Kf.iteNF ?_)
  | (refine' Kf.ite_decT ?sth ?_; (case sth => exact rfl))
  | (refine' Kf.ite_decF ?sth ?_; (case sth => with_unfolding_all (intro e; cases e; done)))
  | (refine' Kf.ite_ndecF ?sth ?_; (case sth => exact rfl))
  | (refine' Kf.ite_ndecT ?sth ?_; (case sth => with_unfolding_all (intro e; cases e; done)))
  | (refine' Kf.ite_viT ?sth ?_; (case sth => (with_unfolding_all walk_at "om2")))
  | (refine' Kf.ite_viF ?sth ?_; (case sth => (with_unfolding_all walk_at "om2")))
  | (refine' Kf.ite_nviT ?sth ?_; (case sth => (with_unfolding_all walk_at "om2")))
  | (refine' Kf.ite_nviF ?sth ?_; (case sth => (with_unfolding_all walk_at "om2")))
  | (refine' Kf.ite_decT ?sth ?_; (case sth => (with_unfolding_all walk_at "om2")))
  | (refine' Kf.ite_decF ?sth ?_; (case sth => (with_unfolding_all walk_at "om2")))
  | with_unfolding_all walk_at "calls")
local macro_rules | `(tactic| walk_at "go") => `(tactic| repeat walk_at "st")

namespace Kf
open PySem PySem.Spec PyProof.Rows L2
open R0 (Bd)
open R1 (mg Ok Rows val)
theorem hits_same {A : Around} {s : Shared} {ls : List (Key × V)} {vb : List (Key × Value)} (rb : KV ls vb) {ks : List (Key × V)} {va : List (Key × Value)} (ra : KV ks va) :
    (∀ p ∈ ks, ∃ a, p.2 = .ref a ∧ valV ls p.1 = some (.ref a)) → PySem.W.KeqHits A s vb va true := by
  unfold KV at ra
  induction ra with
  | nil => intro _; exact .nil
  | @cons p q ps qs h t k =>
    intro hp
    obtain ⟨h1, h2⟩ := h
    obtain ⟨a, e0, e⟩ := hp p List.mem_cons_self
    have rr : RelO (some (.ref a)) (valueAt vb p.1) := by rw [← e]; exact rb.val p.1
    obtain ⟨y, hy, ry⟩ := rr.some_of
    obtain ⟨key, v⟩ := q
    have h1' : p.1 = key := h1
    rw [h1'] at hy
    rw [e0] at h2
    cases (show v = Value.ref a from h2)
    cases (show y = Value.ref a from ry)
    show PySem.W.KeqHits A s vb ((key, .ref a) :: qs) (true && true)
    exact .hit hy (SeqAt.EqAt.same _) (k fun p' hm => hp p' (List.mem_cons_of_mem _ hm))
def rNeDS : R2 := fun x y H Q => ∃ a b ks, x = .ref a ∧ y = .ref b ∧ H a = some (.dK ks) ∧ H b = some (.dK ks) ∧ (∀ p ∈ ks, ∃ a, p.2 = .ref a ∧ valV ks p.1 = some (.ref a)) ∧ Q (.bl false) H
theorem op_ne_dictS {X : Cx} (hu : X.A.units < cLine) : OpR X (compareOp .NotEq) rNeDS := by
  intro pins s σ H x y v u Q I rx ry h
  obtain ⟨a, b, ks, rfl, rfl, ea, eb, hp, q⟩ := h
  obtain rfl : v = Value.ref a := rx
  obtain rfl : u = Value.ref b := ry
  obtain ⟨_, ya, va, ra, da⟩ := (show ObjOk X.prog X.w H s.heap a (.dK ks) from I.hok a _ ea)
  obtain ⟨_, yb, vb, rb, db⟩ := (show ObjOk X.prog X.w H s.heap b (.dK ks) from I.hok b _ eb)
  have hl : va.length = vb.length := by rw [← ra.length, ← rb.length]
  exact PySem.W.keq_ne (knd := mixKind X.prog X.w) (r := true) ya yb da db hu (fun _ => hits_same rb ra hp) ⟨.bl false, H, I, (by simp [hl]; rfl), q⟩
theorem DkL.refs {H : Hp} : ∀ {kvs : List (Key × V)} {l : Rows}, DkL H kvs l → R1.Nd l → ∀ p ∈ kvs, ∃ a, p.2 = .ref a ∧ valV kvs p.1 = some (.ref a)
  | [], [], _, _ => fun p h => nomatch h
  | (k, v) :: kvs, (n, r) :: l, h, nd => by
    obtain ⟨h1, h2, h3⟩ := h
    dsimp only at h1 h2
    subst h1
    obtain ⟨a, rfl, _⟩ := h2.pair
    have nd' := List.nodup_cons.mp (show ((n, r) :: l).map (·.1) |>.Nodup from nd)
    intro p hp
    rcases List.mem_cons.mp hp with e | e
    · subst e; exact ⟨a, rfl, valV_pos rfl⟩
    · obtain ⟨b, e1, e2⟩ := DkL.refs h3 nd'.2 p e
      refine ⟨b, e1, ?_⟩
      rw [valV_neg fun z => ?_]
      · exact e2
      · have hk : p.1 ∈ kvs.map (·.1) := List.mem_map.mpr ⟨p, e, rfl⟩
        rw [h3.keys, ← z] at hk
        obtain ⟨m, hm, em⟩ := List.mem_map.mp hk
        cases em
        exact nd'.1 hm
  | [], _ :: _, h, _ => h.elim
  | _ :: _, [], h, _ => h.elim
end Kf

end
section
set_option Elab.async false
set_option linter.all false
set_option maxRecDepth 100000
set_option maxHeartbeats 4000000
local macro_rules | `(tactic| walk_at "npl") => `(tactic| first | exact Kf.npl rfl | exact Kf.npl_ints _ | exact Kf.npl_one _ _ | exact Kf.npl_refs _ | assumption)
local macro_rules | `(tactic| walk_at "nn") => `(tactic| first
  | assumption
  | (refine' Kf.Ext.non ?nne ?nnh; (case nne => assumption); (case nnh => walk_at "nn")))
local macro_rules | `(tactic| walk_at "ext") => `(tactic| first
  | assumption
  | exact Kf.Ext.refl
  | (refine' Kf.Ext.newer ?exa ?exn; (case exn => assumption); (case exa => walk_at "ext"))
  | (refine' Kf.Ext.own ?exa ?exn; (case exn => walk_at "nn"); (case exa => walk_at "ext"))
  | (refine' Kf.Ext.trans ?exa ?exb; (case exb => assumption); (case exa => walk_at "ext")))
local macro_rules | `(tactic| walk_at "pool") => `(tactic| first
  | assumption
  | (refine' Kf.PoolAt.ext ?plh ?ple; (case plh => assumption); (case ple => walk_at "ext"))
  | (refine' Kf.PoolAt.upd ?plh ?plo ?pln; (case plo => assumption); (case pln => walk_at "npl"); (case plh => walk_at "pool")))
local macro_rules | `(tactic| walk_at "lk") => `(tactic| first
  | assumption
  | exact L2.upd_same
  | (refine' Kf.upd_old ?lkn ?lkh; (case lkn => assumption); (case lkh => walk_at "lk"))
  | (refine' Kf.upd_oth ?lkn ?lkh; (case lkn => (first | assumption | (apply Ne.symm; assumption))); (case lkh => walk_at "lk"))
  | (refine' Kf.Ext.get ?lke ?lkh ?lkn; (case lke => assumption); (case lkh => walk_at "lk"); (case lkn => walk_at "npl"))
  | (refine' L2.Same.at ?lke ?lkh; (case lke => assumption); (case lkh => walk_at "lk")))
local macro_rules | `(tactic| walk_at "sq") => `(tactic| first
  | assumption
  | (refine' L2.SqL.of ?sqh; (case sqh => walk_at "lk"))
  | (refine' L2.SqT.of ?sqh; (case sqh => walk_at "lk"))
  | (refine' Kf.Ext.seqL ?sqe ?sqh ?sqn; (case sqh => assumption); (case sqe => walk_at "ext"); (case sqn => walk_at "npl"))
  | (refine' Kf.Ext.seqT ?sqe ?sqh; (case sqh => assumption); (case sqe => walk_at "ext")))
local macro_rules | `(tactic| walk_at "at") => `(tactic| first | exact L2.atI_nat (j := 0) rfl | exact L2.atI_nat (j := 1) rfl | exact L2.atI_nat (j := 2) rfl | exact L2.atI_nat (j := 3) rfl | exact L2.atI_nat (j := 4) rfl | assumption)
local macro_rules | `(tactic| walk_at "ixn") => `(tactic| first | exact Kf.ixN_nat (j := 0) rfl | exact Kf.ixN_nat (j := 1) rfl | exact Kf.ixN_nat (j := 2) rfl | exact Kf.ixN_nat (j := 3) rfl | assumption)
local macro_rules | `(tactic| walk_at "set") => `(tactic| (first | (simp only [List.set_cons_succ, List.set_cons_zero]; rfl) | rfl))
local macro_rules | `(tactic| walk_at "om") => `(tactic| first | decide | omega | (simp only [List.length_map, List.length_cons, List.length_nil] at *; omega))
local macro_rules | `(tactic| walk_at "calls") => `(tactic| first
  | (with_reducible refine' Kf.call_take ?clp ?cla ?clb ?clq; (case clp => walk_at "pool"); (case cla => walk_at "om"); (case clb => walk_at "om"); intro r H' hE h0 h1)
  | (with_reducible refine' Kf.call_pool ?cls ?cla ?clq; (case cls => walk_at "sq"); (case cla => walk_at "om"); intro p H' hE hN hP)
  | (with_reducible refine' Kf.call_turn ?cls ?clp ?cla ?clq; (case cls => walk_at "sq"); (case clp => walk_at "pool"); (case cla => walk_at "om"); intro u H' hE hP))
local macro_rules | `(tactic| walk_at "side") => `(tactic| first
  | exact Kf.cmul_fmod (by decide) (by decide)
  | exact rfl
  | decide
  | omega
  | assumption
  | (refine ⟨?_, ?_⟩ <;> decide)
  | (refine ⟨?_, ?_, ?_⟩ <;> decide)
  | (refine ⟨?_, ?_⟩ <;> omega)
  | (refine Or.inl ⟨?_, ?_⟩ <;> decide)
  | (refine Or.inr ⟨?_, ?_⟩ <;> decide)
  | (refine Or.inl ⟨?_, ?_⟩ <;> omega)
  | (refine Or.inr ⟨?_, ?_⟩ <;> omega))
local macro_rules | `(tactic| walk_at "kit") => `(tactic| first | exact Kf.isi_int_int | exact Kf.isi_int_bool | exact Kf.isi_int_str | exact Kf.isi_int_list | exact Kf.isi_int_tuple | exact Kf.isi_bool_int | exact Kf.isi_bool_bool | exact Kf.isi_bool_str | exact Kf.isi_bool_list | exact Kf.isi_bool_tuple | exact Kf.isi_str_int | exact Kf.isi_str_bool | exact Kf.isi_str_str | exact Kf.isi_str_list | exact Kf.isi_str_tuple | exact Kf.isi_non_list | exact Kf.isi_non_tuple | exact Kf.isi_list_list | exact Kf.isi_list_tuple | exact Kf.isi_tuple_list | exact Kf.isi_tuple_tuple | exact Kf.isi_dict_dict)
local macro_rules | `(tactic| walk_at "ty") => `(tactic| first
  | exact L2.TyX.base (L2.TyOf.int _)
  | exact L2.TyX.base (L2.TyOf.bl _)
  | exact L2.TyX.base (L2.TyOf.str _)
  | exact L2.TyX.base L2.TyOf.non
  | (refine' L2.TyX.base (L2.TyOf.lst ?tyh); (case tyh => walk_at "lk"))
  | (refine' L2.TyX.base (L2.TyOf.tup ?tyh); (case tyh => walk_at "lk"))
  | (refine' L2.TyX.base (L2.TyOf.dK ?tyh); (case tyh => walk_at "lk")))
local macro_rules | `(tactic| walk_at "om2") => `(tactic| first | assumption | decide | omega)
local macro_rules | `(tactic| walk_at "st") => `(tactic| with_reducible first
  | (refine Kf.w_var rfl ?_)
  | (refine Kf.w_c ?_)
  | (refine Kf.w_seq ?_)
  | (refine Kf.w_asg ?_)
  | (refine' Kf.w_gname ?sth ?_; (case sth => with_unfolding_all walk_at "set"))
  | (refine Kf.w_op ?_)
  | (refine Kf.w_un ?_)
  | (refine Kf.w_rU ?_)
  | (refine Kf.w_rI0 ?_)
  | (refine' Kf.w_rI ?sth ?_; (case sth => with_unfolding_all walk_at "side"))
  | (refine' Kf.w_rEq ?sth ?_; (case sth => with_unfolding_all rfl))
  | (refine' Kf.w_rNe ?sth ?_; (case sth => with_unfolding_all rfl))
  | (refine Kf.w_tTest ?_)
  | (refine Kf.w_tB ?_)
  | (refine Kf.w_exbl ?_)
  | (refine Kf.w_exint ?_)
  | (refine Kf.w_ifS ?_)
  | (refine Kf.w_ret ?_)
  | (refine Kf.w_retN ?_)
  | (refine Kf.w_drop ?_)
  | (refine Kf.w_and ?_)
  | (refine Kf.w_or ?_)
  | (refine Kf.w_not ?_)
  | (refine Kf.w_andV ?_)
  | (refine Kf.w_orV ?_)
  | (refine Kf.w_notV ?_)
  | (refine Kf.w_if ?_)
  | (refine Kf.w_lc ?_)
  | (refine Kf.w_for ?_)
  | (refine Kf.w_rng1 ?_)
  | (refine' Kf.w_rng1x ?sth ?stg ?_; (case sth => with_unfolding_all walk_at "om"); (case stg => with_unfolding_all walk_at "om"))
  | (refine Kf.w_ilist ?_)
  | (refine Kf.w_iseq ?_)
  | (refine Kf.w_itup ?_)
  | (refine' Kf.w_ilistx ?sth ?_; (case sth => with_unfolding_all walk_at "sq"))
  | (refine' Kf.w_itupx ?sth ?_; (case sth => with_unfolding_all walk_at "sq"))
  | (refine' Kf.w_wipe ?sth ?_; (case sth => with_unfolding_all rfl))
  | (refine Kf.w_yes ?_)
  | (refine' Kf.w_isi ?sth ?stg ?_; (case sth => with_unfolding_all walk_at "ty"); (case stg => walk_at "kit"))
  | (refine Kf.w_isN ?_)
  | (refine Kf.w_notN ?_)
  | (refine Kf.w_cb ?_)
  | (refine Kf.w_nil ?_)
  | (refine Kf.w_cons ?_)
  | (refine Kf.w_tup ?_)
  | (refine Kf.w_lst ?_)
  | (refine' Kf.w_lines ?sth ?_; (case sth => with_unfolding_all rfl))
  | (refine Kf.w_call ?_)
  | (refine Kf.w_next ?_)
  | (refine Kf.w_break ?_)
  | (refine Kf.w_cont ?_)
  | (refine Kf.w_dnewK ?_)
  | (refine Kf.w_ikeys ?_)
  | (refine Kf.w_dput ?_)
  | (refine Kf.w_dget2 ?_)
  | (refine Kf.w_dget ?_)
  | (refine Kf.w_sl ?_)
  | (refine Kf.w_nopart ?_)
  | (refine Kf.w_part ?_)
  | (refine Kf.w_bm ?_)
  | (refine Kf.w_bm0 ?_)
  | (refine' Kf.w_bmL ?sth ?_; (case sth => with_unfolding_all walk_at "lk"))
  | (refine' Kf.w_cat ?sth ?stg ?stf ?_; (case sth => with_unfolding_all walk_at "lk"); (case stg => with_unfolding_all walk_at "lk"); (case stf => with_unfolding_all walk_at "om"))
  | (refine' Kf.w_slL ?sth ?_; (case sth => with_unfolding_all walk_at "sq"))
  | (refine' Kf.w_inL ?sth ?_; (case sth => with_unfolding_all walk_at "sq"))
  | (refine' Kf.w_inT ?sth ?_; (case sth => with_unfolding_all walk_at "sq"))
  | (refine' Kf.w_ninL ?sth ?_; (case sth => with_unfolding_all walk_at "sq"))
  | (refine' Kf.w_ninT ?sth ?_; (case sth => with_unfolding_all walk_at "sq"))
  | (refine' Kf.w_listof ?sth ?_; (case sth => with_unfolding_all walk_at "sq"))
  | (refine' Kf.w_tupof ?sth ?_; (case sth => with_unfolding_all walk_at "sq"))
  | (refine Kf.w_listRev ?_)
  | (refine Kf.w_gsub ?_)
  | (refine' Kf.w_ixL ?sth ?stg ?_; (case sth => with_unfolding_all walk_at "sq"); (case stg => with_unfolding_all walk_at "at"))
  | (refine' Kf.w_ixT ?sth ?stg ?_; (case sth => with_unfolding_all walk_at "sq"); (case stg => with_unfolding_all walk_at "at"))
  | (refine' Kf.w_setL ?sth ?stg ?_; (case sth => with_unfolding_all walk_at "lk"); (case stg => with_unfolding_all walk_at "ixn"))
  | (refine' Kf.w_len ?sth ?_; (case sth => with_unfolding_all walk_at "sq"))
  | (refine' Kf.w_lenT ?sth ?_; (case sth => with_unfolding_all walk_at "sq"))
  | (refine Kf.w_int1 ?_)
  | (refine Kf.w_intb ?_)
  | (refine Kf.w_abs ?_)
  | (refine Kf.w_aug rfl ?_)
  | (refine Kf.w_par ?_)
  | (refine' Kf.w_gtup ?sth ?stg ?_; (case sth => with_unfolding_all walk_at "sq"); (case stg => with_unfolding_all exact rfl))
  | (refine' Kf.w_glst ?sth ?stg ?_; (case sth => with_unfolding_all walk_at "sq"); (case stg => with_unfolding_all exact rfl))
  | (refine Kf.w_rng2 ?_)
  | (refine Kf.w_rng3 ?_)
  | (refine' Kf.w_rng2x ?sth ?stg ?stf ?ste ?_; (case sth => with_unfolding_all walk_at "om"); (case stg => with_unfolding_all walk_at "om"); (case stf => with_unfolding_all walk_at "om"); (case ste => with_unfolding_all walk_at "om"))
  | (refine Kf.w_gcons ?_)
  | (refine Kf.w_gnil ?_)
  | (refine Kf.w_gcd ?_)
  | (refine Kf.w_bits ?_)
  | (refine Kf.w_two ?_)
  | (refine Kf.w_ipI ?_)
  | (refine L2.iteT ?_)
  | (refine L2.iteF ?_)
  | (refine Kf.iteNT ?_)
  | (refine Kf.iteNF ?_)
  | (refine' Kf.ite_decT ?sth ?_; (case sth => exact rfl))
  | (refine' Kf.ite_decF ?sth ?_; (case sth => with_unfolding_all (intro e; cases e; done)))
  | (refine' Kf.ite_ndecF ?sth ?_; (case sth => exact rfl))
  | (refine' Kf.ite_ndecT ?sth ?_; (case sth => with_unfolding_all (intro e; cases e; done)))
  | (refine' Kf.ite_viT ?sth ?_; (case sth => (with_unfolding_all walk_at "om2")))
  | (refine' Kf.ite_viF ?sth ?_; (case sth => (with_unfolding_all walk_at "om2")))
  | (refine' Kf.ite_nviT ?sth ?_; (case sth => (with_unfolding_all walk_at "om2")))
  | (refine' Kf.ite_nviF ?sth ?_; (case sth => (with_unfolding_all walk_at "om2")))
  | (refine' Kf.ite_decT ?sth ?_; (case sth => (with_unfolding_all walk_at "om2")))
  | (refine' Kf.ite_decF ?sth ?_; (case sth => (with_unfolding_all walk_at "om2")))
  | with_unfolding_all walk_at "calls")
local macro_rules | `(tactic| walk_at "go") => `(tactic| repeat walk_at "st")

namespace Kf
open PySem PySem.Spec PyProof.Rows L2
open R0 (Bd)
open R1 (mg Ok Rows val)
abbrev s__law_worth : Stmt := topS 37
abbrev N__law_worth : List Str := ["own", "values", "top", "bottom", "node", "a", "b"]
abbrev P__law_worth : List Str := ["own", "values"]
theorem sc__law_worth : FnScope N__law_worth P__law_worth (defScope s__law_worth) := ⟨rfl, rfl, rfl, by decide +kernel, rfl, by decide +kernel, by decide +kernel⟩
abbrev s__law_valued : Stmt := topS 38
abbrev N__law_valued : List Str := ["row", "values", "top", "bottom", "handed", "told"]
abbrev P__law_valued : List Str := ["row", "values"]
theorem sc__law_valued : FnScope N__law_valued P__law_valued (defScope s__law_valued) := ⟨rfl, rfl, rfl, by decide +kernel, rfl, by decide +kernel, by decide +kernel⟩
theorem bd80_val {l : Rows} (h : ∀ x ∈ l, Bd 70 x.2) (n : Int) : Bd 70 (val l n) := bd_val h ⟨by decide, by decide⟩
theorem DkR.lock {H : Hp} {d e : Addr} {l : Rows} {od : Obj} {ks : List (Key × V)} (h : DkR H d l) (he : H e = some (.dK ks)) : DkR (upd H e (.frz od (.dK ks))) d l := by
  obtain ⟨kvs, h1, h2⟩ := h
  refine ⟨kvs, ?_, h2.over (dk_nt he) (dk_nl he)⟩
  by_cases z : d = e
  · subst z
    rcases h1 with h1 | ⟨o, h1⟩
    · rw [he] at h1; cases h1; exact .inr ⟨od, L2.upd_same⟩
    · rw [he] at h1; cases h1
  · rcases h1 with h1 | ⟨o, h1⟩
    · exact .inl (upd_oth z h1)
    · exact .inr ⟨o, upd_oth z h1⟩
/-- the own sum of products behind one more row -/
theorem worth_step {top bot : Int} {e r v : Rat} (h : ((top : Int) : Rat) = ((bot : Int) : Rat) * e) :
    (((top * r.den * v.den + r.num * v.num * bot : Int)) : Rat) = ((bot * r.den * v.den : Int) : Rat) * (e + r * v) := by
  rw [Rat.intCast_add, Rat.intCast_mul, Rat.intCast_mul, Rat.intCast_mul, Rat.intCast_mul, Rat.intCast_mul, Rat.intCast_mul, h]
  have ha := R0.at_div r; have hb := R0.at_div v; have na := R0.den_ne r; have nb := R0.den_ne v
  generalize ((r.num : Int) : Rat) = p at *
  generalize ((v.num : Int) : Rat) = q at *
  generalize ((r.den : Int) : Rat) = s at *
  generalize ((v.den : Int) : Rat) = t at *
  generalize ((bot : Int) : Rat) = b at *
  subst ha hb
  grind
theorem worth_end {top bot : Int} {e : Rat} (h : ((top : Int) : Rat) = ((bot : Int) : Rat) * e) : e.num * bot = top * (e.den : Int) := by
  have q : ((e.num * bot : Int) : Rat) = ((top * (e.den : Int) : Int) : Rat) := by
    rw [Rat.intCast_mul, Rat.intCast_mul, h]
    have ha := R0.at_div e; have na := R0.den_ne e
    generalize ((e.num : Int) : Rat) = p at *
    generalize ((e.den : Int) : Rat) = s at *
    generalize ((bot : Int) : Rat) = b at *
    subst ha
    grind
  exact Rat.intCast_inj.mp q
section
variable {P : Program} {w : World} {K : PySem.W.Frag} {mg' : Str → Option Value} {base : Heap} {H : Hp} {Q : VK} {E : XK}
def spWor (K : PySem.W.Frag) : Sp := fun vs H Q _ => ∃ (y : V) (d : Addr) (c : Rat) (f l : Rows), vs = [y, .ref d] ∧ OwnAt H y c f ∧ DkAt H d l ∧ FOk c f ∧ f.length ≤ 12 ∧ (∀ x ∈ f, x.1 ∈ l.map (·.1)) ∧ (∀ x ∈ l, Bd 70 x.2) ∧
  ∀ p H' (top bot : Int), Ext H H' → H' p = some (.tup [.int top, .int bot]) → ((top : Int) : Rat) = ((bot : Int) : Rat) * R1.ev (val l) c f → top.natAbs < 2 ^ 3800 → bot.natAbs < 2 ^ 3800 → Q (.ref p) H'
theorem ok_worth (D : Df K mg' "_law_worth" s__law_worth P__law_worth) : Pr P w K mg' base "_law_worth" 1 P__law_worth (spWor K) := by
  refine D.ok sc__law_worth (fun vs H Q E h => ?_) (fun f cdv A outer s H vs Q E hr h => ?_)
  · obtain ⟨y, d, c, f, l, rfl, _⟩ := h; rfl
  obtain ⟨y, d, c, F, l, rfl, ⟨py, cy, dy, rfl, hpy, hcy, ⟨ky, hky, hly⟩⟩, hd, okF, hl, hF, hb, q⟩ := h
  obtain ⟨pc, rfl, hpc⟩ := hcy.pair
  have nd := sc__law_worth.nd
  have hu := hu_of hr
  refine ⟨_, (pss_cons (ps_asg (pe_ix (ix_tupK (K := K) rfl) (pv 0) pe_int (fun _ _ => rfl)) (pg_tup (by rfl) (pgs_cons (pg_name (i := 2) nd rfl (Or.inl rfl)) (pgs_cons (pg_name (i := 3) nd rfl (Or.inl rfl)) pgs_nil))))
      (pss_cons (ps_lock (ps_for PassesOwn.never rfl (pi_keys (pe_ix (ix_tupK (K := K) rfl) (pv 0) pe_int (fun _ _ => rfl))) (pg_name (i := 4) nd rfl (Or.inl rfl)) (pss_cons (ps_set (i := 5) nd rfl (Or.inl rfl) (pe_dget hu (pe_ix (ix_tupK (K := K) rfl) (pv 0) pe_int (fun _ _ => rfl)) (pv 4) (fun _ _ => rfl)))
      (pss_cons (ps_set (i := 6) nd rfl (Or.inl rfl) (pe_dget hu (pv 1) (pv 4) (fun _ _ => rfl)))
      (pss_cons (ps_set (i := 2) nd rfl (Or.inl rfl) (pe_op op_add (pe_op op_mulW (pe_op op_mulW (pv 2) (pe_ix (ix_tupK (K := K) rfl) (pv 5) pe_int (fun _ _ => rfl))) (pe_ix (ix_tupK (K := K) rfl) (pv 6) pe_int (fun _ _ => rfl))) (pe_op op_mulW (pe_op op_mulW (pe_ix (ix_tupK (K := K) rfl) (pv 5) pe_int (fun _ _ => rfl)) (pe_ix (ix_tupK (K := K) rfl) (pv 6) pe_int (fun _ _ => rfl))) (pv 3))))
      (pss_one (ps_set (i := 3) nd rfl (Or.inl rfl) (pe_op op_mulW (pe_op op_mulW (pv 3) (pe_ix (ix_tupK (K := K) rfl) (pv 5) pe_int (fun _ _ => rfl))) (pe_ix (ix_tupK (K := K) rfl) (pv 6) pe_int (fun _ _ => rfl))))))))))
      (pss_one (ps_ret (pe_tup (pa_cons (pv 2) (pa_cons (pv 3) pa_nil))))))), ?_⟩
  refine w_start (σ := [some _, some _, none, none, none, none, none]) rfl ?_
  walk_at "go"
  refine w_lock hky trivial fun od => ?_
  have hpy2 := upd_oth (u := .frz od (.dK ky)) (ne_tk hpy hky) hpy
  have hR2 : DkL (upd H dy (.frz od (.dK ky))) ky F := hly.over (dk_nt hky) (dk_nl hky)
  have hV2 : DkR (upd H dy (.frz od (.dK ky))) d l := hd.rd.lock hky
  have hF2 : upd H dy (.frz od (.dK ky)) dy = some (.frz od (.dK ky)) := L2.upd_same
  have back : ∀ H', Ext (upd H dy (.frz od (.dK ky))) H' → Ext H (upd H' dy (.dK ky)) := fun H' e => e.unlock hky (npl rfl)
  generalize upd H dy (.frz od (.dK ky)) = H2 at *
  walk_at "go"
  refine ⟨dy, od, rfl, .inl ⟨ky, hF2, ?_⟩⟩
  have lky := hly.len
  refine for_keysK (fun i σ H' => ∃ (top bot : Int) (t1 t2 t3 : Option V), σ = [some (.ref py), some (.ref d), some (.int top), some (.int bot), t1, t2, t3] ∧ Ext H2 H' ∧ ((top : Int) : Rat) = ((bot : Int) : Rat) * R1.ev (val l) c (F.take i) ∧ top.natAbs < 2 ^ (200 + 300 * i) ∧ bot.natAbs < 2 ^ (200 + 300 * i))
    ⟨_, _, _, _, _, rfl, Ext.refl, ?_, Bd.n okF.bc, Bd.d okF.bc⟩ (fun i σ H' _ ⟨_, _, _, _, _, _, e, _⟩ => e.get hF2 (npl rfl)) ?_ ?_
  · show _ = _ * c
    have ha := R0.at_div c; have na := R0.den_ne c
    generalize ((c.num : Int) : Rat) = p at *
    generalize ((c.den : Int) : Rat) = s at *
    subst ha
    grind
  · rintro i k v σ H3 hi ⟨top, bot, t1, t2, t3, rfl, e3, ht, bt, bb⟩
    obtain ⟨n, r, eF, rfl, _⟩ := hR2.el hi
    have il := (List.getElem?_eq_some_iff.mp eF).1
    have hdy3 := e3.get hF2 (npl rfl)
    have hpy3 := e3.get hpy2 (npl rfl)
    have hn : n ∈ F.map (·.1) := List.mem_map.mpr ⟨(n, r), List.mem_of_getElem? eF, rfl⟩
    have hnl : n ∈ l.map (·.1) := hF _ (List.mem_of_getElem? eF)
    have br := okF.br _ (List.mem_of_getElem? eF)
    have bv := bd80_val hb n
    dsimp only at br
    rw [show kV (Sum.inl n) = V.int n from rfl]
    walk_at "go"
    refine w_dgetF (l := F) ⟨ky, .inr ⟨od, hdy3⟩, hR2.ext e3⟩ hn fun u hu' => ?_
    rw [val_at okF.ok eF] at hu'
    obtain ⟨pu, rfl, hpu⟩ := hu'.pair
    walk_at "go"
    refine w_dgetF (hV2.ext e3) hnl fun v hv => ?_
    obtain ⟨pv, rfl, hpv⟩ := hv.pair
    have b1 := mul_bits (m := 200 + 300 * i + 200) bt (Bd.d br) (by omega)
    have b2 := mul_bits (m := 200 + 300 * i + 270) b1 (Bd.d bv) (by omega)
    have b3 := mul_bits (m := 270) (Bd.n br) (Bd.n bv) (by omega)
    have b4 := mul_bits (m := 200 + 300 * i + 270) b3 bb (by omega)
    have b5 := add_bits (m := 200 + 300 * (i + 1)) b2 b4 (by omega)
    have c1 := mul_bits (m := 200 + 300 * i + 200) bb (Bd.d br) (by omega)
    have c2 := mul_bits (m := 200 + 300 * (i + 1)) c1 (Bd.d bv) (by omega)
    walk_at "go"
    refine w_wmul bt (Bd.d br) (by omega) (by omega) (by omega) ?_
    walk_at "go"
    refine w_wmul b1 (Bd.d bv) (by omega) (by omega) (by omega) ?_
    walk_at "go"
    refine w_wmul (Bd.n br) (Bd.n bv) (by omega) (by omega) (by omega) ?_
    walk_at "go"
    refine w_wmul b3 bb (by omega) (by omega) (by omega) ?_
    walk_at "go"
    refine w_wmul bb (Bd.d br) (by omega) (by omega) (by omega) ?_
    walk_at "go"
    refine w_wmul c1 (Bd.d bv) (by omega) (by omega) (by omega) ?_
    walk_at "go"
    refine ⟨_, _, _, _, _, rfl, e3, ?_, b5, c2⟩
    rw [rows_take eF, R1.ev_snoc]
    exact worth_step ht
  · rintro σ H3 ⟨top, bot, t1, t2, t3, rfl, e3, ht, bt, bb⟩
    rw [lky, List.take_length] at ht
    rw [lky] at bt bb
    refine ⟨e3.get hF2 (npl rfl), ?_⟩
    have e4 := back _ e3
    generalize upd H3 dy (.dK ky) = H4 at *
    walk_at "go"
    intro p hp
    exact q p _ top bot (e4.newer hp) L2.upd_same ht (lt_up bt (by omega)) (lt_up bb (by omega))
theorem shaped_ints (ns : List Int) : SeqAt.shaped (.list (ns.map PyData.int)) = true := by
  unfold SeqAt.shaped
  exact PySem.W.ke_shaped_ints ns
theorem w_neL {a b : Addr} {ns : List Int} (h1 : H a = some (.lst (ns.map V.int))) (h2 : H b = some (.lst (ns.map V.int))) (q : Q (.bl false) H) : rNeD K (.ref a) (.ref b) H Q :=
  ⟨.list (ns.map .int), .list (ns.map .int), .lst (SqL.of h1) (DqAll.ints ns).dp, .lst (SqL.of h2) (DqAll.ints ns).dp, shaped_ints ns, shaped_ints ns, by
    have e : PyData.eqv (.list (ns.map .int)) (.list (ns.map .int)) = true := by
      simp only [PyData.eqv]
      rw [PySem.W.ked_eqvAll]; simp
    rw [e]; exact q⟩
theorem shaped_rD (r : Rat) : SeqAt.shaped (rD r) = true := rfl
theorem w_eqR {x y : V} {r : Rat} (h1 : Dq H x (rD r)) (h2 : Dq H y (rD r)) (q : Q (.bl true) H) : rEqD K x y H Q :=
  ⟨rD r, rD r, h1.dp, h2.dp, shaped_rD r, shaped_rD r, by
    have e : PyData.eqv (rD r) (rD r) = true := by
      simp [PyData.eqv, PyData.eqvAll]
    rw [e]; exact q⟩
def spVal (K : PySem.W.Frag) : Sp := fun vs H Q _ => ∃ (ns : List Int) (x : V) (d : Addr) (l : Rows), vs = [x, .ref d] ∧ ns.Pairwise (· < ·) ∧ ns.length = 12 ∧ RowAt ns H x ∧ DkAt H d l ∧ R1.Nd l ∧ l.length ≤ 20 ∧ (∀ n ∈ ns, n ∈ l.map (·.1)) ∧ (∀ x ∈ l, Bd 70 x.2) ∧ ∀ H', Ext H H' → Q (.bl true) H'
theorem ok_valued (D : Df K mg' "_law_valued" s__law_valued P__law_valued) (b_dict : mg' "dict" = none) (b_list : mg' "list" = none) (b_tuple : mg' "tuple" = none) (b_isinstance : mg' "isinstance" = none) (b_len : mg' "len" = none) (p__law_worth : Pr P w K mg' base "_law_worth" 1 P__law_worth (spWor K)) (p_form_value : Pr P w K mg' base "form_value" 3 P_form_value (spFVa K)) (p__law_whole : Pr P w K mg' base "_law_whole" 1 P__law_whole (spWhole K)) (p__law_lowest : Pr P w K mg' base "_law_lowest" 1 P__law_lowest (spLow K)) : Pr P w K mg' base "_law_valued" 4 P__law_valued (spVal K) := by
  refine D.ok sc__law_valued (fun vs H Q E h => ?_) (fun f cdv A outer s H vs Q E hr h => ?_)
  · obtain ⟨ns, x, d, l, rfl, _⟩ := h; rfl
  obtain ⟨ns, x, d, l, rfl, hs, hl, ⟨px, tx, ox, c, f, rfl, hpx, htx, hox, gf⟩, hd, hnd, hll, hnl, hb, q⟩ := h
  have nd := sc__law_valued.nd
  have okf := gf.fok hs hl
  have fl := gf.len hs hl
  have hf : ∀ x ∈ f, x.1 ∈ l.map (·.1) := fun x hx => hnl _ (gf.br x hx).2
  refine ⟨_, (pss_cons (ps_asg (pe_callP p__law_worth hr (pa_cons (pe_ix (ix_tupK (K := K) rfl) (pv 0) pe_int (fun _ _ => rfl)) (pa_cons (pv 1) pa_nil))) (pg_tup (by rfl) (pgs_cons (pg_name (i := 2) nd rfl (Or.inl rfl)) (pgs_cons (pg_name (i := 3) nd rfl (Or.inl rfl)) pgs_nil))))
      (pss_cons (ps_set (i := 4) nd rfl (Or.inl rfl) (pe_callTy call_dictD (by rfl) b_dict (by decide +kernel) (pa_cons (pv 1) pa_nil)))
      (pss_cons (ps_set (i := 5) nd rfl (Or.inl rfl) (pe_callP p_form_value hr (pa_cons (pe_ix (ix_tupK (K := K) rfl) (pv 0) pe_int (fun _ _ => rfl)) (pa_cons (pv 4) pa_nil))))
      (pss_cons (ps_if (PW.pt (pw_or (pt_cmpR (op_ne_dictS (Nat.lt_of_succ_lt (hu_of hr))) (pv 4) (pv 1) (nomark _)) (pw_or1 (pt_cmpR (op_neDK (K := K) rfl hr.units) (pe_callTy (call_listD (by rfl)) (by rfl) b_list (by decide +kernel) (pa_cons (pv 4) pa_nil)) (pe_callTy (call_listD (by rfl)) (by rfl) b_list (by decide +kernel) (pa_cons (pv 1) pa_nil)) (nomark _))))) (pss_one (ps_ret pe_bl)) pss_nil)
      (pss_cons (ps_if (PW.pt (pw_or (pt_not (pt_val (pe_callB (call_isiK1 (K := K) rfl) (by rfl) b_isinstance (by decide +kernel) (pa_cons (pv 5) (pa_cons (pe_bltn (v := .ty "tuple") (by rfl) b_tuple (by decide +kernel) rfl) pa_nil))))) (pw_or (pt_cmpR op_ne (pe_callB (call_lenK (K := K) rfl) (by rfl) b_len PySem.boot_len (pa_cons (pv 5) pa_nil)) pe_int (nomark _)) (pw_or (pt_not (pt_val (pe_callP p__law_whole hr (pa_cons (pe_ix (ix_tupK (K := K) rfl) (pv 5) pe_int (fun _ _ => rfl)) pa_nil)))) (pw_or1 (pt_not (pt_val (pe_callP p__law_whole hr (pa_cons (pe_ix (ix_tupK (K := K) rfl) (pv 5) pe_int (fun _ _ => rfl)) pa_nil))))))))) (pss_one (ps_ret pe_bl)) pss_nil)
      (pss_one (ps_ret (pe_and (pe_cmpR op_ge (pe_ix (ix_tupK (K := K) rfl) (pv 5) pe_int (fun _ _ => rfl)) pe_int (nomark _)) (pe_and (pe_cmpR (op_eqDK (K := K) rfl hr.units) (pe_callP p__law_lowest hr (pa_cons (pe_ix (ix_tupK (K := K) rfl) (pv 5) pe_int (fun _ _ => rfl)) (pa_cons (pe_ix (ix_tupK (K := K) rfl) (pv 5) pe_int (fun _ _ => rfl)) pa_nil))) (pv 5) (nomark _)) (pe_one (pe_cmpR op_eq (pe_op op_mulW (pe_ix (ix_tupK (K := K) rfl) (pv 5) pe_int (fun _ _ => rfl)) (pv 3)) (pe_op op_mulW (pv 2) (pe_ix (ix_tupK (K := K) rfl) (pv 5) pe_int (fun _ _ => rfl))) (nomark _)))))))))))), ?_⟩
  refine w_start (σ := [some _, some _, none, none, none, none]) rfl ?_
  walk_at "go"
  refine ⟨ox, d, c, f, l, rfl, hox, hd, okf, fl, hf, hb, fun p H1 top bot hE1 hp ht bt bb => ?_⟩
  have hd1 := hd.ext hE1
  obtain ⟨ks, hks, hkl⟩ := id hd1
  have hpx1 := hE1.get hpx (npl rfl)
  walk_at "go"
  refine ⟨d, ks, rfl, .inl hks, fun p2 hp2 => ?_⟩
  have hE2 : Ext H (upd H1 p2 (.dK ks)) := hE1.newer hp2
  have hd2 : DkAt (upd H1 p2 (.dK ks)) p2 l := ⟨ks, L2.upd_same, hkl.ext (Ext.new hp2)⟩
  have hks2 := upd_old (u := .dK ks) hp2 hks
  have hp2' : upd H1 p2 (.dK ks) p2 = some (.dK ks) := L2.upd_same
  have hpx2 := upd_old (u := .dK ks) hp2 hpx1
  generalize upd H1 p2 (.dK ks) = H2 at *
  walk_at "go"
  refine ⟨tx, p2, c, f, l, rfl, htx.ext hE2, hd2, okf, by omega, fun x hx => ⟨hf x hx, (bd80_val hb x.1).up (by decide)⟩, fun v H3 hE3 hv be => ?_⟩
  have bd : Bd 3800 (R1.ev (val l) c f) := Bd.up be (by omega)
  generalize R1.ev (val l) c f = e at *
  obtain ⟨pe, rfl, hpe⟩ := hv.pair
  have hks3 := hE3.get hks2 (npl rfl)
  have hp3 := hE3.get hp2' (npl rfl)
  have hrefs := hkl.refs hnd
  have hE03 := hE2.trans hE3
  walk_at "go"
  refine ⟨p2, d, ks, rfl, rfl, hp3, hks3, hrefs, ?_⟩
  walk_at "go"
  refine ⟨p2, ks, rfl, .inl hp3, fun q1 hq1 => ?_⟩
  walk_at "go"
  refine ⟨d, ks, rfl, .inl (upd_old hq1 hks3), fun q2 hq2 => ?_⟩
  have ek : ks.map (fun kv => kV kv.1) = (l.map (·.1)).map V.int := by
    have := congrArg (List.map kV) hkl.keys
    rw [keys_V, List.map_map] at this
    exact this
  rw [ek] at hq2 ⊢
  have h1 := upd_old (u := .lst ((l.map (·.1)).map V.int)) hq2 (L2.upd_same (H := H3) (a := q1) (o := .lst ((l.map (·.1)).map V.int)))
  have hpe2 := upd_old (u := .lst ((l.map (·.1)).map V.int)) hq2 (upd_old (u := .lst ((l.map (·.1)).map V.int)) hq1 hpe)
  have hE4 : Ext H (upd (upd H3 q1 (.lst ((l.map (·.1)).map V.int))) q2 (.lst ((l.map (·.1)).map V.int))) := (hE03.newer hq1).newer hq2
  refine w_neL (ns := l.map (·.1)) h1 L2.upd_same ?_
  generalize upd (upd H3 q1 (.lst ((l.map (·.1)).map V.int))) q2 (.lst ((l.map (·.1)).map V.int)) = H4 at *
  walk_at "go"
  refine ite_nviF rfl ?_
  walk_at "go"
  refine call_whole ?_
  walk_at "go"
  refine call_whole ?_
  walk_at "go"
  have e1 : (1 : Int) ≤ (e.den : Int) := by have := e.den_nz; omega
  refine ite_d (fun _ => ?_) (fun z => absurd e1 z)
  walk_at "go"
  refine call_low (by omega) (Nat.lt_of_lt_of_le (Bd.d bd) (pow8000 (by decide))) fun v2 H5 hE5 hv2 => ?_
  have eself : Rat.divInt e.num (e.den : Int) = e := Rat.num_divInt_den e
  rw [eself] at hv2
  have hpe5 := hE5.get hpe2 (npl rfl)
  walk_at "go"
  refine w_eqR hv2 (Dq.of_pair hpe5) ?_
  walk_at "go"
  refine w_wmul (Bd.n bd) bb (by decide) (by decide) (by decide) ?_
  walk_at "go"
  refine w_wmul bt (Bd.d bd) (by decide) (by decide) (by decide) ?_
  walk_at "go"
  have ee := worth_end ht
  rw [ee, decide_eq_true rfl]
  exact q _ (hE4.trans hE5)
end
end Kf

end
section
set_option Elab.async false
set_option linter.all false
set_option maxRecDepth 100000
set_option maxHeartbeats 4000000
local macro_rules | `(tactic| walk_at "npl") => `(tactic| first | exact Kf.npl rfl | exact Kf.npl_ints _ | exact Kf.npl_one _ _ | exact Kf.npl_refs _ | assumption)
local macro_rules | `(tactic| walk_at "nn") => `(tactic| first
  | assumption
  | (refine' Kf.Ext.non ?nne ?nnh; (case nne => assumption); (case nnh => walk_at "nn")))
local macro_rules | `(tactic| walk_at "ext") => `(tactic| first
  | assumption
  | exact Kf.Ext.refl
  | (refine' Kf.Ext.newer ?exa ?exn; (case exn => assumption); (case exa => walk_at "ext"))
  | (refine' Kf.Ext.own ?exa ?exn; (case exn => walk_at "nn"); (case exa => walk_at "ext"))
  | (refine' Kf.Ext.trans ?exa ?exb; (case exb => assumption); (case exa => walk_at "ext")))
local macro_rules | `(tactic| walk_at "pool") => `(tactic| first
  | assumption
  | (refine' Kf.PoolAt.ext ?plh ?ple; (case plh => assumption); (case ple => walk_at "ext"))
  | (refine' Kf.PoolAt.upd ?plh ?plo ?pln; (case plo => assumption); (case pln => walk_at "npl"); (case plh => walk_at "pool")))
local macro_rules | `(tactic| walk_at "lk") => `(tactic| first
  | assumption
  | exact L2.upd_same
  | (refine' Kf.upd_old ?lkn ?lkh; (case lkn => assumption); (case lkh => walk_at "lk"))
  | (refine' Kf.upd_oth ?lkn ?lkh; (case lkn => (first | assumption | (apply Ne.symm; assumption))); (case lkh => walk_at "lk"))
  | (refine' Kf.Ext.get ?lke ?lkh ?lkn; (case lke => assumption); (case lkh => walk_at "lk"); (case lkn => walk_at "npl"))
  | (refine' L2.Same.at ?lke ?lkh; (case lke => assumption); (case lkh => walk_at "lk")))
local macro_rules | `(tactic| walk_at "sq") => `(tactic| first
  | assumption
  | (refine' L2.SqL.of ?sqh; (case sqh => walk_at "lk"))
  | (refine' L2.SqT.of ?sqh; (case sqh => walk_at "lk"))
  | (refine' Kf.Ext.seqL ?sqe ?sqh ?sqn; (case sqh => assumption); (case sqe => walk_at "ext"); (case sqn => walk_at "npl"))
  | (refine' Kf.Ext.seqT ?sqe ?sqh; (case sqh => assumption); (case sqe => walk_at "ext")))
local macro_rules | `(tactic| walk_at "at") => `(tactic| first | exact L2.atI_nat (j := 0) rfl | exact L2.atI_nat (j := 1) rfl | exact L2.atI_nat (j := 2) rfl | exact L2.atI_nat (j := 3) rfl | exact L2.atI_nat (j := 4) rfl | assumption)
local macro_rules | `(tactic| walk_at "ixn") => `(tactic| first | exact Kf.ixN_nat (j := 0) rfl | exact Kf.ixN_nat (j := 1) rfl | exact Kf.ixN_nat (j := 2) rfl | exact Kf.ixN_nat (j := 3) rfl | assumption)
local macro_rules | `(tactic| walk_at "set") => `(tactic| (first | (simp only [List.set_cons_succ, List.set_cons_zero]; rfl) | rfl))
local macro_rules | `(tactic| walk_at "om") => `(tactic| first | decide | omega | (simp only [List.length_map, List.length_cons, List.length_nil] at *; omega))
local macro_rules | `(tactic| walk_at "calls") => `(tactic| first
  | (with_reducible refine' Kf.call_take ?clp ?cla ?clb ?clq; (case clp => walk_at "pool"); (case cla => walk_at "om"); (case clb => walk_at "om"); intro r H' hE h0 h1)
  | (with_reducible refine' Kf.call_pool ?cls ?cla ?clq; (case cls => walk_at "sq"); (case cla => walk_at "om"); intro p H' hE hN hP)
  | (with_reducible refine' Kf.call_turn ?cls ?clp ?cla ?clq; (case cls => walk_at "sq"); (case clp => walk_at "pool"); (case cla => walk_at "om"); intro u H' hE hP))
local macro_rules | `(tactic| walk_at "side") => `(tactic| first
  | exact Kf.cmul_fmod (by decide) (by decide)
  | exact rfl
  | decide
  | omega
  | assumption
  | (refine ⟨?_, ?_⟩ <;> decide)
  | (refine ⟨?_, ?_, ?_⟩ <;> decide)
  | (refine ⟨?_, ?_⟩ <;> omega)
  | (refine Or.inl ⟨?_, ?_⟩ <;> decide)
  | (refine Or.inr ⟨?_, ?_⟩ <;> decide)
  | (refine Or.inl ⟨?_, ?_⟩ <;> omega)
  | (refine Or.inr ⟨?_, ?_⟩ <;> omega))
local macro_rules | `(tactic| walk_at "kit") => `(tactic| first | exact Kf.isi_int_int | exact Kf.isi_int_bool | exact Kf.isi_int_str | exact Kf.isi_int_list | exact Kf.isi_int_tuple | exact Kf.isi_bool_int | exact Kf.isi_bool_bool | exact Kf.isi_bool_str | exact Kf.isi_bool_list | exact Kf.isi_bool_tuple | exact Kf.isi_str_int | exact Kf.isi_str_bool | exact Kf.isi_str_str | exact Kf.isi_str_list | exact Kf.isi_str_tuple | exact Kf.isi_non_list | exact Kf.isi_non_tuple | exact Kf.isi_list_list | exact Kf.isi_list_tuple | exact Kf.isi_tuple_list | exact Kf.isi_tuple_tuple | exact Kf.isi_dict_dict)
local macro_rules | `(tactic| walk_at "ty") => `(tactic| first
  | exact L2.TyX.base (L2.TyOf.int _)
  | exact L2.TyX.base (L2.TyOf.bl _)
  | exact L2.TyX.base (L2.TyOf.str _)
  | exact L2.TyX.base L2.TyOf.non
  | (refine' L2.TyX.base (L2.TyOf.lst ?tyh); (case tyh => walk_at "lk"))
  | (refine' L2.TyX.base (L2.TyOf.tup ?tyh); (case tyh => walk_at "lk"))
  | (refine' L2.TyX.base (L2.TyOf.dK ?tyh); (case tyh => walk_at "lk")))
local macro_rules | `(tactic| walk_at "om2") => `(tactic| first | assumption | decide | omega)
local macro_rules | `(tactic| walk_at "st") => `(tactic| with_reducible first
  | (refine Kf.w_var rfl ?_)
  | (refine Kf.w_c ?_)
  | (refine Kf.w_seq ?_)
  | (refine Kf.w_asg ?_)
  | (refine' Kf.w_gname ?sth ?_; (case sth => with_unfolding_all walk_at "set"))
  | (refine Kf.w_op ?_)
  | (refine Kf.w_un ?_)
  | (refine Kf.w_rU ?_)
  | (refine Kf.w_rI0 ?_)
  | (refine' Kf.w_rI ?sth ?_; (case sth => with_unfolding_all walk_at "side"))
  | (refine' Kf.w_rEq ?sth ?_; (case sth => with_unfolding_all rfl))
  | (refine' Kf.w_rNe ?sth ?_; (case sth => with_unfolding_all rfl))
  | (refine Kf.w_tTest ?_)
  | (refine Kf.w_tB ?_)
  | (refine Kf.w_exbl ?_)
  | (refine Kf.w_exint ?_)
  | (refine Kf.w_ifS ?_)
  | (refine Kf.w_ret ?_)
  | (refine Kf.w_retN ?_)
  | (refine Kf.w_drop ?_)
  | (refine Kf.w_and ?_)
  | (refine Kf.w_or ?_)
  | (refine Kf.w_not ?_)
  | (refine Kf.w_andV ?_)
  | (refine Kf.w_orV ?_)
  | (refine Kf.w_notV ?_)
  | (refine Kf.w_if ?_)
  | (refine Kf.w_lc ?_)
  | (refine Kf.w_for ?_)
  | (refine Kf.w_rng1 ?_)
  | (refine' Kf.w_rng1x ?sth ?stg ?_; (case sth => with_unfolding_all walk_at "om"); (case stg => with_unfolding_all walk_at "om"))
  | (refine Kf.w_ilist ?_)
  | (refine Kf.w_iseq ?_)
  | (refine Kf.w_itup ?_)
  | (refine' Kf.w_ilistx ?sth ?_; (case sth => with_unfolding_all walk_at "sq"))
  | (refine' Kf.w_itupx ?sth ?_; (case sth => with_unfolding_all walk_at "sq"))
  | (refine' Kf.w_wipe ?sth ?_; (case sth => with_unfolding_all rfl))
  | (refine Kf.w_yes ?_)
  | (refine' Kf.w_isi ?sth ?stg ?_; (case sth => with_unfolding_all walk_at "ty"); (case stg => walk_at "kit"))
  | (refine Kf.w_isN ?_)
  | (refine Kf.w_notN ?_)
  | (refine Kf.w_cb ?_)
  | (refine Kf.w_nil ?_)
  | (refine Kf.w_cons ?_)
  | (refine Kf.w_tup ?_)
  | (refine Kf.w_lst ?_)
  | (refine' Kf.w_lines ?sth ?_; (case sth => with_unfolding_all rfl))
  | (refine Kf.w_call ?_)
  | (refine Kf.w_next ?_)
  | (refine Kf.w_break ?_)
  | (refine Kf.w_cont ?_)
  | (refine Kf.w_dnewK ?_)
  | (refine Kf.w_ikeys ?_)
  | (refine Kf.w_dput ?_)
  | (refine Kf.w_dget2 ?_)
  | (refine Kf.w_dget ?_)
  | (refine Kf.w_sl ?_)
  | (refine Kf.w_nopart ?_)
  | (refine Kf.w_part ?_)
  | (refine Kf.w_bm ?_)
  | (refine Kf.w_bm0 ?_)
  | (refine' Kf.w_bmL ?sth ?_; (case sth => with_unfolding_all walk_at "lk"))
  | (refine' Kf.w_cat ?sth ?stg ?stf ?_; (case sth => with_unfolding_all walk_at "lk"); (case stg => with_unfolding_all walk_at "lk"); (case stf => with_unfolding_all walk_at "om"))
  | (refine' Kf.w_slL ?sth ?_; (case sth => with_unfolding_all walk_at "sq"))
  | (refine' Kf.w_inL ?sth ?_; (case sth => with_unfolding_all walk_at "sq"))
  | (refine' Kf.w_inT ?sth ?_; (case sth => with_unfolding_all walk_at "sq"))
  | (refine' Kf.w_ninL ?sth ?_; (case sth => with_unfolding_all walk_at "sq"))
  | (refine' Kf.w_ninT ?sth ?_; (case sth => with_unfolding_all walk_at "sq"))
  | (refine' Kf.w_listof ?sth ?_; (case sth => with_unfolding_all walk_at "sq"))
  | (refine' Kf.w_tupof ?sth ?_; (case sth => with_unfolding_all walk_at "sq"))
  | (refine Kf.w_listRev ?_)
  | (refine Kf.w_gsub ?_)
  | (refine' Kf.w_ixL ?sth ?stg ?_; (case sth => with_unfolding_all walk_at "sq"); (case stg => with_unfolding_all walk_at "at"))
  | (refine' Kf.w_ixT ?sth ?stg ?_; (case sth => with_unfolding_all walk_at "sq"); (case stg => with_unfolding_all walk_at "at"))
  | (refine' Kf.w_setL ?sth ?stg ?_; (case sth => with_unfolding_all walk_at "lk"); (case stg => with_unfolding_all walk_at "ixn"))
  | (refine' Kf.w_len ?sth ?_; (case sth => with_unfolding_all walk_at "sq"))
  | (refine' Kf.w_lenT ?sth ?_; (case sth => with_unfolding_all walk_at "sq"))
  | (refine Kf.w_int1 ?_)
  | (refine Kf.w_intb ?_)
  | (refine Kf.w_abs ?_)
  | (refine Kf.w_aug rfl ?_)
  | (refine Kf.w_par ?_)
  | (refine' Kf.w_gtup ?sth ?stg ?_; (case sth => with_unfolding_all walk_at "sq"); (case stg => with_unfolding_all exact rfl))
  | (refine' Kf.w_glst ?sth ?stg ?_; (case sth => with_unfolding_all walk_at "sq"); (case stg => with_unfolding_all exact rfl))
  | (refine Kf.w_rng2 ?_)
  | (refine Kf.w_rng3 ?_)
  | (refine' Kf.w_rng2x ?sth ?stg ?stf ?ste ?_; (case sth => with_unfolding_all walk_at "om"); (case stg => with_unfolding_all walk_at "om"); (case stf => with_unfolding_all walk_at "om"); (case ste => with_unfolding_all walk_at "om"))
  | (refine Kf.w_gcons ?_)
  | (refine Kf.w_gnil ?_)
  | (refine Kf.w_gcd ?_)
  | (refine Kf.w_bits ?_)
  | (refine Kf.w_two ?_)
  | (refine Kf.w_ipI ?_)
  | (refine L2.iteT ?_)
  | (refine L2.iteF ?_)
  | (refine Kf.iteNT ?_)
  | (refine Kf.iteNF ?_)
  | (refine' Kf.ite_decT ?sth ?_; (case sth => exact rfl))
  | (refine' Kf.ite_decF ?sth ?_; (case sth => with_unfolding_all (intro e; cases e; done)))
  | (refine' Kf.ite_ndecF ?sth ?_; (case sth => exact rfl))
  | (refine' Kf.ite_ndecT ?sth ?_; (case sth => with_unfolding_all (intro e; cases e; done)))
  | (refine' Kf.ite_viT ?sth ?_; (case sth => (with_unfolding_all walk_at "om2")))
  | (refine' Kf.ite_viF ?sth ?_; (case sth => (with_unfolding_all walk_at "om2")))
  | (refine' Kf.ite_nviT ?sth ?_; (case sth => (with_unfolding_all walk_at "om2")))
  | (refine' Kf.ite_nviF ?sth ?_; (case sth => (with_unfolding_all walk_at "om2")))
  | (refine' Kf.ite_decT ?sth ?_; (case sth => (with_unfolding_all walk_at "om2")))
  | (refine' Kf.ite_decF ?sth ?_; (case sth => (with_unfolding_all walk_at "om2")))
  | with_unfolding_all walk_at "calls")
local macro_rules | `(tactic| walk_at "go") => `(tactic| repeat walk_at "st")

namespace Kf
open PySem PySem.Spec PyProof.Rows L2
open R0 (Bd)
open R1 (mg Ok Rows val)
abbrev s__law_apart : Stmt := topS 40
abbrev N__law_apart : List Str := ["pool", "nodes", "one", "two", "turn", "node", "wide", "size", "values", "other"]
abbrev P__law_apart : List Str := ["pool", "nodes", "one", "two"]
theorem sc__law_apart : FnScope N__law_apart P__law_apart (defScope s__law_apart) := ⟨rfl, rfl, rfl, by decide +kernel, rfl, by decide +kernel, by decide +kernel⟩
section
variable {P : Program} {w : World} {K : PySem.W.Frag} {mg' : Str → Option Value} {base : Heap} {H : Hp} {Q : VK} {E : XK}
theorem w_neR {x y : V} {r q : Rat} (h1 : Dq H x (rD r)) (h2 : Dq H y (rD q)) (h : ∀ b, Q (.bl b) H) : rNeD K x y H Q :=
  ⟨rD r, rD q, h1.dp, h2.dp, shaped_rD r, shaped_rD q, h _⟩
theorem dq_int {H : Hp} {p : Addr} {k : Int} (h : H p = some (.tup [.int k, .int 1])) : Dq H (.ref p) (rD (k : Rat)) := by
  refine Dq.of_pair ?_
  rw [h]
  simp
theorem bd_small {k : Int} (h0 : 0 ≤ k) (h1 : k ≤ 2) : Bd 70 (k : Rat) := by
  refine ⟨?_, ?_⟩
  · simp; omega
  · simp
theorem call_val {ns : List Int} {x : V} {d : Addr} {l : Rows} (hs : ns.Pairwise (· < ·)) (hl : ns.length = 12) (hx : RowAt ns H x) (hd : DkAt H d l) (hn : R1.Nd l) (hll : l.length ≤ 20) (hk : ∀ n ∈ ns, n ∈ l.map (·.1)) (hb : ∀ x ∈ l, Bd 70 x.2) (q : ∀ H', Ext H H' → Q (.bl true) H') : spVal K ([x, .ref d] ++ []) H Q E :=
  ⟨ns, x, d, l, rfl, hs, hl, hx, hd, hn, hll, hk, hb, q⟩
def spApa (K : PySem.W.Frag) : Sp := fun vs H Q _ => ∃ (ns : List Int) (v : V) (a : Addr) (x y : V), vs = [v, .ref a, x, y] ∧ PoolAt H v ∧ H a = some (.lst (ns.map V.int)) ∧ ns.Pairwise (· < ·) ∧ ns.length = 12 ∧ RowAt ns H x ∧ RowAt ns H y ∧ ∀ H', Ext H H' → Q (.bl true) H'
theorem ok_apart (D : Df K mg' "_law_apart" s__law_apart P__law_apart) (b_len : mg' "len" = none) (b_int : mg' "int" = none) (b_range : mg' "range" = none) (p__law_take : Pr P w K mg' base "_law_take" 1 P__law_take (spTake K)) (p__law_valued : Pr P w K mg' base "_law_valued" 4 P__law_valued (spVal K)) : Pr P w K mg' base "_law_apart" 5 P__law_apart (spApa K) := by
  refine D.ok sc__law_apart (fun vs H Q E h => ?_) (fun f cdv A outer s H vs Q E hr h => ?_)
  · obtain ⟨ns, v, a, x, y, rfl, _⟩ := h; rfl
  obtain ⟨ns, v, a, x, y, rfl, hP, ha, hs, hl, rx, ry, q⟩ := h
  have nd := sc__law_apart.nd
  have hu := hu_of hr
  obtain ⟨px, tx, ox, c, f, rfl, hpx, htx, hox, gf⟩ := id rx
  obtain ⟨py, ty, oy, d, g, rfl, hpy, hty, hoy, gg⟩ := id ry
  obtain ⟨qx, cx, dx, rfl, hqx, hcx, hdx⟩ := hox
  obtain ⟨qy, cy, dy, rfl, hqy, hcy, hdy⟩ := hoy
  have hml : (ns.map V.int).length = 12 := by rw [List.length_map]; exact hl
  refine ⟨_, (pss_cons (ps_set (i := 4) nd rfl (Or.inl rfl) (pe_callP p__law_take hr (pa_cons (pv 0) (pa_cons pe_int pa_nil))))
      (pss_cons (ps_set (i := 5) nd rfl (Or.inl rfl) (pe_ix (ix_listK (K := K) rfl) (pv 1) (pv 4) (fun _ _ => rfl)))
      (pss_cons (ps_setLc (i := 6) (own := [("other", 9)]) rfl nd rfl rfl (sw_true rfl rfl rfl (by decide +kernel)) (pi_listK (K := K) rfl (pv 1)) (blkOk_by (N := N__law_apart) (sc := defScope s__law_apart) (by decide +kernel)) (fun _ _ _ _ _ => pg_name (i := 9) nd rfl (Or.inl rfl)) (fun _ _ _ _ _ => pts_one (pt_cmpR (op_neDK (K := K) rfl hr.units) (pe_dget2 hu (pe_ix (ix_tupK (K := K) rfl) (pe_ix (ix_tupK (K := K) rfl) (pv 2) pe_int (fun _ _ => rfl)) pe_int (fun _ _ => rfl)) (pv 9) (pe_tup (pa_cons pe_int (pa_cons pe_int pa_nil))) ⟨rfl, rfl, rfl, rfl⟩) (pe_dget2 hu (pe_ix (ix_tupK (K := K) rfl) (pe_ix (ix_tupK (K := K) rfl) (pv 3) pe_int (fun _ _ => rfl)) pe_int (fun _ _ => rfl)) (pv 9) (pe_tup (pa_cons pe_int (pa_cons pe_int pa_nil))) ⟨rfl, rfl, rfl, rfl⟩) (nomark _))) (fun _ _ _ _ _ => (pv 9)))
      (C8.pss_cut (ps_if (pt_cmpR op_gt (pe_callB (call_lenK (K := K) rfl) (by rfl) b_len PySem.boot_len (pa_cons (pv 6) pa_nil)) pe_int (nomark _)) (pss_one (ps_set (i := 5) nd rfl (Or.inl rfl) (pe_ix (ix_listK (K := K) rfl) (pv 6) (pe_op op_modN (pe_callTy call_int1 (by rfl) b_int (by decide +kernel) (pa_cons (pv 4) pa_nil)) (pe_callB (call_lenK (K := K) rfl) (by rfl) b_len PySem.boot_len (pa_cons (pv 6) pa_nil))) (fun _ _ => rfl)))) pss_nil)
      (pss_cons (ps_for PassesOwn.never rfl (pi_range1 (by rfl) b_range (pa_cons pe_int pa_nil)) (pg_name (i := 7) nd rfl (Or.inl rfl)) (pss_cons (ps_set (i := 8) nd rfl (Or.inl rfl) pe_dnewK)
      (pss_cons (ps_for PassesOwn.never rfl (pi_listK (K := K) rfl (pv 1)) (pg_name (i := 9) nd rfl (Or.inl rfl)) (pss_one (ps_dput hu (pv 8) (pv 9) (pe_tup (pa_cons (pe_op op_mul (pv 7) (pe_callTy call_int1 (by rfl) b_int (by decide +kernel) (pa_cons (pe_cmpR op_eq (pv 9) (pv 5) (nomark _)) pa_nil))) (pa_cons pe_int pa_nil))) rfl)))
      (pss_one (ps_if (PW.pt (pw_or (pt_not (pt_val (pe_callP p__law_valued hr (pa_cons (pv 2) (pa_cons (pv 8) pa_nil))))) (pw_or1 (pt_not (pt_val (pe_callP p__law_valued hr (pa_cons (pv 3) (pa_cons (pv 8) pa_nil)))))))) (pss_one (ps_ret pe_bl)) pss_nil)))))
      (pss_one (ps_ret pe_bl))))))), ?_⟩
  refine w_start (σ := [some _, some _, some _, some _, none, none, none, none, none, none]) rfl ?_
  walk_at "go"
  rename_i t H1 hE1 t0 t1
  have ha1 := hE1.get ha (npl_ints _)
  have hat : atI (ns.map V.int) t = some (.int (ns.getD t.toNat 0)) := atI_ints t0 (by rw [hml]; omega)
  refine w_ixL (SqL.of ha1) hat ?_
  walk_at "go"
  refine lc_l (K := K) (R := fun i acc Hd => ∃ ms : List Int, acc = ms.map V.int ∧ ms.length ≤ i) (SqL.of ha1) (npl_ints _) ?_ (fun _ _ _ _ e h => h) ?_ ?_
  · exact ⟨[], rfl, Nat.le_refl _⟩
  · rintro i z acc D2 H2 hz hD2 hacc hE ⟨ms, rfl, hms⟩
    have il := (List.getElem?_eq_some_iff.mp hz).1
    rw [List.getElem?_map] at hz
    obtain ⟨n, en, rfl⟩ := Option.map_eq_some_iff.mp hz
    have hE2 := hE1.trans hE
    have hpx2 := hE2.get hpx (npl rfl)
    have hpy2 := hE2.get hpy (npl rfl)
    have hqx2 := hE2.get hqx (npl rfl)
    have hqy2 := hE2.get hqy (npl rfl)
    obtain ⟨kx, hkx, hlx⟩ := hdx.ext hE2
    obtain ⟨ky, hky, hly⟩ := hdy.ext hE2
    walk_at "go"
    refine ⟨dx, rfl, .inl ⟨kx, .inl hkx⟩, ?_⟩
    walk_at "go"
    intro p1 hp1
    refine w_dget2x (DkAt.rd (l := f) ⟨kx, upd_old hp1 hkx, hlx.ext (Ext.new hp1)⟩) (zero_D L2.upd_same) fun o1 ho1 => ?_
    have hqy3 := upd_old (u := .tup [.int 0, .int 1]) hp1 hqy2
    have hpy3 := upd_old (u := .tup [.int 0, .int 1]) hp1 hpy2
    have hky3 := upd_old (u := .tup [.int 0, .int 1]) hp1 hky
    have hacc3 := upd_old (u := .tup [.int 0, .int 1]) hp1 hacc
    have e3 : Ext H2 (upd H2 p1 (.tup [.int 0, .int 1])) := Ext.new hp1
    have hly3 := hly.ext e3
    generalize o1.getD (V.ref p1) = v1 at *
    generalize upd H2 p1 (.tup [.int 0, .int 1]) = H3 at *
    walk_at "go"
    refine ⟨dy, rfl, .inl ⟨ky, .inl hky3⟩, ?_⟩
    walk_at "go"
    intro p2 hp2
    refine w_dget2x (DkAt.rd (l := g) ⟨ky, upd_old hp2 hky3, hly3.ext (Ext.new hp2)⟩) (zero_D L2.upd_same) fun o2 ho2 => ?_
    have hacc4 := upd_old (u := .tup [.int 0, .int 1]) hp2 hacc3
    have e4 : Ext H2 (upd H3 p2 (.tup [.int 0, .int 1])) := e3.newer hp2
    have ho1' := ho1.ext (Ext.new (o := .tup [.int 0, .int 1]) hp2)
    generalize o2.getD (V.ref p2) = v2 at *
    generalize upd H3 p2 (.tup [.int 0, .int 1]) = H4 at *
    refine w_neR ho1' ho2 fun b => ?_
    cases b with
    | true =>
      walk_at "go"
      refine LcP.put hD2 hacc (npl_ints _) hE e4 (by rw [List.length_map]; omega) ⟨ms ++ [n], by rw [List.map_append]; rfl, by rw [List.length_append]; simp; omega⟩
    | false =>
      walk_at "go"
      exact LcP.skip hacc (npl_ints _) hE e4 ⟨ms, rfl, by omega⟩
  rintro D2 acc H2 hD2 hacc hE ⟨ms, rfl, hms⟩
  rw [hml] at hms
  have hE2 := hE1.trans hE
  walk_at "go"
  refine w_cut (fun σ' H' => ∃ n : Int, σ' = [some v, some (.ref a), some (.ref px), some (.ref py), some (.int t), some (.int n), some (.ref D2), none, none, none] ∧ H2 = H') ?_ ?_
  · walk_at "go"
    refine ite_d (fun c1 => ?_) (fun c1 => ?_)
    · walk_at "go"
      have hlm : (ms.map V.int).length = ms.length := List.length_map _
      have hpos : (0 : Int) < ((ms.map V.int).length : Nat) := c1
      obtain ⟨f0, f1⟩ := fmod_pos (a := t) hpos
      refine w_ixL (SqL.of hacc) (atI_ints f0 f1) ?_
      exact ⟨_, rfl, rfl⟩
    · exact ⟨_, rfl, rfl⟩
  rintro σ' H' ⟨n, rfl, rfl⟩
  walk_at "go"
  have ha2 := hE.get ha1 (npl_ints _)
  refine for_range (fun i σ H' => ∃ t1 t2 t3 : Option V, σ = [some v, some (.ref a), some (.ref px), some (.ref py), some (.int t), some (.int n), some (.ref D2), t1, t2, t3] ∧ Ext H2 H') ⟨_, _, _, rfl, Ext.refl⟩ ?_ ?_
  · rintro i σ H3 hi ⟨t1, t2, t3, rfl, e3⟩
    have hi3 : i < 3 := hi
    walk_at "go"
    intro d hd
    have ed : Ext H3 (upd H3 d (.dK [])) := Ext.new hd
    have ha3 := upd_old (u := .dK []) hd (e3.get ha2 (npl_ints _))
    walk_at "go"
    refine for_list (K := K) (a := a) (xs := ns.map V.int) (fun j σ H' => ∃ (t4 : Option V) (kv : List (Key × V)) (l : Rows), σ = [some v, some (.ref a), some (.ref px), some (.ref py), some (.int t), some (.int n), some (.ref D2), some (.int (0 + (i : Nat))), some (.ref d), t4] ∧ Ext H3 H' ∧ H' a = some (.lst (ns.map V.int)) ∧ H' d = some (.dK kv) ∧ DkL H' kv l ∧ (∀ m ∈ ns.take j, m ∈ l.map (·.1)) ∧ (∀ x ∈ l, Bd 70 x.2) ∧ l.length ≤ j ∧ R1.Nd l)
      ⟨_, [], [], rfl, ed, ha3, L2.upd_same, trivial, by simp, by simp, Nat.le_refl _, by simp [R1.Nd]⟩ (fun j σ H' _ ⟨_, _, _, _, _, e, _⟩ => SqL.of e) ?_ ?_
    · rintro j z σ H4 hz ⟨t4, kv, l, rfl, e4, ha4, hd4, hk4, hm4, hb4, hl4, hn4⟩
      rw [List.getElem?_map] at hz
      obtain ⟨m, en, rfl⟩ := Option.map_eq_some_iff.mp hz
      have jl := (List.getElem?_eq_some_iff.mp en).1
      have kl := hk4.len
      walk_at "go"
      obtain ⟨s, hs0, hs1, es⟩ : ∃ s : Int, 0 ≤ s ∧ s ≤ 2 ∧ s = (0 + (i : Int)) * (if decide (V.int m = V.int n) = true then 1 else 0) := by
        refine ⟨_, ?_, ?_, rfl⟩ <;> split <;> simp <;> omega
      rw [← es]
      intro p hp
      have hd5 := upd_old (u := .tup [.int s, .int 1]) hp hd4
      have ha5 := upd_old (u := .tup [.int s, .int 1]) hp ha4
      have hs5 := dq_int (L2.upd_same (H := H4) (a := p) (o := .tup [.int s, .int 1]))
      have e5 : Ext H3 (upd H4 p (.tup [.int s, .int 1])) := e4.newer hp
      have hk5 := hk4.ext (Ext.new (o := .tup [.int s, .int 1]) hp)
      generalize upd H4 p (.tup [.int s, .int 1]) = H5 at *
      walk_at "go"
      refine ⟨d, _, rfl, DPut.k (k := .inl m) hd5 (small1000 (by omega)), ?_⟩
      refine ⟨_, putK kv (.inl m) (.ref p), R1.put l m s, rfl, e5.own hd, upd_oth (ne_of ha5 hd5 (fun z => nomatch z)) ha5, L2.upd_same, (hk5.put hs5).over (dk_nt hd5) (dk_nl hd5), ?_, ?_, ?_, R1.put_nd hn4⟩
      · intro m' hm'
        rw [List.take_add_one, en] at hm'
        rcases List.mem_append.mp hm' with z | z
        · exact put_keys (hm4 m' z)
        · have : m' = m := by simpa using z
          subst this
          exact put_key
      · intro x hx
        rcases put_all hx with z | z
        · exact hb4 x z
        · rw [z]; exact bd_small hs0 hs1
      · have := put_len (l := l) (n := m) (r := (s : Rat)); omega
    · rintro σ H4 ⟨t4, kv, l, rfl, e4, ha4, hd4, hk4, hm4, hb4, hl4, hn4⟩
      rw [hml] at hm4 hl4
      rw [← hl, List.take_length] at hm4
      have e34 := e3.trans e4
      have e04 := hE2.trans e34
      walk_at "go"
      refine call_val hs hl (rx.ext e04) ⟨kv, hd4, hk4⟩ hn4 (by omega) hm4 hb4 fun H5 e5 => ?_
      walk_at "go"
      refine call_val hs hl ((ry.ext e04).ext e5) ⟨kv, e5.get hd4 (npl rfl), hk4.ext e5⟩ hn4 (by omega) hm4 hb4 fun H6 e6 => ?_
      walk_at "go"
      exact ⟨_, _, _, rfl, (e34.trans e5).trans e6⟩
  · rintro σ H3 ⟨t1, t2, t3, rfl, e3⟩
    walk_at "go"
    exact q _ (hE2.trans e3)
end
end Kf

end
section
set_option Elab.async false
set_option linter.all false
set_option maxRecDepth 100000
set_option maxHeartbeats 4000000
local macro_rules | `(tactic| walk_at "npl") => `(tactic| first | exact Kf.npl rfl | exact Kf.npl_ints _ | exact Kf.npl_one _ _ | exact Kf.npl_refs _ | assumption)
local macro_rules | `(tactic| walk_at "nn") => `(tactic| first
  | assumption
  | (refine' Kf.Ext.non ?nne ?nnh; (case nne => assumption); (case nnh => walk_at "nn")))
local macro_rules | `(tactic| walk_at "ext") => `(tactic| first
  | assumption
  | exact Kf.Ext.refl
  | (refine' Kf.Ext.newer ?exa ?exn; (case exn => assumption); (case exa => walk_at "ext"))
  | (refine' Kf.Ext.own ?exa ?exn; (case exn => walk_at "nn"); (case exa => walk_at "ext"))
  | (refine' Kf.Ext.trans ?exa ?exb; (case exb => assumption); (case exa => walk_at "ext")))
local macro_rules | `(tactic| walk_at "pool") => `(tactic| first
  | assumption
  | (refine' Kf.PoolAt.ext ?plh ?ple; (case plh => assumption); (case ple => walk_at "ext"))
  | (refine' Kf.PoolAt.upd ?plh ?plo ?pln; (case plo => assumption); (case pln => walk_at "npl"); (case plh => walk_at "pool")))
local macro_rules | `(tactic| walk_at "lk") => `(tactic| first
  | assumption
  | exact L2.upd_same
  | (refine' Kf.upd_old ?lkn ?lkh; (case lkn => assumption); (case lkh => walk_at "lk"))
  | (refine' Kf.upd_oth ?lkn ?lkh; (case lkn => (first | assumption | (apply Ne.symm; assumption))); (case lkh => walk_at "lk"))
  | (refine' Kf.Ext.get ?lke ?lkh ?lkn; (case lke => assumption); (case lkh => walk_at "lk"); (case lkn => walk_at "npl"))
  | (refine' L2.Same.at ?lke ?lkh; (case lke => assumption); (case lkh => walk_at "lk")))
local macro_rules | `(tactic| walk_at "sq") => `(tactic| first
  | assumption
  | (refine' L2.SqL.of ?sqh; (case sqh => walk_at "lk"))
  | (refine' L2.SqT.of ?sqh; (case sqh => walk_at "lk"))
  | (refine' Kf.Ext.seqL ?sqe ?sqh ?sqn; (case sqh => assumption); (case sqe => walk_at "ext"); (case sqn => walk_at "npl"))
  | (refine' Kf.Ext.seqT ?sqe ?sqh; (case sqh => assumption); (case sqe => walk_at "ext")))
local macro_rules | `(tactic| walk_at "at") => `(tactic| first | exact L2.atI_nat (j := 0) rfl | exact L2.atI_nat (j := 1) rfl | exact L2.atI_nat (j := 2) rfl | exact L2.atI_nat (j := 3) rfl | exact L2.atI_nat (j := 4) rfl | assumption)
local macro_rules | `(tactic| walk_at "ixn") => `(tactic| first | exact Kf.ixN_nat (j := 0) rfl | exact Kf.ixN_nat (j := 1) rfl | exact Kf.ixN_nat (j := 2) rfl | exact Kf.ixN_nat (j := 3) rfl | assumption)
local macro_rules | `(tactic| walk_at "set") => `(tactic| (first | (simp only [List.set_cons_succ, List.set_cons_zero]; rfl) | rfl))
local macro_rules | `(tactic| walk_at "om") => `(tactic| first | decide | omega | (simp only [List.length_map, List.length_cons, List.length_nil] at *; omega))
local macro_rules | `(tactic| walk_at "calls") => `(tactic| first
  | (with_reducible refine' Kf.call_take ?clp ?cla ?clb ?clq; (case clp => walk_at "pool"); (case cla => walk_at "om"); (case clb => walk_at "om"); intro r H' hE h0 h1)
  | (with_reducible refine' Kf.call_pool ?cls ?cla ?clq; (case cls => walk_at "sq"); (case cla => walk_at "om"); intro p H' hE hN hP)
  | (with_reducible refine' Kf.call_turn ?cls ?clp ?cla ?clq; (case cls => walk_at "sq"); (case clp => walk_at "pool"); (case cla => walk_at "om"); intro u H' hE hP))
local macro_rules | `(tactic| walk_at "side") => `(tactic| first
  | exact Kf.cmul_fmod (by decide) (by decide)
  | exact rfl
  | decide
  | omega
  | assumption
  | (refine ⟨?_, ?_⟩ <;> decide)
  | (refine ⟨?_, ?_, ?_⟩ <;> decide)
  | (refine ⟨?_, ?_⟩ <;> omega)
  | (refine Or.inl ⟨?_, ?_⟩ <;> decide)
  | (refine Or.inr ⟨?_, ?_⟩ <;> decide)
  | (refine Or.inl ⟨?_, ?_⟩ <;> omega)
  | (refine Or.inr ⟨?_, ?_⟩ <;> omega))
local macro_rules | `(tactic| walk_at "kit") => `(tactic| first | exact Kf.isi_int_int | exact Kf.isi_int_bool | exact Kf.isi_int_str | exact Kf.isi_int_list | exact Kf.isi_int_tuple | exact Kf.isi_bool_int | exact Kf.isi_bool_bool | exact Kf.isi_bool_str | exact Kf.isi_bool_list | exact Kf.isi_bool_tuple | exact Kf.isi_str_int | exact Kf.isi_str_bool | exact Kf.isi_str_str | exact Kf.isi_str_list | exact Kf.isi_str_tuple | exact Kf.isi_non_list | exact Kf.isi_non_tuple | exact Kf.isi_list_list | exact Kf.isi_list_tuple | exact Kf.isi_tuple_list | exact Kf.isi_tuple_tuple | exact Kf.isi_dict_dict)
local macro_rules | `(tactic| walk_at "ty") => `(tactic| first
  | exact L2.TyX.base (L2.TyOf.int _)
  | exact L2.TyX.base (L2.TyOf.bl _)
  | exact L2.TyX.base (L2.TyOf.str _)
  | exact L2.TyX.base L2.TyOf.non
  | (refine' L2.TyX.base (L2.TyOf.lst ?tyh); (case tyh => walk_at "lk"))
  | (refine' L2.TyX.base (L2.TyOf.tup ?tyh); (case tyh => walk_at "lk"))
  | (refine' L2.TyX.base (L2.TyOf.dK ?tyh); (case tyh => walk_at "lk")))
local macro_rules | `(tactic| walk_at "om2") => `(tactic| first | assumption | decide | omega)
local macro_rules | `(tactic| walk_at "st") => `(tactic| with_reducible first
  | (refine Kf.w_var rfl ?_)
  | (refine Kf.w_c ?_)
  | (refine Kf.w_seq ?_)
  | (refine Kf.w_asg ?_)
  | (refine' Kf.w_gname ?sth ?_; (case sth => with_unfolding_all walk_at "set"))
  | (refine Kf.w_op ?_)
  | (refine Kf.w_un ?_)
  | (refine Kf.w_rU ?_)
  | (refine Kf.w_rI0 ?_)
  | (refine' Kf.w_rI ?sth ?_; (case sth => with_unfolding_all walk_at "side"))
  | (refine' Kf.w_rEq ?sth ?_; (case sth => with_unfolding_all rfl))
  | (refine' Kf.w_rNe ?sth ?_; (case sth => with_unfolding_all rfl))
  | (refine Kf.w_tTest ?_)
  | (refine Kf.w_tB ?_)
  | (refine Kf.w_exbl ?_)
  | (refine Kf.w_exint ?_)
  | (refine Kf.w_ifS ?_)
  | (refine Kf.w_ret ?_)
  | (refine Kf.w_retN ?_)
  | (refine Kf.w_drop ?_)
  | (refine Kf.w_and ?_)
  | (refine Kf.w_or ?_)
  | (refine Kf.w_not ?_)
  | (refine Kf.w_andV ?_)
  | (refine Kf.w_orV ?_)
  | (refine Kf.w_notV ?_)
  | (refine Kf.w_if ?_)
  | (refine Kf.w_lc ?_)
  | (refine Kf.w_for ?_)
  | (refine Kf.w_rng1 ?_)
  | (refine' Kf.w_rng1x ?sth ?stg ?_; (case sth => with_unfolding_all walk_at "om"); (case stg => with_unfolding_all walk_at "om"))
  | (refine Kf.w_ilist ?_)
  | (refine Kf.w_iseq ?_)
  | (refine Kf.w_itup ?_)
  | (refine' Kf.w_ilistx ?sth ?_; (case sth => with_unfolding_all walk_at "sq"))
  | (refine' Kf.w_itupx ?sth ?_; (case sth => with_unfolding_all walk_at "sq"))
  | (refine' Kf.w_wipe ?sth ?_; (case sth => with_unfolding_all rfl))
  | (refine Kf.w_yes ?_)
  | (refine' Kf.w_isi ?sth ?stg ?_; (case sth => with_unfolding_all walk_at "ty"); (case stg => walk_at "kit"))
  | (refine Kf.w_isN ?_)
  | (refine Kf.w_notN ?_)
  | (refine Kf.w_cb ?_)
  | (refine Kf.w_nil ?_)
  | (refine Kf.w_cons ?_)
  | (refine Kf.w_tup ?_)
  | (refine Kf.w_lst ?_)
  | (refine' Kf.w_lines ?sth ?_; (case sth => with_unfolding_all rfl))
  | (refine Kf.w_call ?_)
  | (refine Kf.w_next ?_)
  | (refine Kf.w_break ?_)
  | (refine Kf.w_cont ?_)
  | (refine Kf.w_dnewK ?_)
  | (refine Kf.w_ikeys ?_)
  | (refine Kf.w_dput ?_)
  | (refine Kf.w_dget2 ?_)
  | (refine Kf.w_dget ?_)
  | (refine Kf.w_sl ?_)
  | (refine Kf.w_nopart ?_)
  | (refine Kf.w_part ?_)
  | (refine Kf.w_bm ?_)
  | (refine Kf.w_bm0 ?_)
  | (refine' Kf.w_bmL ?sth ?_; (case sth => with_unfolding_all walk_at "lk"))
  | (refine' Kf.w_cat ?sth ?stg ?stf ?_; (case sth => with_unfolding_all walk_at "lk"); (case stg => with_unfolding_all walk_at "lk"); (case stf => with_unfolding_all walk_at "om"))
  | (refine' Kf.w_slL ?sth ?_; (case sth => with_unfolding_all walk_at "sq"))
  | (refine' Kf.w_inL ?sth ?_; (case sth => with_unfolding_all walk_at "sq"))
  | (refine' Kf.w_inT ?sth ?_; (case sth => with_unfolding_all walk_at "sq"))
  | (refine' Kf.w_ninL ?sth ?_; (case sth => with_unfolding_all walk_at "sq"))
  | (refine' Kf.w_ninT ?sth ?_; (case sth => with_unfolding_all walk_at "sq"))
  | (refine' Kf.w_listof ?sth ?_; (case sth => with_unfolding_all walk_at "sq"))
  | (refine' Kf.w_tupof ?sth ?_; (case sth => with_unfolding_all walk_at "sq"))
  | (refine Kf.w_listRev ?_)
  | (refine Kf.w_gsub ?_)
  | (refine' Kf.w_ixL ?sth ?stg ?_; (case sth => with_unfolding_all walk_at "sq"); (case stg => with_unfolding_all walk_at "at"))
  | (refine' Kf.w_ixT ?sth ?stg ?_; (case sth => with_unfolding_all walk_at "sq"); (case stg => with_unfolding_all walk_at "at"))
  | (refine' Kf.w_setL ?sth ?stg ?_; (case sth => with_unfolding_all walk_at "lk"); (case stg => with_unfolding_all walk_at "ixn"))
  | (refine' Kf.w_len ?sth ?_; (case sth => with_unfolding_all walk_at "sq"))
  | (refine' Kf.w_lenT ?sth ?_; (case sth => with_unfolding_all walk_at "sq"))
  | (refine Kf.w_int1 ?_)
  | (refine Kf.w_intb ?_)
  | (refine Kf.w_abs ?_)
  | (refine Kf.w_aug rfl ?_)
  | (refine Kf.w_par ?_)
  | (refine' Kf.w_gtup ?sth ?stg ?_; (case sth => with_unfolding_all walk_at "sq"); (case stg => with_unfolding_all exact rfl))
  | (refine' Kf.w_glst ?sth ?stg ?_; (case sth => with_unfolding_all walk_at "sq"); (case stg => with_unfolding_all exact rfl))
  | (refine Kf.w_rng2 ?_)
  | (refine Kf.w_rng3 ?_)
  | (refine' Kf.w_rng2x ?sth ?stg ?stf ?ste ?_; (case sth => with_unfolding_all walk_at "om"); (case stg => with_unfolding_all walk_at "om"); (case stf => with_unfolding_all walk_at "om"); (case ste => with_unfolding_all walk_at "om"))
  | (refine Kf.w_gcons ?_)
  | (refine Kf.w_gnil ?_)
  | (refine Kf.w_gcd ?_)
  | (refine Kf.w_bits ?_)
  | (refine Kf.w_two ?_)
  | (refine Kf.w_ipI ?_)
  | (refine L2.iteT ?_)
  | (refine L2.iteF ?_)
  | (refine Kf.iteNT ?_)
  | (refine Kf.iteNF ?_)
  | (refine' Kf.ite_decT ?sth ?_; (case sth => exact rfl))
  | (refine' Kf.ite_decF ?sth ?_; (case sth => with_unfolding_all (intro e; cases e; done)))
  | (refine' Kf.ite_ndecF ?sth ?_; (case sth => exact rfl))
  | (refine' Kf.ite_ndecT ?sth ?_; (case sth => with_unfolding_all (intro e; cases e; done)))
  | (refine' Kf.ite_viT ?sth ?_; (case sth => (with_unfolding_all walk_at "om2")))
  | (refine' Kf.ite_viF ?sth ?_; (case sth => (with_unfolding_all walk_at "om2")))
  | (refine' Kf.ite_nviT ?sth ?_; (case sth => (with_unfolding_all walk_at "om2")))
  | (refine' Kf.ite_nviF ?sth ?_; (case sth => (with_unfolding_all walk_at "om2")))
  | (refine' Kf.ite_decT ?sth ?_; (case sth => (with_unfolding_all walk_at "om2")))
  | (refine' Kf.ite_decF ?sth ?_; (case sth => (with_unfolding_all walk_at "om2")))
  | with_unfolding_all walk_at "calls")
local macro_rules | `(tactic| walk_at "go") => `(tactic| repeat walk_at "st")

namespace Kf
open PySem PySem.Spec PyProof.Rows L2
open R0 (Bd)
open R1 (mg Ok Rows val)
abbrev s_law : Stmt := topS 41
abbrev N_law : List Str := ["script", "pool", "nodes", "node", "many", "long", "rows", "k", "end", "few", "plain", "great", "row"]
abbrev P_law : List Str := ["script"]
theorem sc_law : FnScope N_law P_law (defScope s_law) := ⟨rfl, rfl, rfl, by decide +kernel, rfl, by decide +kernel, by decide +kernel⟩
section
variable {P : Program} {w : World} {K : PySem.W.Frag} {mg' : Str → Option Value} {base : Heap} {H : Hp} {Q : VK} {E : XK}
theorem cut_last (xs : List V) : (cutV xs (some (-3)) none).length = min 3 xs.length ∧ ∀ x ∈ cutV xs (some (-3)) none, x ∈ xs := by
  constructor
  · unfold cutV
    rw [List.length_take, List.length_drop]
    have e1 : HT.sIx xs.length 0 (some (-3)) = ((-3) + (xs.length : Int)).toNat := by
      show (if (-3 : Int) < 0 then ((-3 : Int) + (xs.length : Int)).toNat else min (-3 : Int).toNat xs.length) = _
      rw [if_pos (by decide)]
    have e2 : HT.sIx xs.length xs.length none = xs.length := rfl
    rw [e1, e2]
    omega
  · intro x hx
    unfold cutV at hx
    exact List.mem_of_mem_drop (List.mem_of_mem_take hx)
def spLaw (K : PySem.W.Frag) : Sp := fun vs H Q _ => ∃ (a : Addr) (ns : List Int), vs = [.ref a] ∧ SqL K H a (ns.map V.int) ∧ ns.length ≤ 63 ∧ ∀ H', Q (.bl true) H'
theorem ok_law (D : Df K mg' "law" s_law P_law) (b_range : mg' "range" = none) (b_len : mg' "len" = none) (p__law_pool : Pr P w K mg' base "_law_pool" 1 P__law_pool (spPool K)) (p__law_take : Pr P w K mg' base "_law_take" 1 P__law_take (spTake K)) (p__law_turn : Pr P w K mg' base "_law_turn" 2 P__law_turn (spTurn K)) (p__law_pick : Pr P w K mg' base "_law_pick" 2 P__law_pick (spPick K)) (p__law_nodes : Pr P w K mg' base "_law_nodes" 2 P__law_nodes (spNod K))
    (p__law_added : Pr P w K mg' base "_law_added" 7 P__law_added (spAdd K)) (p_constant_form : Pr P w K mg' base "constant_form" 1 P_constant_form (spCon K)) (p_base_form : Pr P w K mg' base "base_form" 1 P_base_form (spBas K)) (p__law_done : Pr P w K mg' base "_law_done" 9 P__law_done (spDon K)) (p__law_values : Pr P w K mg' base "_law_values" 4 P__law_values (spVls K)) (p__law_valued : Pr P w K mg' base "_law_valued" 4 P__law_valued (spVal K)) (p__law_apart : Pr P w K mg' base "_law_apart" 5 P__law_apart (spApa K)) : Pr P w K mg' base "law" 10 P_law (spLaw K) := by
  refine D.ok sc_law (fun vs H Q E h => ?_) (fun f cdv A outer s H vs Q E hr h => ?_)
  · obtain ⟨a, ns, rfl, _⟩ := h; rfl
  obtain ⟨a, sc, rfl, hS, hsl, q⟩ := h
  have nd := sc_law.nd
  have npS := npl_ints sc
  refine ⟨_, (pss_cons (ps_set (i := 1) nd rfl (Or.inl rfl) (pe_callP p__law_pool hr (pa_cons (pv 0) (pa_cons pe_int pa_nil))))
      (pss_cons (ps_set (i := 2) nd rfl (Or.inl rfl) (pe_callP p__law_nodes hr (pa_cons (pv 1) pa_nil)))
      (pss_cons (ps_set (i := 3) nd rfl (Or.inl rfl) (pe_callP p__law_pick hr (pa_cons (pv 1) (pa_cons (pv 2) pa_nil))))
      (pss_cons (ps_set (i := 4) nd rfl (Or.inl rfl) (pe_op op_add pe_int (pe_callP p__law_take hr (pa_cons (pv 1) (pa_cons pe_int pa_nil)))))
      (pss_cons (ps_set (i := 5) nd rfl (Or.inl rfl) (pe_cmpR op_eq (pe_callP p__law_take hr (pa_cons (pv 1) (pa_cons pe_int pa_nil))) pe_int (nomark _)))
      (pss_cons (ps_set (i := 6) nd rfl (Or.inr rfl) (pe_lst pa_nil))
      (pss_cons (ps_if (pt_not (pt_val (pe_callP p__law_added hr (pa_cons (pv 6) (pa_cons (pe_callP p_constant_form hr (pa_cons (pe_tup (pa_cons pe_int (pa_cons pe_int pa_nil))) pa_nil)) (pa_cons (pe_tup (pa_cons (pe_tup (pa_cons pe_int (pa_cons pe_int pa_nil))) (pa_cons pe_dnewK pa_nil))) pa_nil)))))) (pss_one (ps_ret pe_bl)) pss_nil)
      (pss_cons (ps_if (pt_not (pt_val (pe_callP p__law_added hr (pa_cons (pv 6) (pa_cons (pe_callP p_base_form hr (pa_cons (pv 3) pa_nil)) (pa_cons (pe_tup (pa_cons (pe_tup (pa_cons pe_int (pa_cons pe_int pa_nil))) (pa_cons (pe_disp (pps_cons (pv 3) (pe_tup (pa_cons pe_int (pa_cons pe_int pa_nil))) pps_nil) (by rfl) (by rfl) (fun z => by cases z) (by decide)) pa_nil))) pa_nil)))))) (pss_one (ps_ret pe_bl)) pss_nil)
      (pss_cons (ps_for PassesOwn.never rfl (pi_range1 (by rfl) b_range (pa_cons (pv 4) pa_nil)) (pg_name (i := 7) nd rfl (Or.inl rfl)) (pss_one (ps_if (pt_not (pt_val (pe_callP p__law_done hr (pa_cons (pe_callP p__law_turn hr (pa_cons (pv 0) (pa_cons (pv 1) (pa_cons (pe_op op_add pe_int (pv 7)) pa_nil)))) (pa_cons (pv 2) (pa_cons (pv 6) (pa_cons (pv 5) pa_nil))))))) (pss_one (ps_ret pe_bl)) pss_nil)))
      (pss_cons (ps_set (i := 8) nd rfl (Or.inr rfl) (pe_callP p__law_turn hr (pa_cons (pv 0) (pa_cons (pv 1) (pa_cons pe_int pa_nil)))))
      (pss_cons (ps_set (i := 9) nd rfl (Or.inl rfl) (pe_op op_cat (pe_slice (sl_listK (K := K) rfl) (pv 6) (po_some (pe_un un_neg pe_int)) po_none) (pe_lc (own := [("k", 7)]) rfl nd (pi_range1 (by rfl) b_range (pa_cons (pe_op op_sub pe_int (pe_callB (call_lenK (K := K) rfl) (by rfl) b_len PySem.boot_len (pa_cons (pe_slice (sl_listK (K := K) rfl) (pv 6) (po_some (pe_un un_neg pe_int)) po_none) pa_nil))) pa_nil)) (blkOk_by (N := N_law) (sc := defScope s_law) (by decide +kernel)) (fun _ _ _ _ _ => pg_name (i := 7) nd rfl (Or.inl rfl)) (fun _ _ _ _ _ => pts_nil) (fun _ _ _ _ _ => (pe_callP p__law_pick hr (pa_cons (pv 8) (pa_cons (pv 6) pa_nil)))))))
      (pss_cons (ps_set (i := 10) nd rfl (Or.inl rfl) (pe_callP p__law_values hr (pa_cons (pv 8) (pa_cons (pv 2) (pa_cons pe_int pa_nil)))))
      (pss_cons (ps_set (i := 11) nd rfl (Or.inl rfl) (pe_callP p__law_values hr (pa_cons (pe_callP p__law_turn hr (pa_cons (pv 0) (pa_cons (pv 1) (pa_cons pe_int pa_nil)))) (pa_cons (pv 2) (pa_cons pe_int pa_nil)))))
      (pss_cons (ps_for PassesOwn.never rfl (pi_listK (K := K) rfl (pv 9)) (pg_name (i := 12) nd rfl (Or.inl rfl)) (pss_one (ps_if (PW.pt (pw_or (pt_not (pt_val (pe_callP p__law_valued hr (pa_cons (pv 12) (pa_cons (pv 10) pa_nil))))) (pw_or1 (pt_not (pt_val (pe_callP p__law_valued hr (pa_cons (pv 12) (pa_cons (pv 11) pa_nil)))))))) (pss_one (ps_ret pe_bl)) pss_nil)))
      (pss_one (ps_ret (pe_and (pe_callP p__law_apart hr (pa_cons (pv 8) (pa_cons (pv 2) (pa_cons (pe_ix (ix_listK (K := K) rfl) (pv 9) pe_int (fun _ _ => rfl)) (pa_cons (pe_ix (ix_listK (K := K) rfl) (pv 9) pe_int (fun _ _ => rfl)) pa_nil))))) (pe_one (pe_callP p__law_apart hr (pa_cons (pv 8) (pa_cons (pv 2) (pa_cons (pe_callP p__law_pick hr (pa_cons (pv 8) (pa_cons (pv 6) pa_nil))) (pa_cons (pe_ix (ix_listK (K := K) rfl) (pv 9) pe_int (fun _ _ => rfl)) pa_nil))))))))))))))))))))))), ?_⟩
  refine w_start (σ := [some _, none, none, none, none, none, none, none, none, none, none, none, none]) rfl ?_
  walk_at "go"
  rename_i p0 H1 hE1 hpp hP1
  walk_at "go"
  refine ⟨_, rfl, hP1, fun na H2 ns hE2 hna hs hl => ?_⟩
  have hE02 := hE1.trans hE2
  have hP2 := hP1.ext hE2
  have hn0 : ns.map V.int ≠ [] := fun z => by have := congrArg List.length z; rw [List.length_map, hl] at this; simp at this
  walk_at "go"
  refine call_pick hP2 (SqL.of hna) (npl_ints _) hn0 (by rw [List.length_map]; omega) fun nv H3 hnode hE3 => ?_
  obtain ⟨n, hn, rfl⟩ := List.mem_map.mp hnode
  walk_at "go"
  rename_i many H4 hE4 m0 m1 lng H5 hE5 l0 l1
  have hE25 := (hE3.trans hE4).trans hE5
  have hna5 := hE25.get hna (npl_ints _)
  have hP5 := hP2.ext hE25
  have hS5 := (hE02.trans hE25).seqL hS npS
  generalize hlong : decide (V.int lng = V.int 0) = lb at *
  clear hE02 hE1 hE2 hE3 hE4 hE5 hE25 hna hP1 hP2 hS
  walk_at "go"
  intro r hr5
  have hrows : RowsAt ns (upd H5 r (.lst [])) r 0 := ⟨[], L2.upd_same, rfl, fun v hv => nomatch hv⟩
  have eA : Ext H5 (upd H5 r (.lst [])) := Ext.new hr5
  generalize upd H5 r (.lst []) = H6 at *
  walk_at "go"
  intro p1 hp1
  have e1 : Ext H6 (upd H6 p1 (.tup [.int 0, .int 1])) := Ext.new hp1
  have hz1 : Dq (upd H6 p1 (.tup [.int 0, .int 1])) (.ref p1) (rD 0) := zero_D L2.upd_same
  generalize upd H6 p1 (.tup [.int 0, .int 1]) = H7 at *
  walk_at "go"
  refine call_con hz1 fun t0 H8 hE8 ht0 => ?_
  walk_at "go"
  intro p2 hp2
  walk_at "go"
  intro d2 hd2
  walk_at "go"
  intro p3 hp3
  have e3 : Ext H8 (upd (upd (upd H8 p2 (.tup [.int 0, .int 1])) d2 (.dK [])) p3 (.tup [.ref p2, .ref d2])) := ((Ext.new hp2).newer hd2).newer hp3
  have o3 : OwnAt (upd (upd (upd H8 p2 (.tup [.int 0, .int 1])) d2 (.dK [])) p3 (.tup [.ref p2, .ref d2])) (.ref p3) 0 [] :=
    ⟨p3, _, d2, rfl, L2.upd_same, zero_D (upd_old hp3 (upd_old hd2 L2.upd_same)), [], upd_old hp3 L2.upd_same, trivial⟩
  have e68 := (e1.trans hE8).trans e3
  have R9 := hrows.ext e68
  have ht9 := ht0.ext e3
  have e59 := eA.trans e68
  generalize upd (upd (upd H8 p2 (.tup [.int 0, .int 1])) d2 (.dK [])) p3 (.tup [.ref p2, .ref d2]) = H9 at *
  walk_at "go"
  refine call_add hs hl R9 (by decide) ht9 o3 ⟨Ok.nil, ⟨by decide, by decide⟩, fun x hx => nomatch hx⟩ fun H10 e10 R10 => ?_
  have e510 : Ext H5 H10 := (e59.delN hr5).trans e10
  clear e68 e59 eA e1 e3 hE8 hrows ht0 ht9 hz1 o3 R9 e10
  walk_at "go"
  refine call_bas fun t1 H11 hE11 ht1 => ?_
  walk_at "go"
  intro p4 hp4
  walk_at "go"
  refine w_disp1 fun d5 hd5 => ?_
  walk_at "go"
  intro p6 hp6
  refine ⟨upd_old hp6 L2.upd_same, [(.inl n, .ref p6)], rfl, (by show 1 ≤ 15; decide), ?_⟩
  rw [show mergeK [] [((.inl n : Key), V.ref p6)] = [(.inl n, .ref p6)] from rfl]
  walk_at "go"
  intro p7 hp7
  have hne : p6 ≠ d5 := (ne_of_none (upd_same) hp6).symm
  have e12 : Ext H11 (upd (upd (upd (upd (upd H11 p4 (.tup [.int 0, .int 1])) d5 (.dK [])) p6 (.tup [.int 1, .int 1])) d5 (.dK [(.inl n, .ref p6)])) p7 (.tup [.ref p4, .ref d5])) := ((((Ext.new hp4).newer hd5).newer hp6).own ((Ext.new hp4).non hd5)).newer hp7
  have h4' : upd (upd (upd (upd (upd H11 p4 (.tup [.int 0, .int 1])) d5 (.dK [])) p6 (.tup [.int 1, .int 1])) d5 (.dK [(.inl n, .ref p6)])) p7 (.tup [.ref p4, .ref d5]) p4 = some (.tup [.int 0, .int 1]) :=
    upd_old hp7 (upd_oth (ne_of_none (upd_same) hd5) (upd_old hp6 (upd_old hd5 L2.upd_same)))
  have o12 : OwnAt (upd (upd (upd (upd (upd H11 p4 (.tup [.int 0, .int 1])) d5 (.dK [])) p6 (.tup [.int 1, .int 1])) d5 (.dK [(.inl n, .ref p6)])) p7 (.tup [.ref p4, .ref d5])) (.ref p7) 0 [(n, 1)] :=
    ⟨p7, .ref p4, d5, rfl, L2.upd_same, zero_D h4', [(.inl n, .ref p6)], upd_old hp7 L2.upd_same, rfl, Dq.of_pair (upd_old hp7 (upd_oth hne L2.upd_same)), trivial⟩
  have e1012 := hE11.trans e12
  have R12 := R10.ext e1012
  have t12 := ht1.ext e12
  have e512 := e510.trans e1012
  generalize upd (upd (upd (upd (upd H11 p4 (.tup [.int 0, .int 1])) d5 (.dK [])) p6 (.tup [.int 1, .int 1])) d5 (.dK [(.inl n, .ref p6)])) p7 (.tup [.ref p4, .ref d5]) = H12 at *
  have g1 : G ns 0 [(n, 1)] := ⟨base1_ok n, ⟨by decide, by decide⟩, fun x hx => by rw [List.mem_singleton] at hx; subst hx; exact ⟨⟨by show (1 : Rat).num.natAbs < 2 ^ 190; decide, by show (1 : Rat).den < 2 ^ 190; decide⟩, hn⟩⟩
  walk_at "go"
  refine call_add hs hl R12 (by decide) t12 o12 g1 fun H13 e13 R13 => ?_
  have e513 : Ext H5 H13 := (e512.delN hr5).trans e13
  clear e1012 e512 e510 R10 R12 t12 o12 e12 ht1 hE11 e13
  walk_at "go"
  refine for_range (fun i σ H' => ∃ (k : Nat) (t : Option V), σ = [some (.ref a), some (.ref p0), some (.ref na), some (.int n), some (.int (6 + many)), some (.bl lb), some (.ref r), t, none, none, none, none, none] ∧ Ext H5 H' ∧ RowsAt ns H' r k ∧ 2 ≤ k ∧ k ≤ 2 + i) ⟨2, _, rfl, e513, R13, by omega, by omega⟩ ?_ ?_
  · rintro i σ H14 hi ⟨k, t, rfl, e14, R14, k0, k1⟩
    have hS14 := e14.seqL hS5 npS
    have hP14 := hP5.ext e14
    walk_at "go"
    rename_i u H15 hE15 hu
    have e15 := e14.trans hE15
    walk_at "go"
    refine ⟨ns, u, na, r, lb, k, rfl, hu, e15.get hna5 (npl_ints _), hs, hl, R14.ext hE15, by omega, by omega, fun H16 k' e16 R16 ka kb => ?_⟩
    walk_at "go"
    exact ⟨k', _, rfl, (e15.delN hr5).trans e16, R16, by omega, by omega⟩
  rintro σ H14 ⟨k, t, rfl, e14, R14, k0, k1⟩
  have hS14 := e14.seqL hS5 npS
  have hP14 := hP5.ext e14
  walk_at "go"
  rename_i en H15 hE15 hen
  have e15 := e14.trans hE15
  obtain ⟨ws, hws, hwl, hwa⟩ := R14.ext hE15
  have nv := rows_npl hwa
  have hw0 : ws ≠ [] := fun z => by subst z; simp at hwl; omega
  have hra : ∀ x ∈ ws, RowAt ns H15 x := fun x hx => (hwa x hx).ext del_sub
  walk_at "go"
  intro c1 hc1
  obtain ⟨cl, cm⟩ := cut_last ws
  have hc1' : upd H15 c1 (.lst (cutV ws (some (-3)) none)) c1 = some (.lst (cutV ws (some (-3)) none)) := L2.upd_same
  have ec1 : Ext H15 (upd H15 c1 (.lst (cutV ws (some (-3)) none))) := Ext.new hc1
  have np1 : ¬ Pl (.lst (cutV ws (some (-3)) none)) := npl_nobl fun x hx b e => by
    obtain ⟨p, z⟩ := (hra x (cm x hx)).ref
    rw [z] at e; cases e
  have hws16 := upd_old (u := .lst (cutV ws (some (-3)) none)) hc1 hws
  generalize hxs : cutV ws (some (-3)) none = xs at *
  generalize upd H15 c1 (.lst xs) = H16 at *
  walk_at "go"
  intro c2 hc2
  rw [hxs]
  have hc1'' := upd_old (u := .lst xs) hc2 hc1'
  have ec2 : Ext H15 (upd H16 c2 (.lst xs)) := ec1.newer hc2
  have hws17 := upd_old (u := .lst xs) hc2 hws16
  have h22 : upd H16 c2 (.lst xs) c2 = some (.lst xs) := L2.upd_same
  generalize upd H16 c2 (.lst xs) = H17 at *
  walk_at "go"
  have hen17 := hen.ext ec2
  refine lc_r (R := fun i acc Hd => acc.length = i ∧ ∀ v ∈ acc, v ∈ ws) ⟨rfl, fun _ h => nomatch h⟩ (fun _ _ _ _ e h => h) ?_ ?_
  · rintro i acc D2 H18 hi hD2 hacc hE18 ⟨hal, hall⟩
    have npa : ¬ Pl (.lst acc) := npl_nobl fun x hx b e => by
      obtain ⟨p, z⟩ := (hra x (hall x hx)).ref
      rw [z] at e; cases e
    walk_at "go"
    refine call_pick (hen17.ext hE18) (SqL.of (hE18.get hws17 nv)) nv hw0 (by omega) fun x H19 hx hE19 => ?_
    refine LcP.put hD2 hacc npa hE18 hE19 (by omega) ⟨by rw [List.length_append, hal]; rfl, fun v hv => ?_⟩
    rcases List.mem_append.mp hv with z | z
    · exact hall v z
    · rw [List.mem_singleton] at z; subst z; exact hx
  rintro D2 ys H18 hD2 hys hE18 ⟨hyl, hyw⟩
  have hys6 : xs.length + ys.length = 6 := by
    have : (6 - (xs.length : Int)).toNat = 6 - xs.length := by omega
    rw [hyl]; omega
  refine w_cat (hE18.get hc1'' np1) hys (by omega) fun pf hpf => ?_
  have hfew : ∀ x ∈ xs ++ ys, x ∈ ws := fun x hx => by
    rcases List.mem_append.mp hx with z | z
    · exact cm x z
    · exact hyw x z
  have hfl : (xs ++ ys).length = 6 := by rw [List.length_append]; exact hys6
  have e19 : Ext H15 (upd H18 pf (.lst (xs ++ ys))) := (ec2.trans hE18).newer hpf
  have hf19 : upd H18 pf (.lst (xs ++ ys)) pf = some (.lst (xs ++ ys)) := L2.upd_same
  have npf : ¬ Pl (.lst (xs ++ ys)) := npl_nobl fun x hx b e => by
    obtain ⟨p, z⟩ := (hra x (hfew x hx)).ref
    rw [z] at e; cases e
  generalize xs ++ ys = few at *
  generalize upd H18 pf (.lst few) = H19 at *
  have e519 := e15.trans e19
  walk_at "go"
  refine ⟨en, na, ns, 0, rfl, hen.ext e19, e519.get hna5 (npl_ints _), hl, by decide, by decide, fun dp H20 l1 hE20 hd1 hk1 hb1 hl1 hn1 => ?_⟩
  have e520 := e519.trans hE20
  have hS20 := e520.seqL hS5 npS
  have hP20 := hP5.ext e520
  walk_at "go"
  rename_i u H21 hE21 hu21
  have e521 := e520.trans hE21
  walk_at "go"
  refine ⟨u, na, ns, 3, rfl, hu21, e521.get hna5 (npl_ints _), hl, by decide, by decide, fun dg H22 l2 hE22 hd2' hk2 hb2 hl2 hn2 => ?_⟩
  have e522 := e521.trans hE22
  have e1922 := (hE20.trans hE21).trans hE22
  have hf22 := e1922.get hf19 npf
  have hd1' := (hd1.ext hE21).ext hE22
  have e1522 := e19.trans e1922
  walk_at "go"
  refine for_list (K := K) (a := pf) (xs := few) (fun i σ H' => ∃ y : Option V, σ = [some (.ref a), some (.ref p0), some (.ref na), some (.int n), some (.int (6 + many)), some (.bl lb), some (.ref r), t, some en, some (.ref pf), some (.ref dp), some (.ref dg), y] ∧ Ext H22 H')
    ⟨_, rfl, Ext.refl⟩ (fun i σ H' _ ⟨_, _, e⟩ => SqL.of (e.get hf22 npf)) ?_ ?_
  · rintro i x σ H23 hx ⟨y, rfl, e23⟩
    have rx := (hra x (hfew x (List.mem_of_getElem? hx))).ext (e1522.trans e23)
    walk_at "go"
    refine call_val hs hl rx (hd1'.ext e23) hn1 (by omega) hk1 hb1 fun H24 e24 => ?_
    walk_at "go"
    refine call_val hs hl (rx.ext e24) ((hd2'.ext e23).ext e24) hn2 (by omega) hk2 hb2 fun H25 e25 => ?_
    walk_at "go"
    exact ⟨_, rfl, (e23.trans e24).trans e25⟩
  · rintro σ H23 ⟨y, rfl, e23⟩
    have e1523 := e1522.trans e23
    have e523 := e522.trans e23
    have hf23 := e23.get hf22 npf
    have at0 : ∀ i : Nat, i < 6 → ∃ x, x ∈ few ∧ atI few (i : Int) = some x := fun i hi => by
      obtain ⟨x, h1, _, h2⟩ := atI_in (xs := few) (k := (i : Int)) (by omega) (by omega)
      exact ⟨x, h1, h2⟩
    obtain ⟨x0, hx0, ex0⟩ := at0 0 (by decide)
    obtain ⟨x2, hx2, ex2⟩ := at0 2 (by decide)
    obtain ⟨x3, hx3, ex3⟩ := at0 3 (by decide)
    walk_at "go"
    refine ⟨ns, en, na, x0, x3, rfl, hen.ext e1523, e523.get hna5 (npl_ints _), hs, hl, (hra x0 (hfew _ hx0)).ext e1523, (hra x3 (hfew _ hx3)).ext e1523, fun H24 e24 => ?_⟩
    have e1524 := e1523.trans e24
    walk_at "go"
    refine call_pick (hen.ext e1524) (SqL.of (e1524.get hws nv)) nv hw0 (by omega) fun x H25 hx hE25 => ?_
    have e1525 := e1524.trans hE25
    have hf25 := (e24.trans hE25).get hf23 npf
    walk_at "go"
    exact ⟨ns, en, na, x, x2, rfl, hen.ext e1525, ((e523.trans e24).trans hE25).get hna5 (npl_ints _), hs, hl, (hra x hx).ext e1525, (hra x2 (hfew _ hx2)).ext e1525, fun H26 _ => q H26⟩
end
end Kf

end
section
set_option Elab.async false
set_option linter.all false
set_option maxRecDepth 100000
set_option maxHeartbeats 4000000
local macro_rules | `(tactic| walk_at "npl") => `(tactic| first | exact Kf.npl rfl | exact Kf.npl_ints _ | exact Kf.npl_one _ _ | exact Kf.npl_refs _ | assumption)
local macro_rules | `(tactic| walk_at "nn") => `(tactic| first
  | assumption
  | (refine' Kf.Ext.non ?nne ?nnh; (case nne => assumption); (case nnh => walk_at "nn")))
local macro_rules | `(tactic| walk_at "ext") => `(tactic| first
  | assumption
  | exact Kf.Ext.refl
  | (refine' Kf.Ext.newer ?exa ?exn; (case exn => assumption); (case exa => walk_at "ext"))
  | (refine' Kf.Ext.own ?exa ?exn; (case exn => walk_at "nn"); (case exa => walk_at "ext"))
  | (refine' Kf.Ext.trans ?exa ?exb; (case exb => assumption); (case exa => walk_at "ext")))
local macro_rules | `(tactic| walk_at "pool") => `(tactic| first
  | assumption
  | (refine' Kf.PoolAt.ext ?plh ?ple; (case plh => assumption); (case ple => walk_at "ext"))
  | (refine' Kf.PoolAt.upd ?plh ?plo ?pln; (case plo => assumption); (case pln => walk_at "npl"); (case plh => walk_at "pool")))
local macro_rules | `(tactic| walk_at "lk") => `(tactic| first
  | assumption
  | exact L2.upd_same
  | (refine' Kf.upd_old ?lkn ?lkh; (case lkn => assumption); (case lkh => walk_at "lk"))
  | (refine' Kf.upd_oth ?lkn ?lkh; (case lkn => (first | assumption | (apply Ne.symm; assumption))); (case lkh => walk_at "lk"))
  | (refine' Kf.Ext.get ?lke ?lkh ?lkn; (case lke => assumption); (case lkh => walk_at "lk"); (case lkn => walk_at "npl"))
  | (refine' L2.Same.at ?lke ?lkh; (case lke => assumption); (case lkh => walk_at "lk")))
local macro_rules | `(tactic| walk_at "sq") => `(tactic| first
  | assumption
  | (refine' L2.SqL.of ?sqh; (case sqh => walk_at "lk"))
  | (refine' L2.SqT.of ?sqh; (case sqh => walk_at "lk"))
  | (refine' Kf.Ext.seqL ?sqe ?sqh ?sqn; (case sqh => assumption); (case sqe => walk_at "ext"); (case sqn => walk_at "npl"))
  | (refine' Kf.Ext.seqT ?sqe ?sqh; (case sqh => assumption); (case sqe => walk_at "ext")))
local macro_rules | `(tactic| walk_at "at") => `(tactic| first | exact L2.atI_nat (j := 0) rfl | exact L2.atI_nat (j := 1) rfl | exact L2.atI_nat (j := 2) rfl | exact L2.atI_nat (j := 3) rfl | exact L2.atI_nat (j := 4) rfl | assumption)
local macro_rules | `(tactic| walk_at "ixn") => `(tactic| first | exact Kf.ixN_nat (j := 0) rfl | exact Kf.ixN_nat (j := 1) rfl | exact Kf.ixN_nat (j := 2) rfl | exact Kf.ixN_nat (j := 3) rfl | assumption)
local macro_rules | `(tactic| walk_at "set") => `(tactic| (first | (simp only [List.set_cons_succ, List.set_cons_zero]; rfl) | rfl))
local macro_rules | `(tactic| walk_at "om") => `(tactic| first | decide | omega | (simp only [List.length_map, List.length_cons, List.length_nil] at *; omega))
local macro_rules | `(tactic| walk_at "calls") => `(tactic| first
  | (with_reducible refine' Kf.call_take ?clp ?cla ?clb ?clq; (case clp => walk_at "pool"); (case cla => walk_at "om"); (case clb => walk_at "om"); intro r H' hE h0 h1)
  | (with_reducible refine' Kf.call_pool ?cls ?cla ?clq; (case cls => walk_at "sq"); (case cla => walk_at "om"); intro p H' hE hN hP)
  | (with_reducible refine' Kf.call_turn ?cls ?clp ?cla ?clq; (case cls => walk_at "sq"); (case clp => walk_at "pool"); (case cla => walk_at "om"); intro u H' hE hP))
local macro_rules | `(tactic| walk_at "side") => `(tactic| first
  | exact Kf.cmul_fmod (by decide) (by decide)
  | exact rfl
  | decide
  | omega
  | assumption
  | (refine ⟨?_, ?_⟩ <;> decide)
  | (refine ⟨?_, ?_, ?_⟩ <;> decide)
  | (refine ⟨?_, ?_⟩ <;> omega)
  | (refine Or.inl ⟨?_, ?_⟩ <;> decide)
  | (refine Or.inr ⟨?_, ?_⟩ <;> decide)
  | (refine Or.inl ⟨?_, ?_⟩ <;> omega)
  | (refine Or.inr ⟨?_, ?_⟩ <;> omega))
local macro_rules | `(tactic| walk_at "kit") => `(tactic| first | exact Kf.isi_int_int | exact Kf.isi_int_bool | exact Kf.isi_int_str | exact Kf.isi_int_list | exact Kf.isi_int_tuple | exact Kf.isi_bool_int | exact Kf.isi_bool_bool | exact Kf.isi_bool_str | exact Kf.isi_bool_list | exact Kf.isi_bool_tuple | exact Kf.isi_str_int | exact Kf.isi_str_bool | exact Kf.isi_str_str | exact Kf.isi_str_list | exact Kf.isi_str_tuple | exact Kf.isi_non_list | exact Kf.isi_non_tuple | exact Kf.isi_list_list | exact Kf.isi_list_tuple | exact Kf.isi_tuple_list | exact Kf.isi_tuple_tuple | exact Kf.isi_dict_dict)
local macro_rules | `(tactic| walk_at "ty") => `(tactic| first
  | exact L2.TyX.base (L2.TyOf.int _)
  | exact L2.TyX.base (L2.TyOf.bl _)
  | exact L2.TyX.base (L2.TyOf.str _)
  | exact L2.TyX.base L2.TyOf.non
  | (refine' L2.TyX.base (L2.TyOf.lst ?tyh); (case tyh => walk_at "lk"))
  | (refine' L2.TyX.base (L2.TyOf.tup ?tyh); (case tyh => walk_at "lk"))
  | (refine' L2.TyX.base (L2.TyOf.dK ?tyh); (case tyh => walk_at "lk")))
local macro_rules | `(tactic| walk_at "om2") => `(tactic| first | assumption | decide | omega)
local macro_rules | `(tactic| walk_at "st") => `(tactic| with_reducible first
  | (refine Kf.w_var rfl ?_)
  | (refine Kf.w_c ?_)
  | (refine Kf.w_seq ?_)
  | (refine Kf.w_asg ?_)
  | (refine' Kf.w_gname ?sth ?_; (case sth => with_unfolding_all walk_at "set"))
  | (refine Kf.w_op ?_)
  | (refine Kf.w_un ?_)
  | (refine Kf.w_rU ?_)
  | (refine Kf.w_rI0 ?_)
  | (refine' Kf.w_rI ?sth ?_; (case sth => with_unfolding_all walk_at "side"))
  | (refine' Kf.w_rEq ?sth ?_; (case sth => with_unfolding_all rfl))
  | (refine' Kf.w_rNe ?sth ?_; (case sth => with_unfolding_all rfl))
  | (refine Kf.w_tTest ?_)
  | (refine Kf.w_tB ?_)
  | (refine Kf.w_exbl ?_)
  | (refine Kf.w_exint ?_)
  | (refine Kf.w_ifS ?_)
  | (refine Kf.w_ret ?_)
  | (refine Kf.w_retN ?_)
  | (refine Kf.w_drop ?_)
  | (refine Kf.w_and ?_)
  | (refine Kf.w_or ?_)
  | (refine Kf.w_not ?_)
  | (refine Kf.w_andV ?_)
  | (refine Kf.w_orV ?_)
  | (refine Kf.w_notV ?_)
  | (refine Kf.w_if ?_)
  | (refine Kf.w_lc ?_)
  | (refine Kf.w_for ?_)
  | (refine Kf.w_rng1 ?_)
  | (refine' Kf.w_rng1x ?sth ?stg ?_; (case sth => with_unfolding_all walk_at "om"); (case stg => with_unfolding_all walk_at "om"))
  | (refine Kf.w_ilist ?_)
  | (refine Kf.w_iseq ?_)
  | (refine Kf.w_itup ?_)
  | (refine' Kf.w_ilistx ?sth ?_; (case sth => with_unfolding_all walk_at "sq"))
  | (refine' Kf.w_itupx ?sth ?_; (case sth => with_unfolding_all walk_at "sq"))
  | (refine' Kf.w_wipe ?sth ?_; (case sth => with_unfolding_all rfl))
  | (refine Kf.w_yes ?_)
  | (refine' Kf.w_isi ?sth ?stg ?_; (case sth => with_unfolding_all walk_at "ty"); (case stg => walk_at "kit"))
  | (refine Kf.w_isN ?_)
  | (refine Kf.w_notN ?_)
  | (refine Kf.w_cb ?_)
  | (refine Kf.w_nil ?_)
  | (refine Kf.w_cons ?_)
  | (refine Kf.w_tup ?_)
  | (refine Kf.w_lst ?_)
  | (refine' Kf.w_lines ?sth ?_; (case sth => with_unfolding_all rfl))
  | (refine Kf.w_call ?_)
  | (refine Kf.w_next ?_)
  | (refine Kf.w_break ?_)
  | (refine Kf.w_cont ?_)
  | (refine Kf.w_dnewK ?_)
  | (refine Kf.w_ikeys ?_)
  | (refine Kf.w_dput ?_)
  | (refine Kf.w_dget2 ?_)
  | (refine Kf.w_dget ?_)
  | (refine Kf.w_sl ?_)
  | (refine Kf.w_nopart ?_)
  | (refine Kf.w_part ?_)
  | (refine Kf.w_bm ?_)
  | (refine Kf.w_bm0 ?_)
  | (refine' Kf.w_bmL ?sth ?_; (case sth => with_unfolding_all walk_at "lk"))
  | (refine' Kf.w_cat ?sth ?stg ?stf ?_; (case sth => with_unfolding_all walk_at "lk"); (case stg => with_unfolding_all walk_at "lk"); (case stf => with_unfolding_all walk_at "om"))
  | (refine' Kf.w_slL ?sth ?_; (case sth => with_unfolding_all walk_at "sq"))
  | (refine' Kf.w_inL ?sth ?_; (case sth => with_unfolding_all walk_at "sq"))
  | (refine' Kf.w_inT ?sth ?_; (case sth => with_unfolding_all walk_at "sq"))
  | (refine' Kf.w_ninL ?sth ?_; (case sth => with_unfolding_all walk_at "sq"))
  | (refine' Kf.w_ninT ?sth ?_; (case sth => with_unfolding_all walk_at "sq"))
  | (refine' Kf.w_listof ?sth ?_; (case sth => with_unfolding_all walk_at "sq"))
  | (refine' Kf.w_tupof ?sth ?_; (case sth => with_unfolding_all walk_at "sq"))
  | (refine Kf.w_listRev ?_)
  | (refine Kf.w_gsub ?_)
  | (refine' Kf.w_ixL ?sth ?stg ?_; (case sth => with_unfolding_all walk_at "sq"); (case stg => with_unfolding_all walk_at "at"))
  | (refine' Kf.w_ixT ?sth ?stg ?_; (case sth => with_unfolding_all walk_at "sq"); (case stg => with_unfolding_all walk_at "at"))
  | (refine' Kf.w_setL ?sth ?stg ?_; (case sth => with_unfolding_all walk_at "lk"); (case stg => with_unfolding_all walk_at "ixn"))
  | (refine' Kf.w_len ?sth ?_; (case sth => with_unfolding_all walk_at "sq"))
  | (refine' Kf.w_lenT ?sth ?_; (case sth => with_unfolding_all walk_at "sq"))
  | (refine Kf.w_int1 ?_)
  | (refine Kf.w_intb ?_)
  | (refine Kf.w_abs ?_)
  | (refine Kf.w_aug rfl ?_)
  | (refine Kf.w_par ?_)
  | (refine' Kf.w_gtup ?sth ?stg ?_; (case sth => with_unfolding_all walk_at "sq"); (case stg => with_unfolding_all exact rfl))
  | (refine' Kf.w_glst ?sth ?stg ?_; (case sth => with_unfolding_all walk_at "sq"); (case stg => with_unfolding_all exact rfl))
  | (refine Kf.w_rng2 ?_)
  | (refine Kf.w_rng3 ?_)
  | (refine' Kf.w_rng2x ?sth ?stg ?stf ?ste ?_; (case sth => with_unfolding_all walk_at "om"); (case stg => with_unfolding_all walk_at "om"); (case stf => with_unfolding_all walk_at "om"); (case ste => with_unfolding_all walk_at "om"))
  | (refine Kf.w_gcons ?_)
  | (refine Kf.w_gnil ?_)
  | (refine Kf.w_gcd ?_)
  | (refine Kf.w_bits ?_)
  | (refine Kf.w_two ?_)
  | (refine Kf.w_ipI ?_)
  | (refine L2.iteT ?_)
  | (refine L2.iteF ?_)
  | (refine Kf.iteNT ?_)
  | (refine Kf.iteNF ?_)
  | (refine' Kf.ite_decT ?sth ?_; (case sth => exact rfl))
  | (refine' Kf.ite_decF ?sth ?_; (case sth => with_unfolding_all (intro e; cases e; done)))
  | (refine' Kf.ite_ndecF ?sth ?_; (case sth => exact rfl))
  | (refine' Kf.ite_ndecT ?sth ?_; (case sth => with_unfolding_all (intro e; cases e; done)))
  | (refine' Kf.ite_viT ?sth ?_; (case sth => (with_unfolding_all walk_at "om2")))
  | (refine' Kf.ite_viF ?sth ?_; (case sth => (with_unfolding_all walk_at "om2")))
  | (refine' Kf.ite_nviT ?sth ?_; (case sth => (with_unfolding_all walk_at "om2")))
  | (refine' Kf.ite_nviF ?sth ?_; (case sth => (with_unfolding_all walk_at "om2")))
  | (refine' Kf.ite_decT ?sth ?_; (case sth => (with_unfolding_all walk_at "om2")))
  | (refine' Kf.ite_decF ?sth ?_; (case sth => (with_unfolding_all walk_at "om2")))
  | with_unfolding_all walk_at "calls")
local macro_rules | `(tactic| walk_at "go") => `(tactic| repeat walk_at "st")

namespace Kf
open PySem PySem.Spec PyProof.Rows L2
theorem all_mk {l : PySem.W.OpenLaw} {w : World} {K : PySem.W.Frag} {h : Heap} {mg : Str → Option Value} {fa f0 f1 f2 f3 f4 f5 f6 f7 f8 f9 f10 f11 f12 f13 f14 f15 f16 f17 f18 f19 f20 f21 f22 f23 f24 f25 f26 f27 f28 f29 f30 f31 f32 f33 f34 : Addr} (X : K.In h) (G : h.Ns mainGlobals mg) (hfa : mg "law" = some (.ref fa))
    {od0 an0 od1 an1 od2 an2 od3 an3 od4 an4 od5 an5 od6 an6 od7 an7 od8 an8 od9 an9 od10 an10 od11 an11 od12 an12 od13 an13 od14 an14 od15 an15 od16 an16 od17 an17 od18 an18 od19 an19 od20 an20 od21 an21 od22 an22 od23 an23 od24 an24 od25 an25 od26 an26 od27 an27 od28 an28 od29 an29 od30 an30 od31 an31 od32 an32 od33 an33 od34 an34 : Option Addr} {sl0 sl1 sl2 sl3 sl4 sl5 sl6 sl7 sl8 sl9 sl10 sl11 sl12 sl13 sl14 sl15 sl16 sl17 sl18 sl19 sl20 sl21 sl22 sl23 sl24 sl25 sl26 sl27 sl28 sl29 sl30 sl31 sl32 sl33 sl34 : Array (Option Value)} {oc0 kV0 dc0 pm0 cd0 ct0 oc1 kV1 dc1 pm1 cd1 ct1 oc2 kV2 dc2 pm2 cd2 ct2 oc3 kV3 dc3 pm3 cd3 ct3 oc4 kV4 dc4 pm4 cd4 ct4 oc5 kV5 dc5 pm5 cd5 ct5 oc6 kV6 dc6 pm6 cd6 ct6 oc7 kV7 dc7 pm7 cd7 ct7 oc8 kV8 dc8 pm8 cd8 ct8 oc9 kV9 dc9 pm9 cd9 ct9 oc10 kV10 dc10 pm10 cd10 ct10 oc11 kV11 dc11 pm11 cd11 ct11 oc12 kV12 dc12 pm12 cd12 ct12 oc13 kV13 dc13 pm13 cd13 ct13 oc14 kV14 dc14 pm14 cd14 ct14 oc15 kV15 dc15 pm15 cd15 ct15 oc16 kV16 dc16 pm16 cd16 ct16 oc17 kV17 dc17 pm17 cd17 ct17 oc18 kV18 dc18 pm18 cd18 ct18 oc19 kV19 dc19 pm19 cd19 ct19 oc20 kV20 dc20 pm20 cd20 ct20 oc21 kV21 dc21 pm21 cd21 ct21 oc22 kV22 dc22 pm22 cd22 ct22 oc23 kV23 dc23 pm23 cd23 ct23 oc24 kV24 dc24 pm24 cd24 ct24 oc25 kV25 dc25 pm25 cd25 ct25 oc26 kV26 dc26 pm26 cd26 ct26 oc27 kV27 dc27 pm27 cd27 ct27 oc28 kV28 dc28 pm28 cd28 ct28 oc29 kV29 dc29 pm29 cd29 ct29 oc30 kV30 dc30 pm30 cd30 ct30 oc31 kV31 dc31 pm31 cd31 ct31 oc32 kV32 dc32 pm32 cd32 ct32 oc33 kV33 dc33 pm33 cd33 ct33 oc34 kV34 dc34 pm34 cd34 ct34 : Value}
    {T_ratio : Addr} {ocT : Value} {odT : Option Addr} {tT : Tok} {nT : Nat} {slT : Array (Option Value)}
    (a0 : PySem.W.nsIn K mainGlobals "ratio" = some (some (.ref f0))) (l0 : K.lookup f0 = some ⟨oc0, od0, .func (PySem.W.fnOf "ratio" "ratio" (defArgs s_ratio) (defBody s_ratio) (defScope s_ratio) (.ref T_ratio) kV0 dc0 pm0 an0 cd0 ct0), sl0⟩) (c0 : PySem.W.codeIn K cd0 "ratio" = true) (k0 : PySem.W.keepIn K (.ref f0) = true)
    (a1 : PySem.W.nsIn K mainGlobals "plus" = some (some (.ref f1))) (l1 : K.lookup f1 = some ⟨oc1, od1, .func (PySem.W.fnOf "plus" "plus" (defArgs s_plus) (defBody s_plus) (defScope s_plus) .none kV1 dc1 pm1 an1 cd1 ct1), sl1⟩) (c1 : PySem.W.codeIn K cd1 "plus" = true) (k1 : PySem.W.keepIn K (.ref f1) = true)
    (a2 : PySem.W.nsIn K mainGlobals "times" = some (some (.ref f2))) (l2 : K.lookup f2 = some ⟨oc2, od2, .func (PySem.W.fnOf "times" "times" (defArgs s_times) (defBody s_times) (defScope s_times) .none kV2 dc2 pm2 an2 cd2 ct2), sl2⟩) (c2 : PySem.W.codeIn K cd2 "times" = true) (k2 : PySem.W.keepIn K (.ref f2) = true)
    (a3 : PySem.W.nsIn K mainGlobals "constant_form" = some (some (.ref f3))) (l3 : K.lookup f3 = some ⟨oc3, od3, .func (PySem.W.fnOf "constant_form" "constant_form" (defArgs s_constant_form) (defBody s_constant_form) (defScope s_constant_form) .none kV3 dc3 pm3 an3 cd3 ct3), sl3⟩) (c3 : PySem.W.codeIn K cd3 "constant_form" = true) (k3 : PySem.W.keepIn K (.ref f3) = true)
    (a4 : PySem.W.nsIn K mainGlobals "base_form" = some (some (.ref f4))) (l4 : K.lookup f4 = some ⟨oc4, od4, .func (PySem.W.fnOf "base_form" "base_form" (defArgs s_base_form) (defBody s_base_form) (defScope s_base_form) .none kV4 dc4 pm4 an4 cd4 ct4), sl4⟩) (c4 : PySem.W.codeIn K cd4 "base_form" = true) (k4 : PySem.W.keepIn K (.ref f4) = true)
    (a5 : PySem.W.nsIn K mainGlobals "form_plus" = some (some (.ref f5))) (l5 : K.lookup f5 = some ⟨oc5, od5, .func (PySem.W.fnOf "form_plus" "form_plus" (defArgs s_form_plus) (defBody s_form_plus) (defScope s_form_plus) .none kV5 dc5 pm5 an5 cd5 ct5), sl5⟩) (c5 : PySem.W.codeIn K cd5 "form_plus" = true) (k5 : PySem.W.keepIn K (.ref f5) = true)
    (a6 : PySem.W.nsIn K mainGlobals "form_times" = some (some (.ref f6))) (l6 : K.lookup f6 = some ⟨oc6, od6, .func (PySem.W.fnOf "form_times" "form_times" (defArgs s_form_times) (defBody s_form_times) (defScope s_form_times) .none kV6 dc6 pm6 an6 cd6 ct6), sl6⟩) (c6 : PySem.W.codeIn K cd6 "form_times" = true) (k6 : PySem.W.keepIn K (.ref f6) = true)
    (a7 : PySem.W.nsIn K mainGlobals "form_value" = some (some (.ref f7))) (l7 : K.lookup f7 = some ⟨oc7, od7, .func (PySem.W.fnOf "form_value" "form_value" (defArgs s_form_value) (defBody s_form_value) (defScope s_form_value) .none kV7 dc7 pm7 an7 cd7 ct7), sl7⟩) (c7 : PySem.W.codeIn K cd7 "form_value" = true) (k7 : PySem.W.keepIn K (.ref f7) = true)
    (a8 : PySem.W.nsIn K mainGlobals "_law_pool" = some (some (.ref f8))) (l8 : K.lookup f8 = some ⟨oc8, od8, .func (PySem.W.fnOf "_law_pool" "_law_pool" (defArgs s__law_pool) (defBody s__law_pool) (defScope s__law_pool) .none kV8 dc8 pm8 an8 cd8 ct8), sl8⟩) (c8 : PySem.W.codeIn K cd8 "_law_pool" = true) (k8 : PySem.W.keepIn K (.ref f8) = true)
    (a9 : PySem.W.nsIn K mainGlobals "_law_take" = some (some (.ref f9))) (l9 : K.lookup f9 = some ⟨oc9, od9, .func (PySem.W.fnOf "_law_take" "_law_take" (defArgs s__law_take) (defBody s__law_take) (defScope s__law_take) .none kV9 dc9 pm9 an9 cd9 ct9), sl9⟩) (c9 : PySem.W.codeIn K cd9 "_law_take" = true) (k9 : PySem.W.keepIn K (.ref f9) = true)
    (a10 : PySem.W.nsIn K mainGlobals "_law_turn" = some (some (.ref f10))) (l10 : K.lookup f10 = some ⟨oc10, od10, .func (PySem.W.fnOf "_law_turn" "_law_turn" (defArgs s__law_turn) (defBody s__law_turn) (defScope s__law_turn) .none kV10 dc10 pm10 an10 cd10 ct10), sl10⟩) (c10 : PySem.W.codeIn K cd10 "_law_turn" = true) (k10 : PySem.W.keepIn K (.ref f10) = true)
    (a11 : PySem.W.nsIn K mainGlobals "_law_pick" = some (some (.ref f11))) (l11 : K.lookup f11 = some ⟨oc11, od11, .func (PySem.W.fnOf "_law_pick" "_law_pick" (defArgs s__law_pick) (defBody s__law_pick) (defScope s__law_pick) .none kV11 dc11 pm11 an11 cd11 ct11), sl11⟩) (c11 : PySem.W.codeIn K cd11 "_law_pick" = true) (k11 : PySem.W.keepIn K (.ref f11) = true)
    (a12 : PySem.W.nsIn K mainGlobals "_law_whole" = some (some (.ref f12))) (l12 : K.lookup f12 = some ⟨oc12, od12, .func (PySem.W.fnOf "_law_whole" "_law_whole" (defArgs s__law_whole) (defBody s__law_whole) (defScope s__law_whole) .none kV12 dc12 pm12 an12 cd12 ct12), sl12⟩) (c12 : PySem.W.codeIn K cd12 "_law_whole" = true) (k12 : PySem.W.keepIn K (.ref f12) = true)
    (a13 : PySem.W.nsIn K mainGlobals "_law_lowest" = some (some (.ref f13))) (l13 : K.lookup f13 = some ⟨oc13, od13, .func (PySem.W.fnOf "_law_lowest" "_law_lowest" (defArgs s__law_lowest) (defBody s__law_lowest) (defScope s__law_lowest) .none kV13 dc13 pm13 an13 cd13 ct13), sl13⟩) (c13 : PySem.W.codeIn K cd13 "_law_lowest" = true) (k13 : PySem.W.keepIn K (.ref f13) = true)
    (a14 : PySem.W.nsIn K mainGlobals "_law_alike" = some (some (.ref f14))) (l14 : K.lookup f14 = some ⟨oc14, od14, .func (PySem.W.fnOf "_law_alike" "_law_alike" (defArgs s__law_alike) (defBody s__law_alike) (defScope s__law_alike) .none kV14 dc14 pm14 an14 cd14 ct14), sl14⟩) (c14 : PySem.W.codeIn K cd14 "_law_alike" = true) (k14 : PySem.W.keepIn K (.ref f14) = true)
    (a15 : PySem.W.nsIn K mainGlobals "_law_long" = some (some (.ref f15))) (l15 : K.lookup f15 = some ⟨oc15, od15, .func (PySem.W.fnOf "_law_long" "_law_long" (defArgs s__law_long) (defBody s__law_long) (defScope s__law_long) .none kV15 dc15 pm15 an15 cd15 ct15), sl15⟩) (c15 : PySem.W.codeIn K cd15 "_law_long" = true) (k15 : PySem.W.keepIn K (.ref f15) = true)
    (a16 : PySem.W.nsIn K mainGlobals "_law_ratio" = some (some (.ref f16))) (l16 : K.lookup f16 = some ⟨oc16, od16, .func (PySem.W.fnOf "_law_ratio" "_law_ratio" (defArgs s__law_ratio) (defBody s__law_ratio) (defScope s__law_ratio) .none kV16 dc16 pm16 an16 cd16 ct16), sl16⟩) (c16 : PySem.W.codeIn K cd16 "_law_ratio" = true) (k16 : PySem.W.keepIn K (.ref f16) = true)
    (a17 : PySem.W.nsIn K mainGlobals "_law_factor" = some (some (.ref f17))) (l17 : K.lookup f17 = some ⟨oc17, od17, .func (PySem.W.fnOf "_law_factor" "_law_factor" (defArgs s__law_factor) (defBody s__law_factor) (defScope s__law_factor) .none kV17 dc17 pm17 an17 cd17 ct17), sl17⟩) (c17 : PySem.W.codeIn K cd17 "_law_factor" = true) (k17 : PySem.W.keepIn K (.ref f17) = true)
    (a18 : PySem.W.nsIn K mainGlobals "_law_nodes" = some (some (.ref f18))) (l18 : K.lookup f18 = some ⟨oc18, od18, .func (PySem.W.fnOf "_law_nodes" "_law_nodes" (defArgs s__law_nodes) (defBody s__law_nodes) (defScope s__law_nodes) .none kV18 dc18 pm18 an18 cd18 ct18), sl18⟩) (c18 : PySem.W.codeIn K cd18 "_law_nodes" = true) (k18 : PySem.W.keepIn K (.ref f18) = true)
    (a19 : PySem.W.nsIn K mainGlobals "_law_add" = some (some (.ref f19))) (l19 : K.lookup f19 = some ⟨oc19, od19, .func (PySem.W.fnOf "_law_add" "_law_add" (defArgs s__law_add) (defBody s__law_add) (defScope s__law_add) .none kV19 dc19 pm19 an19 cd19 ct19), sl19⟩) (c19 : PySem.W.codeIn K cd19 "_law_add" = true) (k19 : PySem.W.keepIn K (.ref f19) = true)
    (a20 : PySem.W.nsIn K mainGlobals "_law_plain" = some (some (.ref f20))) (l20 : K.lookup f20 = some ⟨oc20, od20, .func (PySem.W.fnOf "_law_plain" "_law_plain" (defArgs s__law_plain) (defBody s__law_plain) (defScope s__law_plain) .none kV20 dc20 pm20 an20 cd20 ct20), sl20⟩) (c20 : PySem.W.codeIn K cd20 "_law_plain" = true) (k20 : PySem.W.keepIn K (.ref f20) = true)
    (a21 : PySem.W.nsIn K mainGlobals "_law_summed" = some (some (.ref f21))) (l21 : K.lookup f21 = some ⟨oc21, od21, .func (PySem.W.fnOf "_law_summed" "_law_summed" (defArgs s__law_summed) (defBody s__law_summed) (defScope s__law_summed) .none kV21 dc21 pm21 an21 cd21 ct21), sl21⟩) (c21 : PySem.W.codeIn K cd21 "_law_summed" = true) (k21 : PySem.W.keepIn K (.ref f21) = true)
    (a22 : PySem.W.nsIn K mainGlobals "_law_scaled" = some (some (.ref f22))) (l22 : K.lookup f22 = some ⟨oc22, od22, .func (PySem.W.fnOf "_law_scaled" "_law_scaled" (defArgs s__law_scaled) (defBody s__law_scaled) (defScope s__law_scaled) .none kV22 dc22 pm22 an22 cd22 ct22), sl22⟩) (c22 : PySem.W.codeIn K cd22 "_law_scaled" = true) (k22 : PySem.W.keepIn K (.ref f22) = true)
    (a23 : PySem.W.nsIn K mainGlobals "_law_formed" = some (some (.ref f23))) (l23 : K.lookup f23 = some ⟨oc23, od23, .func (PySem.W.fnOf "_law_formed" "_law_formed" (defArgs s__law_formed) (defBody s__law_formed) (defScope s__law_formed) .none kV23 dc23 pm23 an23 cd23 ct23), sl23⟩) (c23 : PySem.W.codeIn K cd23 "_law_formed" = true) (k23 : PySem.W.keepIn K (.ref f23) = true)
    (a24 : PySem.W.nsIn K mainGlobals "_law_short" = some (some (.ref f24))) (l24 : K.lookup f24 = some ⟨oc24, od24, .func (PySem.W.fnOf "_law_short" "_law_short" (defArgs s__law_short) (defBody s__law_short) (defScope s__law_short) .none kV24 dc24 pm24 an24 cd24 ct24), sl24⟩) (c24 : PySem.W.codeIn K cd24 "_law_short" = true) (k24 : PySem.W.keepIn K (.ref f24) = true)
    (a25 : PySem.W.nsIn K mainGlobals "_law_added" = some (some (.ref f25))) (l25 : K.lookup f25 = some ⟨oc25, od25, .func (PySem.W.fnOf "_law_added" "_law_added" (defArgs s__law_added) (defBody s__law_added) (defScope s__law_added) .none kV25 dc25 pm25 an25 cd25 ct25), sl25⟩) (c25 : PySem.W.codeIn K cd25 "_law_added" = true) (k25 : PySem.W.keepIn K (.ref f25) = true)
    (a26 : PySem.W.nsIn K mainGlobals "_law_sum_added" = some (some (.ref f26))) (l26 : K.lookup f26 = some ⟨oc26, od26, .func (PySem.W.fnOf "_law_sum_added" "_law_sum_added" (defArgs s__law_sum_added) (defBody s__law_sum_added) (defScope s__law_sum_added) .none kV26 dc26 pm26 an26 cd26 ct26), sl26⟩) (c26 : PySem.W.codeIn K cd26 "_law_sum_added" = true) (k26 : PySem.W.keepIn K (.ref f26) = true)
    (a27 : PySem.W.nsIn K mainGlobals "_law_widest" = some (some (.ref f27))) (l27 : K.lookup f27 = some ⟨oc27, od27, .func (PySem.W.fnOf "_law_widest" "_law_widest" (defArgs s__law_widest) (defBody s__law_widest) (defScope s__law_widest) .none kV27 dc27 pm27 an27 cd27 ct27), sl27⟩) (c27 : PySem.W.codeIn K cd27 "_law_widest" = true) (k27 : PySem.W.keepIn K (.ref f27) = true)
    (a28 : PySem.W.nsIn K mainGlobals "_law_scaled_added" = some (some (.ref f28))) (l28 : K.lookup f28 = some ⟨oc28, od28, .func (PySem.W.fnOf "_law_scaled_added" "_law_scaled_added" (defArgs s__law_scaled_added) (defBody s__law_scaled_added) (defScope s__law_scaled_added) .none kV28 dc28 pm28 an28 cd28 ct28), sl28⟩) (c28 : PySem.W.codeIn K cd28 "_law_scaled_added" = true) (k28 : PySem.W.keepIn K (.ref f28) = true)
    (a29 : PySem.W.nsIn K mainGlobals "_law_done" = some (some (.ref f29))) (l29 : K.lookup f29 = some ⟨oc29, od29, .func (PySem.W.fnOf "_law_done" "_law_done" (defArgs s__law_done) (defBody s__law_done) (defScope s__law_done) .none kV29 dc29 pm29 an29 cd29 ct29), sl29⟩) (c29 : PySem.W.codeIn K cd29 "_law_done" = true) (k29 : PySem.W.keepIn K (.ref f29) = true)
    (a30 : PySem.W.nsIn K mainGlobals "_law_worth" = some (some (.ref f30))) (l30 : K.lookup f30 = some ⟨oc30, od30, .func (PySem.W.fnOf "_law_worth" "_law_worth" (defArgs s__law_worth) (defBody s__law_worth) (defScope s__law_worth) .none kV30 dc30 pm30 an30 cd30 ct30), sl30⟩) (c30 : PySem.W.codeIn K cd30 "_law_worth" = true) (k30 : PySem.W.keepIn K (.ref f30) = true)
    (a31 : PySem.W.nsIn K mainGlobals "_law_valued" = some (some (.ref f31))) (l31 : K.lookup f31 = some ⟨oc31, od31, .func (PySem.W.fnOf "_law_valued" "_law_valued" (defArgs s__law_valued) (defBody s__law_valued) (defScope s__law_valued) .none kV31 dc31 pm31 an31 cd31 ct31), sl31⟩) (c31 : PySem.W.codeIn K cd31 "_law_valued" = true) (k31 : PySem.W.keepIn K (.ref f31) = true)
    (a32 : PySem.W.nsIn K mainGlobals "_law_values" = some (some (.ref f32))) (l32 : K.lookup f32 = some ⟨oc32, od32, .func (PySem.W.fnOf "_law_values" "_law_values" (defArgs s__law_values) (defBody s__law_values) (defScope s__law_values) .none kV32 dc32 pm32 an32 cd32 ct32), sl32⟩) (c32 : PySem.W.codeIn K cd32 "_law_values" = true) (k32 : PySem.W.keepIn K (.ref f32) = true)
    (a33 : PySem.W.nsIn K mainGlobals "_law_apart" = some (some (.ref f33))) (l33 : K.lookup f33 = some ⟨oc33, od33, .func (PySem.W.fnOf "_law_apart" "_law_apart" (defArgs s__law_apart) (defBody s__law_apart) (defScope s__law_apart) .none kV33 dc33 pm33 an33 cd33 ct33), sl33⟩) (c33 : PySem.W.codeIn K cd33 "_law_apart" = true) (k33 : PySem.W.keepIn K (.ref f33) = true)
    (a34 : PySem.W.nsIn K mainGlobals "law" = some (some (.ref f34))) (l34 : K.lookup f34 = some ⟨oc34, od34, .func (PySem.W.fnOf "law" "law" (defArgs s_law) (defBody s_law) (defScope s_law) .none kV34 dc34 pm34 an34 cd34 ct34), sl34⟩) (c34 : PySem.W.codeIn K cd34 "law" = true) (k34 : PySem.W.keepIn K (.ref f34) = true)
    (lT : K.lookup T_ratio = some ⟨ocT, odT, .seq #[.int 1 tT] nT, slT⟩)
    (xg : PySem.W.nsIn K mainGlobals "gcd" = some (some (.builtin "math.gcd")))
    (z0 : PySem.W.nsIn K mainGlobals "len" = some none)
    (z1 : PySem.W.nsIn K mainGlobals "int" = some none)
    (z2 : PySem.W.nsIn K mainGlobals "isinstance" = some none)
    (z3 : PySem.W.nsIn K mainGlobals "bool" = some none)
    (z4 : PySem.W.nsIn K mainGlobals "list" = some none)
    (z5 : PySem.W.nsIn K mainGlobals "tuple" = some none)
    (z6 : PySem.W.nsIn K mainGlobals "str" = some none)
    (z7 : PySem.W.nsIn K mainGlobals "range" = some none)
    (z8 : PySem.W.nsIn K mainGlobals "abs" = some none)
    (z9 : PySem.W.nsIn K mainGlobals "sorted" = some none)
    (z10 : PySem.W.nsIn K mainGlobals "dict" = some none)
    (z11 : PySem.W.nsIn K mainGlobals "min" = some none)
    : ∃ fd : FuncData, (∀ (s : Shared) (v : Value), BindsTo s fd ⟨[v], []⟩ [("script", v)]) ∧ ∀ base : Heap, K.In base → base.Ns mainGlobals mg → FnOk l.prog w K mg base CX0 10 fa fd ["script"] (spLaw K) := by
  have e := hfa.symm.trans (PySem.W.mg_of X G a34)
  cases e
  have D_ratio : DfD K mg "ratio" s_ratio [.int 1] P_ratio := DfD.mk1 l0 c0 k0 lT ⟨_, rfl⟩ (PySem.W.mg_of X G a0) (fun _ _ _ _ _ _ _ _ _ => ⟨_, rfl, rfl⟩) (fun _ _ _ _ _ _ _ _ _ _ => ⟨_, rfl, rfl⟩)
  have D_plus : Df K mg "plus" s_plus P_plus := Df.mk' l1 c1 k1 (fun F => F.binds fun _ _ _ _ _ _ us hl => match us, hl with | [_, _], _ => rfl) (PySem.W.mg_of X G a1)
  have D_times : Df K mg "times" s_times P_times := Df.mk' l2 c2 k2 (fun F => F.binds fun _ _ _ _ _ _ us hl => match us, hl with | [_, _], _ => rfl) (PySem.W.mg_of X G a2)
  have D_constant_form : Df K mg "constant_form" s_constant_form P_constant_form := Df.mk' l3 c3 k3 (fun F => F.binds fun _ _ _ _ _ _ us hl => match us, hl with | [_], _ => rfl) (PySem.W.mg_of X G a3)
  have D_base_form : Df K mg "base_form" s_base_form P_base_form := Df.mk' l4 c4 k4 (fun F => F.binds fun _ _ _ _ _ _ us hl => match us, hl with | [_], _ => rfl) (PySem.W.mg_of X G a4)
  have D_form_plus : Df K mg "form_plus" s_form_plus P_form_plus := Df.mk' l5 c5 k5 (fun F => F.binds fun _ _ _ _ _ _ us hl => match us, hl with | [_, _], _ => rfl) (PySem.W.mg_of X G a5)
  have D_form_times : Df K mg "form_times" s_form_times P_form_times := Df.mk' l6 c6 k6 (fun F => F.binds fun _ _ _ _ _ _ us hl => match us, hl with | [_, _], _ => rfl) (PySem.W.mg_of X G a6)
  have D_form_value : Df K mg "form_value" s_form_value P_form_value := Df.mk' l7 c7 k7 (fun F => F.binds fun _ _ _ _ _ _ us hl => match us, hl with | [_, _], _ => rfl) (PySem.W.mg_of X G a7)
  have D__law_pool : Df K mg "_law_pool" s__law_pool P__law_pool := Df.mk' l8 c8 k8 (fun F => F.binds fun _ _ _ _ _ _ us hl => match us, hl with | [_, _], _ => rfl) (PySem.W.mg_of X G a8)
  have D__law_take : Df K mg "_law_take" s__law_take P__law_take := Df.mk' l9 c9 k9 (fun F => F.binds fun _ _ _ _ _ _ us hl => match us, hl with | [_, _], _ => rfl) (PySem.W.mg_of X G a9)
  have D__law_turn : Df K mg "_law_turn" s__law_turn P__law_turn := Df.mk' l10 c10 k10 (fun F => F.binds fun _ _ _ _ _ _ us hl => match us, hl with | [_, _, _], _ => rfl) (PySem.W.mg_of X G a10)
  have D__law_pick : Df K mg "_law_pick" s__law_pick P__law_pick := Df.mk' l11 c11 k11 (fun F => F.binds fun _ _ _ _ _ _ us hl => match us, hl with | [_, _], _ => rfl) (PySem.W.mg_of X G a11)
  have D__law_whole : Df K mg "_law_whole" s__law_whole P__law_whole := Df.mk' l12 c12 k12 (fun F => F.binds fun _ _ _ _ _ _ us hl => match us, hl with | [_], _ => rfl) (PySem.W.mg_of X G a12)
  have D__law_lowest : Df K mg "_law_lowest" s__law_lowest P__law_lowest := Df.mk' l13 c13 k13 (fun F => F.binds fun _ _ _ _ _ _ us hl => match us, hl with | [_, _], _ => rfl) (PySem.W.mg_of X G a13)
  have D__law_alike : Df K mg "_law_alike" s__law_alike P__law_alike := Df.mk' l14 c14 k14 (fun F => F.binds fun _ _ _ _ _ _ us hl => match us, hl with | [_, _], _ => rfl) (PySem.W.mg_of X G a14)
  have D__law_long : Df K mg "_law_long" s__law_long P__law_long := Df.mk' l15 c15 k15 (fun F => F.binds fun _ _ _ _ _ _ us hl => match us, hl with | [_, _], _ => rfl) (PySem.W.mg_of X G a15)
  have D__law_ratio : Df K mg "_law_ratio" s__law_ratio P__law_ratio := Df.mk' l16 c16 k16 (fun F => F.binds fun _ _ _ _ _ _ us hl => match us, hl with | [_, _], _ => rfl) (PySem.W.mg_of X G a16)
  have D__law_factor : Df K mg "_law_factor" s__law_factor P__law_factor := Df.mk' l17 c17 k17 (fun F => F.binds fun _ _ _ _ _ _ us hl => match us, hl with | [_, _], _ => rfl) (PySem.W.mg_of X G a17)
  have D__law_nodes : Df K mg "_law_nodes" s__law_nodes P__law_nodes := Df.mk' l18 c18 k18 (fun F => F.binds fun _ _ _ _ _ _ us hl => match us, hl with | [_], _ => rfl) (PySem.W.mg_of X G a18)
  have D__law_add : Df K mg "_law_add" s__law_add P__law_add := Df.mk' l19 c19 k19 (fun F => F.binds fun _ _ _ _ _ _ us hl => match us, hl with | [_, _], _ => rfl) (PySem.W.mg_of X G a19)
  have D__law_plain : Df K mg "_law_plain" s__law_plain P__law_plain := Df.mk' l20 c20 k20 (fun F => F.binds fun _ _ _ _ _ _ us hl => match us, hl with | [_, _], _ => rfl) (PySem.W.mg_of X G a20)
  have D__law_summed : Df K mg "_law_summed" s__law_summed P__law_summed := Df.mk' l21 c21 k21 (fun F => F.binds fun _ _ _ _ _ _ us hl => match us, hl with | [_, _], _ => rfl) (PySem.W.mg_of X G a21)
  have D__law_scaled : Df K mg "_law_scaled" s__law_scaled P__law_scaled := Df.mk' l22 c22 k22 (fun F => F.binds fun _ _ _ _ _ _ us hl => match us, hl with | [_, _], _ => rfl) (PySem.W.mg_of X G a22)
  have D__law_formed : Df K mg "_law_formed" s__law_formed P__law_formed := Df.mk' l23 c23 k23 (fun F => F.binds fun _ _ _ _ _ _ us hl => match us, hl with | [_], _ => rfl) (PySem.W.mg_of X G a23)
  have D__law_short : Df K mg "_law_short" s__law_short P__law_short := Df.mk' l24 c24 k24 (fun F => F.binds fun _ _ _ _ _ _ us hl => match us, hl with | [_], _ => rfl) (PySem.W.mg_of X G a24)
  have D__law_added : Df K mg "_law_added" s__law_added P__law_added := Df.mk' l25 c25 k25 (fun F => F.binds fun _ _ _ _ _ _ us hl => match us, hl with | [_, _, _], _ => rfl) (PySem.W.mg_of X G a25)
  have D__law_sum_added : Df K mg "_law_sum_added" s__law_sum_added P__law_sum_added := Df.mk' l26 c26 k26 (fun F => F.binds fun _ _ _ _ _ _ us hl => match us, hl with | [_, _, _], _ => rfl) (PySem.W.mg_of X G a26)
  have D__law_widest : Df K mg "_law_widest" s__law_widest P__law_widest := Df.mk' l27 c27 k27 (fun F => F.binds fun _ _ _ _ _ _ us hl => match us, hl with | [_, _], _ => rfl) (PySem.W.mg_of X G a27)
  have D__law_scaled_added : Df K mg "_law_scaled_added" s__law_scaled_added P__law_scaled_added := Df.mk' l28 c28 k28 (fun F => F.binds fun _ _ _ _ _ _ us hl => match us, hl with | [_, _, _], _ => rfl) (PySem.W.mg_of X G a28)
  have D__law_done : Df K mg "_law_done" s__law_done P__law_done := Df.mk' l29 c29 k29 (fun F => F.binds fun _ _ _ _ _ _ us hl => match us, hl with | [_, _, _, _], _ => rfl) (PySem.W.mg_of X G a29)
  have D__law_worth : Df K mg "_law_worth" s__law_worth P__law_worth := Df.mk' l30 c30 k30 (fun F => F.binds fun _ _ _ _ _ _ us hl => match us, hl with | [_, _], _ => rfl) (PySem.W.mg_of X G a30)
  have D__law_valued : Df K mg "_law_valued" s__law_valued P__law_valued := Df.mk' l31 c31 k31 (fun F => F.binds fun _ _ _ _ _ _ us hl => match us, hl with | [_, _], _ => rfl) (PySem.W.mg_of X G a31)
  have D__law_values : Df K mg "_law_values" s__law_values P__law_values := Df.mk' l32 c32 k32 (fun F => F.binds fun _ _ _ _ _ _ us hl => match us, hl with | [_, _, _], _ => rfl) (PySem.W.mg_of X G a32)
  have D__law_apart : Df K mg "_law_apart" s__law_apart P__law_apart := Df.mk' l33 c33 k33 (fun F => F.binds fun _ _ _ _ _ _ us hl => match us, hl with | [_, _, _, _], _ => rfl) (PySem.W.mg_of X G a33)
  have D_law : Df K mg "law" s_law P_law := Df.mk' l34 c34 k34 (fun F => F.binds fun _ _ _ _ _ _ us hl => match us, hl with | [_], _ => rfl) (PySem.W.mg_of X G a34)
  have b_len : mg "len" = none := PySem.W.mg_none_of X G z0
  have b_int : mg "int" = none := PySem.W.mg_none_of X G z1
  have b_isinstance : mg "isinstance" = none := PySem.W.mg_none_of X G z2
  have b_bool : mg "bool" = none := PySem.W.mg_none_of X G z3
  have b_list : mg "list" = none := PySem.W.mg_none_of X G z4
  have b_tuple : mg "tuple" = none := PySem.W.mg_none_of X G z5
  have b_str : mg "str" = none := PySem.W.mg_none_of X G z6
  have b_range : mg "range" = none := PySem.W.mg_none_of X G z7
  have b_abs : mg "abs" = none := PySem.W.mg_none_of X G z8
  have b_sorted : mg "sorted" = none := PySem.W.mg_none_of X G z9
  have b_dict : mg "dict" = none := PySem.W.mg_none_of X G z10
  have b_min : mg "min" = none := PySem.W.mg_none_of X G z11
  have m_gcd : mg "gcd" = some (.builtin "math.gcd") := PySem.W.mg_of X G xg
  refine ⟨PySem.W.fnOf "law" "law" (defArgs s_law) (defBody s_law) (defScope s_law) .none kV34 dc34 pm34 an34 cd34 ct34, fun s v => .of_eq rfl, fun base _ _ => ?_⟩
  have p__law_pool : Pr l.prog w K mg base "_law_pool" 1 P__law_pool (spPool K) := by apply ok_pool <;> assumption
  have p__law_take : Pr l.prog w K mg base "_law_take" 1 P__law_take (spTake K) := by apply ok_take <;> assumption
  have p__law_turn : Pr l.prog w K mg base "_law_turn" 2 P__law_turn (spTurn K) := by apply ok_turn <;> assumption
  have p__law_pick : Pr l.prog w K mg base "_law_pick" 2 P__law_pick (spPick K) := by apply ok_pick <;> assumption
  have p__law_whole : Pr l.prog w K mg base "_law_whole" 1 P__law_whole (spWhole K) := by apply ok_whole <;> assumption
  have p__law_alike : Pr l.prog w K mg base "_law_alike" 6 P__law_alike (spAlike 4) := by refine ok_alike ?_ ?_ ?_ ?_ ?_ ?_ ?_ ?_ ?_ ?_ 4 <;> assumption
  obtain ⟨p_ratio, p_ratio1⟩ := ok_ratio (P := l.prog) (w := w) (base := base) D_ratio m_gcd
  have p_plus : Pr l.prog w K mg base "plus" 2 P_plus (spTwo K (fun a b => a + b)) := by apply ok_plus <;> assumption
  have p_times : Pr l.prog w K mg base "times" 2 P_times (spTwo K (fun a b => a * b)) := by apply ok_times <;> assumption
  have p__law_lowest : Pr l.prog w K mg base "_law_lowest" 1 P__law_lowest (spLow K) := by apply ok_lowest <;> assumption
  have p_constant_form : Pr l.prog w K mg base "constant_form" 1 P_constant_form (spCon K) := by apply ok_con <;> assumption
  have p_base_form : Pr l.prog w K mg base "base_form" 1 P_base_form (spBas K) := by apply ok_bas <;> assumption
  have p_form_plus : Pr l.prog w K mg base "form_plus" 3 P_form_plus (spFPl K) := by apply ok_fpl <;> assumption
  have p_form_times : Pr l.prog w K mg base "form_times" 3 P_form_times (spFTi K) := by apply ok_fti <;> assumption
  have p__law_add : Pr l.prog w K mg base "_law_add" 2 P__law_add (spTwo K (fun a b => a + b)) := by apply ok_add <;> assumption
  have p__law_long : Pr l.prog w K mg base "_law_long" 2 P__law_long (spLong K) := by apply ok_long <;> assumption
  have p_form_value : Pr l.prog w K mg base "form_value" 3 P_form_value (spFVa K) := by apply ok_fva <;> assumption
  have p__law_plain : Pr l.prog w K mg base "_law_plain" 1 P__law_plain (spPlain K) := by apply ok_plain <;> assumption
  have p__law_summed : Pr l.prog w K mg base "_law_summed" 3 P__law_summed (spSum K) := by apply ok_summed <;> assumption
  have p__law_scaled : Pr l.prog w K mg base "_law_scaled" 2 P__law_scaled (spScd K) := by apply ok_scaled <;> assumption
  have p__law_formed : Pr l.prog w K mg base "_law_formed" 1 P__law_formed (spFrm K) := by apply ok_formed <;> assumption
  have p__law_short : Pr l.prog w K mg base "_law_short" 1 P__law_short (spSho K) := by apply ok_short <;> assumption
  have p__law_ratio : Pr l.prog w K mg base "_law_ratio" 3 P__law_ratio (spRtL K) := by apply ok_ratl <;> assumption
  have p__law_factor : Pr l.prog w K mg base "_law_factor" 4 P__law_factor (spFac K) := by apply ok_factor <;> assumption
  have p__law_nodes : Pr l.prog w K mg base "_law_nodes" 2 P__law_nodes (spNod K) := by apply ok_nodes <;> assumption
  have p__law_values : Pr l.prog w K mg base "_law_values" 4 P__law_values (spVls K) := by apply ok_values <;> assumption
  have p__law_added : Pr l.prog w K mg base "_law_added" 7 P__law_added (spAdd K) := by apply ok_added <;> assumption
  have p__law_sum_added : Pr l.prog w K mg base "_law_sum_added" 8 P__law_sum_added (spSAd K) := by apply ok_sadd <;> assumption
  have p__law_scaled_added : Pr l.prog w K mg base "_law_scaled_added" 8 P__law_scaled_added (spScA K) := by apply ok_scadd <;> assumption
  have p__law_widest : Pr l.prog w K mg base "_law_widest" 2 P__law_widest (spWid K) := by apply ok_widest <;> assumption
  have p__law_done : Pr l.prog w K mg base "_law_done" 9 P__law_done (spDon K) := by apply ok_done <;> assumption
  have p__law_worth : Pr l.prog w K mg base "_law_worth" 1 P__law_worth (spWor K) := by apply ok_worth <;> assumption
  have p__law_valued : Pr l.prog w K mg base "_law_valued" 4 P__law_valued (spVal K) := by apply ok_valued <;> assumption
  have p__law_apart : Pr l.prog w K mg base "_law_apart" 5 P__law_apart (spApa K) := by apply ok_apart <;> assumption
  have p_law : Pr l.prog w K mg base "law" 10 P_law (spLaw K) := by apply ok_law <;> assumption
  exact p_law.at (PySem.W.mg_of X G a34) l34
end Kf
open PySem PySem.W PyProof.Rows
set_option maxRecDepth 100000 in
set_option maxHeartbeats 0 in
theorem PySem.Challenge.cw_solvedpapers_k01_forms_by_roads_holds : PySem.Challenge.rw_solvedpapers_k01_forms_by_roads.Holds := by
  w_on; o_law; k_head; (case hw => w_witness2)
  k_fill
  refine L2.walk_of (l := PySem.Challenge.rw_solvedpapers_k01_forms_by_roads) (n := 63) (k := 10) (x := "script") (CX := fun _ => L2.CX0) (sp := fun w => Kf.spLaw _) rfl (by decide) rfl ⟨rfl, by decide, by decide⟩ (fun w h Y => PySem.W.kIn_of Y) ?F (fun _ _ a ns hl _ hS => ⟨a, ns, rfl, hS, hl, fun _ => rfl⟩) (fun _ _ _ _ _ h => h)
  case F =>
    intro w mg fa h KX G hmg
    refine' Kf.all_mk KX G hmg ?a0 ?l0 ?c0 ?k0 ?a1 ?l1 ?c1 ?k1 ?a2 ?l2 ?c2 ?k2 ?a3 ?l3 ?c3 ?k3 ?a4 ?l4 ?c4 ?k4 ?a5 ?l5 ?c5 ?k5 ?a6 ?l6 ?c6 ?k6 ?a7 ?l7 ?c7 ?k7 ?a8 ?l8 ?c8 ?k8 ?a9 ?l9 ?c9 ?k9 ?a10 ?l10 ?c10 ?k10 ?a11 ?l11 ?c11 ?k11 ?a12 ?l12 ?c12 ?k12 ?a13 ?l13 ?c13 ?k13 ?a14 ?l14 ?c14 ?k14 ?a15 ?l15 ?c15 ?k15 ?a16 ?l16 ?c16 ?k16 ?a17 ?l17 ?c17 ?k17 ?a18 ?l18 ?c18 ?k18 ?a19 ?l19 ?c19 ?k19 ?a20 ?l20 ?c20 ?k20 ?a21 ?l21 ?c21 ?k21 ?a22 ?l22 ?c22 ?k22 ?a23 ?l23 ?c23 ?k23 ?a24 ?l24 ?c24 ?k24 ?a25 ?l25 ?c25 ?k25 ?a26 ?l26 ?c26 ?k26 ?a27 ?l27 ?c27 ?k27 ?a28 ?l28 ?c28 ?k28 ?a29 ?l29 ?c29 ?k29 ?a30 ?l30 ?c30 ?k30 ?a31 ?l31 ?c31 ?k31 ?a32 ?l32 ?c32 ?k32 ?a33 ?l33 ?c33 ?k33 ?a34 ?l34 ?c34 ?k34 ?lT ?xg ?z0 ?z1 ?z2 ?z3 ?z4 ?z5 ?z6 ?z7 ?z8 ?z9 ?z10 ?z11
    case a0 => k_is
    case l0 => k_is
    case c0 => k_is
    case k0 => k_is
    case a1 => k_is
    case l1 => k_is
    case c1 => k_is
    case k1 => k_is
    case a2 => k_is
    case l2 => k_is
    case c2 => k_is
    case k2 => k_is
    case a3 => k_is
    case l3 => k_is
    case c3 => k_is
    case k3 => k_is
    case a4 => k_is
    case l4 => k_is
    case c4 => k_is
    case k4 => k_is
    case a5 => k_is
    case l5 => k_is
    case c5 => k_is
    case k5 => k_is
    case a6 => k_is
    case l6 => k_is
    case c6 => k_is
    case k6 => k_is
    case a7 => k_is
    case l7 => k_is
    case c7 => k_is
    case k7 => k_is
    case a8 => k_is
    case l8 => k_is
    case c8 => k_is
    case k8 => k_is
    case a9 => k_is
    case l9 => k_is
    case c9 => k_is
    case k9 => k_is
    case a10 => k_is
    case l10 => k_is
    case c10 => k_is
    case k10 => k_is
    case a11 => k_is
    case l11 => k_is
    case c11 => k_is
    case k11 => k_is
    case a12 => k_is
    case l12 => k_is
    case c12 => k_is
    case k12 => k_is
    case a13 => k_is
    case l13 => k_is
    case c13 => k_is
    case k13 => k_is
    case a14 => k_is
    case l14 => k_is
    case c14 => k_is
    case k14 => k_is
    case a15 => k_is
    case l15 => k_is
    case c15 => k_is
    case k15 => k_is
    case a16 => k_is
    case l16 => k_is
    case c16 => k_is
    case k16 => k_is
    case a17 => k_is
    case l17 => k_is
    case c17 => k_is
    case k17 => k_is
    case a18 => k_is
    case l18 => k_is
    case c18 => k_is
    case k18 => k_is
    case a19 => k_is
    case l19 => k_is
    case c19 => k_is
    case k19 => k_is
    case a20 => k_is
    case l20 => k_is
    case c20 => k_is
    case k20 => k_is
    case a21 => k_is
    case l21 => k_is
    case c21 => k_is
    case k21 => k_is
    case a22 => k_is
    case l22 => k_is
    case c22 => k_is
    case k22 => k_is
    case a23 => k_is
    case l23 => k_is
    case c23 => k_is
    case k23 => k_is
    case a24 => k_is
    case l24 => k_is
    case c24 => k_is
    case k24 => k_is
    case a25 => k_is
    case l25 => k_is
    case c25 => k_is
    case k25 => k_is
    case a26 => k_is
    case l26 => k_is
    case c26 => k_is
    case k26 => k_is
    case a27 => k_is
    case l27 => k_is
    case c27 => k_is
    case k27 => k_is
    case a28 => k_is
    case l28 => k_is
    case c28 => k_is
    case k28 => k_is
    case a29 => k_is
    case l29 => k_is
    case c29 => k_is
    case k29 => k_is
    case a30 => k_is
    case l30 => k_is
    case c30 => k_is
    case k30 => k_is
    case a31 => k_is
    case l31 => k_is
    case c31 => k_is
    case k31 => k_is
    case a32 => k_is
    case l32 => k_is
    case c32 => k_is
    case k32 => k_is
    case a33 => k_is
    case l33 => k_is
    case c33 => k_is
    case k33 => k_is
    case a34 => k_is
    case l34 => k_is
    case c34 => k_is
    case k34 => k_is
    case lT => k_is
    case xg => k_is
    case z0 => k_is
    case z1 => k_is
    case z2 => k_is
    case z3 => k_is
    case z4 => k_is
    case z5 => k_is
    case z6 => k_is
    case z7 => k_is
    case z8 => k_is
    case z9 => k_is
    case z10 => k_is
    case z11 => k_is
#print axioms PySem.Challenge.cw_solvedpapers_k01_forms_by_roads_holds


end