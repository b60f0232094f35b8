import PyProof.Rows.All
import Wide.All
import OpenK.AllK
import Wide.FinOn
import KE.KSortTup
import KE.KSortTupAny
import HandS.ForMost
import HandS.Conv
import HandS.Sort
import HandS.SortOrd
import HandS.SortRule
import KE.KxField
import PyProof.ReprRoads
import PyProof.StrBlock2
import HandS.Ends
import PySem.Challenge.RW_textorlist_k64_survey_page
import HandS.FStr
import HandS.FStrTup
set_option Elab.async false
set_option linter.all false
set_option maxRecDepth 100000
set_option maxHeartbeats 4000000
/-! sorted of a list of tuples of a text and an int -/
namespace SortSI
open PySem PySem.Spec PyProof.Rows L2
abbrev Ky := List (Int ⊕ List Nat)
abbrev ltK (a b : Ky) : Bool := (listOrd itemOrd).blt a b
def key (p : Str × Int) : Ky := [.inr p.1.cps.toList, .inl p.2]
theorem swo (k : Value → Ky) : SrtO.Swo fun v u => ltK (k v) (k u) := by
  refine ⟨fun x y h => ?_, fun x y z h1 h2 => ?_⟩
  · exact KeyOrd.klt_asymm (O := listOrd itemOrd) h
  · exact KeyOrd.kle_trans (O := listOrd itemOrd) h1 h2
def IsSI (h : Heap) (v : Value) (p : Str × Int) : Prop := ∃ a o t u n, v = .ref a ∧ h.get? a = some o ∧ o.cls = .type "tuple" ∧ o.data = .seq #[.str p.1 t, .int p.2 u] n
theorem IsSI.keeps {h h' : Heap} {v : Value} {p : Str × Int} (x : IsSI h v p) (k : ∀ b o, h.get? b = some o → o.cls = .type "tuple" → h'.get? b = some o) : IsSI h' v p := by
  obtain ⟨a, o, t, u, n, e, ho, hc, hd⟩ := x
  exact ⟨a, o, t, u, n, e, k _ _ ho hc, hc, hd⟩
section
variable {prog : Program} {w : World} {A : Around} {E : Value → Shared → Prop} {s : Shared}
theorem firsts {h : Heap} {k : Value → Str × Int} : ∀ {vs : List Value}, (∀ v ∈ vs, IsSI h v (k v)) → ∃ fs : List Value, PySem.W.KatTups h vs fs ∧ fs.length = vs.length ∧ ∀ f ∈ fs, ∃ x t, f = Value.str x t
  | [], _ => ⟨[], PySem.W.KatTups.nil, rfl, fun _ hm => absurd hm List.not_mem_nil⟩
  | v :: vs, hp => by
    obtain ⟨fs, h1, h2, h3⟩ := firsts (vs := vs) fun v' hm => hp v' (List.mem_cons_of_mem _ hm)
    obtain ⟨a, o, t, u, n, e, ho, hc, hd⟩ := hp v List.mem_cons_self
    have h1' : PySem.W.KatTups h (v :: vs) (.str (k v).1 t :: fs) := by
      rw [e] at hd ⊢
      exact PySem.W.KatTups.cons ho hc hd rfl h1
    refine ⟨.str (k v).1 t :: fs, h1', by rw [List.length_cons, List.length_cons, h2], fun f hm => ?_⟩
    rcases List.mem_cons.mp hm with rfl | hm
    · exact ⟨_, _, rfl⟩
    · exact h3 f hm
theorem cmp {vs : List Value} {k : Value → Str × Int} (hp : ∀ v ∈ vs, IsSI s.heap v (k v)) : SrtO.Cmp prog w A s (tuples' true) (fun p => p.1 ∈ vs) (SrtO.lt2 fun v u => ltK (key (k v)) (key (k u))) := by
  intro p q hm hm'
  have h1 := hp _ hm
  have h2 := hp _ hm'
  show wpAny (model prog w) A (keyLt' (tuples' true) p.1 q.1) (fun r s' => s' = s ∧ r = ltK (key (k p.1)) (key (k q.1))) (fun _ _ => False) s
  generalize k p.1 = x at h1 ⊢
  generalize k q.1 = y at h2 ⊢
  obtain ⟨x1, x2⟩ := x
  obtain ⟨y1, y2⟩ := y
  obtain ⟨a, o, t, u, n, e, ho, hc, hd⟩ := h1
  obtain ⟨a', o', t', u', n', e', ho', hc', hd'⟩ := h2
  rw [e, e']
  refine PySem.W.kat_lt ho hd ho' hd' ?_
  show PySem.W.KatLex prog w A true (decide (2 < 2)) _ [(.str x1 t, .str y1 t'), (.int x2 u, .int y2 u')] 0 s
  refine PySem.W.kat_cons (SeqAt.EqAt.str_str x1 t y1 t' prog w _ _ ?_)
  refine PySem.W.kat_go (fun e1 => ?_) (fun e1 => ?_)
  · have ex : x1 = y1 := by simpa using e1
    subst ex
    refine PySem.W.kat_yes (PySem.W.kat_cons (SeqAt.EqAt.int_int x2 u y2 u' prog w _ _ ?_))
    refine PySem.W.kat_go (fun e2 => ?_) (fun e2 => ?_)
    · have ey : x2 = y2 := by simpa using e2
      subst ey
      refine PySem.W.kat_yes (PySem.W.kat_nil ⟨rfl, ?_⟩)
      exact (lex_irrefl (O := itemOrd) _).symm
    · refine PySem.W.kat_no (PySem.W.kat_one _ _ (PyProof.Rows.lt_int ?_))
      refine (show s = s ∧ decide (x2 < y2) = _ from ⟨rfl, ?_⟩)
      show _ = lexLt itemOrd (_ :: _) (_ :: _)
      have hne : (Sum.inl x2 : Int ⊕ List Nat) ≠ Sum.inl y2 := fun z => by
        have z2 : x2 = y2 := Sum.inl.inj z
        rw [z2] at e2
        simp at e2
      rw [lex_self, lex_diff (O := itemOrd) hne]
      rfl
  · have ex : ¬ x1 = y1 := by simpa using e1
    refine PySem.W.kat_no (oneLt_str ⟨rfl, ?_⟩)
    show _ = lexLt itemOrd (_ :: _) (_ :: _)
    have hne : (Sum.inr x1.cps.toList : Int ⊕ List Nat) ≠ Sum.inr y1.cps.toList := fun z => ex (by
      have z2 := Sum.inr.inj z
      obtain ⟨c1⟩ := x1
      obtain ⟨c2⟩ := y1
      rw [show c1 = c2 from Array.toList_inj.mp z2])
    rw [lex_diff (O := itemOrd) hne]
    rfl
theorem sorted_si {l : Addr} {vs : List Value} {k : Value → Str × Int} {Q : Value → Shared → Prop} (hl : s.heap.IsList l vs.toArray) (hz : vs.length ≤ sizeLine) (hp : ∀ v ∈ vs, IsSI s.heap v (k v))
    (h : ∀ (h' : Heap) (d : Addr) (out : List Value), SrtO.Srtd (fun v u => ltK (key (k v)) (key (k u))) out → SrtO.Stb (fun v u => ltK (key (k v)) (key (k u))) out vs → (∀ b o, s.heap.get? b = some o → h'.get? b = some o) → s.heap.objs.size ≤ d → (∃ n, h'.get? d = some (seqObj "list" out.toArray n)) → Q (.ref d) { s with heap := h' }) :
    wpAny (model prog w) A (call (.builtin "sorted") [.ref l]) Q E s := by
  refine SrtO.sorted_ord (swo fun v => key (k v)) hl hz (fun h2 h₁ a ha kk => ?_) fun out hs hb => ?_
  · intro h' keep
    have hp' : ∀ v ∈ vs, IsSI h' v (k v) := fun v hm => ((hp v hm).keeps fun b o e _ => (kk b o e).2).keeps fun b o e c => keep b o (fun z => by
      rw [z, ha] at e
      cases e
      exact absurd (Value.type.inj c) (by decide)) e
    obtain ⟨fs, h1, h2', h3⟩ := firsts hp'
    refine ⟨tuples' true, fun Q E hq => ?_, cmp hp'⟩
    refine PySem.W.kat_kind (T := .type "str") h1 (by omega) (fun f hm => ?_) (by rfl) ?_
    · obtain ⟨x, t, rfl⟩ := h3 f hm
      exact PySem.W.Looks.now
    · exact hq
  · exact h _ _ out hs hb (fun b o e => sortedAll_old e) (Nat.le_succ _) (sortedAll_at s.heap vs out.toArray)
end
end SortSI
namespace L2
open PySem PySem.Spec PyProof.Rows
def rSortedSI (K : PySem.W.Frag) : List V → Hp → VK → Prop := fun vs H Q => ∃ (a : Addr) (bs : List Addr) (k : Addr → Str × Int), vs = [V.ref a] ∧ SqL K H a (bs.map V.ref) ∧ (∀ b ∈ bs, H b = some (.tup [.str (k b).1, .int (k b).2])) ∧
  ∀ (bs' : List Addr) (p : Addr), bs'.Perm bs → bs'.Pairwise (fun b c => SortSI.ltK (SortSI.key (k c)) (SortSI.key (k b)) = false) → H p = none → Q (.ref p) (upd H p (.lst (bs'.map V.ref)))
def adrOf : Value → Addr
  | .ref a => a
  | _ => 0
theorem refs_of : ∀ {bs : List Addr} {us : List Value}, Vals (bs.map V.ref) us → us = bs.map Value.ref
  | [], _, h => by
    cases h
    rfl
  | b :: r, _, h => by
    cases h with
    | cons h1 h2 =>
      rw [show _ = Value.ref b from h1, refs_of h2]
      rfl
theorem vals_of_refs : ∀ bs : List Addr, Vals (bs.map V.ref) (bs.map Value.ref)
  | [] => .nil
  | b :: r => .cons rfl (vals_of_refs r)
theorem refs_back_of {bs : List Addr} {out : List Value} (h : ∀ v ∈ out, ∃ a, v = Value.ref a) : out = (out.map adrOf).map Value.ref := by
  rw [List.map_map]
  conv => lhs; rw [← List.map_id out]
  refine List.map_congr_left fun v hv => ?_
  obtain ⟨a, rfl⟩ := h v hv
  rfl
section
variable {X : Cx}
theorem cr_sortedSI : CallR X (.builtin "sorted") (rSortedSI X.K) := by
  intro pins s σ H vs us Q I r h
  obtain ⟨a, bs, k, rfl, hs, hx, q⟩ := h
  obtain ⟨its, rv, hl, hz⟩ := I.list hs
  obtain ⟨u, rfl, ru⟩ := vals1 r
  obtain rfl : u = Value.ref a := ru
  obtain rfl := refs_of rv
  rw [List.length_map] at hz
  refine SortSI.sorted_si (k := fun u => k (adrOf u)) hl.isList (by rw [List.length_map]; exact hz) (fun v hv => ?_) fun h' d out h1 h2 kp hd hn => ?_
  · obtain ⟨b, hb, rfl⟩ := List.mem_map.mp hv
    obtain ⟨_, its2, r2, o, ho, hc, n, hd⟩ := I.hok _ _ (hx b hb)
    obtain ⟨u1, u2, rfl, ri, rj⟩ := vals2 r2
    obtain ⟨t1, rfl⟩ := ri
    obtain ⟨t2, rfl⟩ := rj
    exact ⟨b, o, t1, t2, n, rfl, ho, hc, hd⟩
  · have h3 : ∀ u ∈ out, ∃ a, u = Value.ref a := fun u hu => by
      obtain ⟨b, _, rfl⟩ := List.mem_map.mp (h2.perm.mem_iff.mp hu)
      exact ⟨b, rfl⟩
    have e3 := refs_back_of (bs := bs) h3
    generalize hcs : out.map adrOf = cs at e3
    subst e3
    have hp : cs.Perm bs := by
      have z := h2.perm.map adrOf
      rw [List.map_map, List.map_map] at z
      have i1 : ∀ l : List Addr, l.map (adrOf ∘ Value.ref) = l := fun l => by
        conv => rhs; rw [← List.map_id l]
        rfl
      rw [i1, i1] at z
      exact z
    have hpw : cs.Pairwise (fun b c => SortSI.ltK (SortSI.key (k c)) (SortSI.key (k b)) = false) := List.pairwise_map.mp h1
    obtain ⟨n, hn⟩ := hn
    refine ⟨.ref d, upd H d (.lst (cs.map V.ref)), I.laid (t' := s.toks) kp hd ⟨?_, _, n, vals_of_refs cs, hn⟩, rfl, q cs d hp hpw (I.hok.fresh hd)⟩
    rw [List.length_map, hp.length_eq]
    exact hz
end
end L2

/-! promises of defs that are kept where nothing is being shown (no repr under way) -/
namespace L2
open PySem PySem.Spec PyProof.Rows
/-- as FnOk, for calls that stand within no repr -/
structure FnOkG (P : Program) (w : World) (K : PySem.W.Frag) (mg : Str → Option Value) (base : Heap) (k : Nat) (f : Addr) (fd : FuncData) (ps : List Str) (sp : Sp) : Prop where
  len : ∀ vs H Q E, sp vs H Q E → vs.length = ps.length
  run : ∀ (A : Around) (outer : List Env) (s : Shared) (H : Hp) (args : Args) (us : List Value) (vs : List V) (Q : VK) (E : XK), A.guards = some [] → Room k A → Env0 P w K mg base A outer s H → BindsTo s fd args (ps.zip us) → Vals vs us → sp vs H Q E →
    codeAny (model P w) A (.call (.ref f) args) (CR CX0 outer P w H s Q E) s
section
variable {P : Program} {w : World} {K : PySem.W.Frag} {mg : Str → Option Value} {base : Heap}
theorem Fun.okG {x qual : Str} {st : Stmt} {f : Addr} {fd : FuncData} {N ps : List Str} {k : Nat} {sp : Sp} (F : Fun K x qual st f fd) (S : FnScope N ps (defScope st)) (len : ∀ vs H Q E, sp vs H Q E → vs.length = ps.length)
    (hbody : ∀ (cdv : Value) (A : Around) (outer : List Env) (s : Shared) (H : Hp) (vs : List V) (Q : VK) (E : XK), A.guards = some [] → Room k (A.deeper (envOfC qual (defScope st) s.heap.objs.size f cdv)) → sp vs H Q E →
      ∃ t, PSs (cxOf CX0 P w K mg base N qual (defScope st) f cdv A outer s H E).nox (defBody st) t ∧ t { nx := fun _ H' => Q .non H', rt := Q } (start N vs) H) : FnOkG P w K mg base (k + 1) f fd ps sp := by
  obtain ⟨oc, od, kV, doc, pm, an, cdv, ct, osl, rfl, lk, hcd⟩ := F.ex
  refine ⟨len, fun A outer s H args us vs Q E hgd hr e0 hb rv hsp => ?_⟩
  have hin : K.In s.heap := e0.mod.kin.keeps fun b o e => (e0.bs b o e).1
  have hnl : s.heap.NoLimit := e0.mod.nolimit.keeps fun b o e => (e0.bs b o e).1
  have kinds : ∀ y ∈ ps.zip us, (defScope st).names.lookup y.1 = some .local ∨ ((defScope st).names.lookup y.1 = some .cell ∧ ((cellsFrom (s.heap.objs.size + 1) (defScope st).names []).lookup y.1).isSome = true) := by
    intro y hy
    rcases S.par y.1 (List.of_mem_zip (show (y.1, y.2) ∈ ps.zip us from hy)).1 with z | z
    · exact .inl z
    · exact .inr ⟨z, PySem.W.cellsFrom_some _ _ _ (.inl z)⟩
  refine codeAny_call_function hr.depth (hin _ _ lk) rfl S.co S.gen rfl (PySem.W.codeRec_of hin hcd) (hb _ _ _ _ (wpAny_newFunctionEnv_cells S.kind kinds fun env he s1 xc => ?_))
  subst he
  obtain ⟨t, ht, hq⟩ := hbody cdv A outer s H vs Q E hgd (hr.deeper _) hsp
  refine ⟨hnl.keeps xc.toInCall.keep, codeAny_func (wpAny_mono (ht.nox.run [] s1 (start N vs) H _ (inv_start S hr.hd e0 (len _ _ _ _ hsp) rv xc) hq) (fun fl s' hs => ?_) fun e s' hs => hs)⟩
  cases fl with
  | ret u =>
    obtain ⟨v, σ', H', J, r', q⟩ := hs
    exact ⟨v, H', J.os, J.bare, J.base, J.hok, r', q⟩
  | next =>
    obtain ⟨σ', H', J, q⟩ := hs
    exact ⟨V.non, H', J.os, J.bare, J.base, J.hok, rfl, q⟩
  | brk => exact False.elim hs.choose_spec.choose_spec.2
  | cont => exact False.elim hs.choose_spec.choose_spec.2
end
section
variable {X : Cx} {k : Nat} {f : Addr} {fd : FuncData} {ps : List Str} {sp : Sp} {x : Str} {p pos : Pos} {e : Expr} {es : List Expr} {t : TA}
theorem pe_callG (F : FnOkG X.prog X.w X.K X.mg X.base k f fd ps sp) (hgd : X.A.guards = some []) (hr : Room k X.A) (hg : Gl X x) (hm : X.mg x = some (.ref f)) (hk : PySem.W.keepIn X.K (.ref f) = true) (hb : Binds X.K fd ps [])
    (ha : PA X (e :: es) t) (hdb : (x == ("__debug__" : Str)) = false := by decide) (he : starEach (e :: es) X.env = (false, eval e X.env) :: starEach es X.env := by rfl) (hpl : (backTo pos (starEach es X.env)).any (·.1) = false := by rfl) :
    PE X (.Call (.Name x p) (e :: es) [] pos) (tCall sp [] E0 t) := by
  refine ⟨fun pins s σ H Q I h => wpAny_Call_Name_kw (ld_glob I hg hm ?_ hdb)⟩
  refine PySem.W.callWith_K (h₀ := X.base) I.ok.mod.kin hk (thn (ha.run pos pins s σ H _ I h) fun us s1 z => ?_) he hpl
  obtain ⟨vs, H1, I1, rv, q⟩ := z
  rw [List.append_nil] at q
  have hl : (us ++ ([] : List Value)).length = ps.length := by
    rw [List.append_nil, ← rv.length]
    exact F.len _ _ _ _ q
  refine ⟨I1.kIn, wpAny_call (codeAny_mono (F.run X.A X.stack s1 H1 ⟨us, []⟩ us vs Q E0 hgd hr I1.env0 (by
    have z := hb s1 us I1.kIn hl
    rw [List.append_nil] at z
    exact z) rv q) fun r s' hq => ?_)⟩
  match r, hq with
  | .ok (.ret u), hq => exact I1.after hq
  | .ok .next, hq => exact False.elim hq
  | .ok .brk, hq => exact False.elim hq
  | .ok .cont, hq => exact False.elim hq
  | .error e, hq => exact False.elim hq
end
end L2

/-! fields of f-strings with a width; repr of data; a text times a number -/
namespace Fld
open PySem PySem.Spec PyProof.Rows PySem.W
/-- a number's signs, to the right in three columns -/
def right3 (i : Int) : Str := ⟨(List.replicate (3 - (Nat.toDigits 10 i.natAbs).length) 32 ++ (Nat.toDigits 10 i.natAbs).map Char.toNat).toArray⟩
/-- a text to the left in eight columns -/
def left8 (x : Str) : Str := Builtin.Str.padded x 0 (8 - x.length) 32
theorem chr_map (l : List Char) : (l.map fun c => (if (100 : Nat) == 88 then c.toUpper else c).toNat) = l.map Char.toNat := List.map_congr_left fun c _ => rfl
theorem int3 {a : Int} (h0 : 0 ≤ a) : PyProof.Rows.intField' { align := 62, width := some 3 } (decide (a < 0)) [] ((Nat.toDigits 10 a.natAbs).map Char.toNat) [] 3 = right3 a := by
  have hn : decide (a < 0) = false := decide_eq_false (by omega)
  rw [hn]
  unfold PyProof.Rows.intField' right3
  have hd : ((Nat.toDigits 10 a.natAbs).map Char.toNat).isEmpty = false := by
    have := PyProof.Rows.tDigits_len_ge 10 a.natAbs
    cases h : Nat.toDigits 10 a.natAbs with
    | nil => rw [h] at this; simp at this
    | cons _ _ => rfl
  rw [hd]
  simp [List.length_map]
theorem field3 {prog : Program} {w : World} {A : Around} {E : Value → Shared → Prop} {s : Shared} {a : Int} {t : Tok} {Q : Value → Shared → Prop} (h0 : 0 ≤ a) (hs : a.natAbs.log2 < 1920) (hz : (right3 a).length ≤ sizeLine)
    (h : ∀ t' k, Q (.str (right3 a) t') { s with toks := k }) : wpAny (model prog w) A (formatField (.int a t) (Str.ofString ">3")) Q E s := by
  refine KXf.field_int (y := right3 a) rfl (by decide +kernel) (by decide +kernel) (fun u => ?_) h
  apply KPc.meets_of
  intro prog w A s Q E hq
  unfold Builtin.«int.__format__»
  refine wpAny_bind (wpAny_of_eq (a := (_, _)) rfl ?_)
  refine wpAny_bind (wpAny_of_eq (a := _) rfl ?_)
  kxf_if
  refine wpAny_bind (wpAny_typeNameOf (T := "str") (typeIs_str _ _ _) (by decide) fun _ => ?_)
  refine wpAny_bind (wpAny_of_eq (a := some _) rfl ?_)
  kxf_if
  kxf_if
  refine wpAny_bind (wpAny_typeNameOfCut_int ?_)
  (repeat kxf_if)
  refine wpAny_bind (wpAny_of_eq (PySem.overDigitLimit_small hs) ?_)
  (repeat kxf_if)
  have e : ∀ b, b = PyProof.Rows.intField' { align := 62, width := some 3 } (decide (a < 0)) [] ((Nat.toDigits 10 a.natAbs).map Char.toNat) [] 3 → b = right3 a := fun b hb => hb.trans (int3 h0)
  exact KXf.ret_text (e _ rfl) (Nat.le_trans (Nat.le_of_eq (congrArg Str.length (e _ rfl))) hz) hq
theorem field8 {prog : Program} {w : World} {A : Around} {E : Value → Shared → Prop} {s : Shared} {x : Str} {t : Tok} {Q : Value → Shared → Prop} (hx : x.length < 8) (hz : (left8 x).length ≤ sizeLine)
    (h : ∀ t' k, Q (.str (left8 x) t') { s with toks := k }) : wpAny (model prog w) A (formatField (.str x t) (Str.ofString "<8")) Q E s := by
  refine KXf.field_str (y := left8 x) rfl rfl (by decide +kernel) (by decide +kernel) (fun u => ?_) h
  apply KPc.meets_of
  intro prog w A s Q E hq
  unfold Builtin.«str.__format__»
  refine wpAny_bind (wpAny_of_eq (a := (_, _, _)) rfl ?_)
  refine wpAny_bind (wpAny_of_eq (a := some _) rfl ?_)
  kxf_if
  kxf_if
  refine wpAny_bind (KXf.cut_str ?_)
  have e : Builtin.Str.strField x { align := 60, width := some 8 } "str" = .ok (some (left8 x)) := by
    unfold Builtin.Str.strField
    have h1 : ((some 8 : Option Nat).all fun n => decide (n ≤ x.length)) = false := by
      show decide (8 ≤ x.length) = false
      exact decide_eq_false (by omega)
    simp [h1, StrLaws.sub_whole x, left8]
    rfl
  show wpAny (model prog w) A (match (Bind.bind (Builtin.Str.strField x { align := 60, width := some 8 } "str") fun v => Except.ok (some v)) with
    | Except.error msg => _
    | Except.ok none => _
    | Except.ok (some none) => _
    | Except.ok (some (some text)) => retStr text) Q E s
  rw [e]
  exact KXf.ret_text rfl hz hq
end Fld
namespace L2
open PySem PySem.Spec PyProof.Rows
section
variable {X : Cx}
/-- {e:>3}, e a number that is not negative -/
def tFmt3 (te : TE) : TE := fun σ H Q => te σ H fun x H1 => ∃ i : Int, x = .int i ∧ 0 ≤ i ∧ i < 1000000 ∧ Q (.str (Fld.right3 i)) H1
theorem right3_len {i : Int} (h0 : 0 ≤ i) (h1 : i < 1000000) : (Fld.right3 i).length ≤ 9 := by
  have hlt : i.natAbs < 10 ^ 6 := by omega
  have e := (Nat.length_repr_le_iff (n := i.natAbs) (by decide : 0 < 6)).mpr hlt
  rw [← String.length_toList, Nat.toList_repr] at e
  show ((List.replicate (3 - (Nat.toDigits 10 i.natAbs).length) 32 ++ (Nat.toDigits 10 i.natAbs).map Char.toNat).toArray).size ≤ 9
  simp
  omega
theorem spec_lit {w x : Str} {u : Tok} {k : Nat} : x = w → True := fun _ => trivial
theorem pe_fmt3 {e : Expr} {te : TE} {pos p1 : Pos} {j : Nat} {c : Pos} (he : PE X e te) : PE X (.FormattedValue e (-1) (some (.JoinedStr [.Constant (.str (Str.ofString ">3")) j c] p1)) pos) (tFmt3 te) := by
  refine ⟨fun pins s σ H Q I h => ?_⟩
  refine wpAny_FormattedValue_spec (thn (he.run pins s σ H _ I h) fun v s1 hv => ?_)
  obtain ⟨x, H1, I1, r1, i, rfl, h0, h1, q⟩ := hv
  obtain ⟨t, rfl⟩ := r1
  have hp : PE X (.Constant (.str (Str.ofString ">3")) j c) (tC (.str (Str.ofString ">3"))) := pe_str
  refine wpAny_JoinedStr_one (thn (hp.run pins s1 σ H1 (fun y H2 => y = .str (Str.ofString ">3") ∧ H2 = H1) I1 ⟨rfl, rfl⟩) fun r s2 hr => ?_)
  obtain ⟨y, H2, I2, r2, rfl, rfl⟩ := hr
  obtain ⟨t2, rfl⟩ := r2
  refine ⟨_, t2, rfl, Fld.field3 h0 ?_ (Nat.le_trans (right3_len h0 h1) (by decide)) fun t' k => ⟨.str (Fld.right3 i), H2, I2.tok _, ⟨_, rfl⟩, q⟩⟩
  by_cases z : i.natAbs = 0
  · rw [z]
    decide +kernel
  · rw [Nat.log2_lt z]
    refine Nat.lt_of_lt_of_le (show i.natAbs < 2 ^ 20 by omega) (Nat.pow_le_pow_right (by decide) (by decide))
/-- {e:<8}, e a text of less than eight signs -/
def tFmt8 (te : TE) : TE := fun σ H Q => te σ H fun x H1 => ∃ y : Str, x = .str y ∧ y.length < 8 ∧ (Fld.left8 y).length ≤ 100 ∧ Q (.str (Fld.left8 y)) H1
theorem pe_fmt8 {e : Expr} {te : TE} {pos p1 : Pos} {j : Nat} {c : Pos} (he : PE X e te) : PE X (.FormattedValue e (-1) (some (.JoinedStr [.Constant (.str (Str.ofString "<8")) j c] p1)) pos) (tFmt8 te) := by
  refine ⟨fun pins s σ H Q I h => ?_⟩
  refine wpAny_FormattedValue_spec (thn (he.run pins s σ H _ I h) fun v s1 hv => ?_)
  obtain ⟨x, H1, I1, r1, y, rfl, h0, h1, q⟩ := hv
  obtain ⟨t, rfl⟩ := r1
  have hp : PE X (.Constant (.str (Str.ofString "<8")) j c) (tC (.str (Str.ofString "<8"))) := pe_str
  refine wpAny_JoinedStr_one (thn (hp.run pins s1 σ H1 (fun y H2 => y = .str (Str.ofString "<8") ∧ H2 = H1) I1 ⟨rfl, rfl⟩) fun r s2 hr => ?_)
  obtain ⟨z, H2, I2, r2, rfl, rfl⟩ := hr
  obtain ⟨t2, rfl⟩ := r2
  exact ⟨_, t2, rfl, Fld.field8 h0 (Nat.le_trans h1 (by decide)) fun t' k => ⟨.str (Fld.left8 y), H2, I2.tok _, ⟨_, rfl⟩, q⟩⟩
/-- a text times a number -/
theorem op_mul_str : OpR X (binaryOp .Mult) (fun x y H Q => ∃ (z : Str) (n : Int), x = .str z ∧ y = .int n ∧ z.length ≤ 1000 ∧ -1000 ≤ n ∧ n ≤ 1000 ∧ Q (.str (Txt.mul z n)) H) := by
  intro pins s σ H x y v u Q I rx ry h
  obtain ⟨z, n, rfl, rfl, hz, h0, h1, q⟩ := h
  obtain ⟨t, rfl⟩ := rx
  obtain ⟨t2, rfl⟩ := ry
  refine SB.mul ⟨?_, fun hn _ => ?_, fun hn _ => ?_⟩ fun t' k => ⟨.str (Txt.mul z n), H, I.tok _, ⟨_, rfl⟩, q⟩
  · rw [decide_eq_false (by omega), decide_eq_false (by omega)]
    rfl
  · have z1 : (z.length : Int) * n ≤ 1000 * 1000 := by
      refine Int.le_trans (Int.mul_le_mul_of_nonneg_right (show (z.length : Int) ≤ 1000 by omega) (by omega)) (Int.mul_le_mul_of_nonneg_left h1 (by decide))
    have z2 : (z.length : Int) ≤ (2 ^ 63 - 1) / n := Int.le_ediv_of_mul_le (by omega) (Int.le_trans z1 (by decide))
    omega
  · have z1 : z.length * n.toNat ≤ 1000 * 1000 := Nat.mul_le_mul hz (by omega)
    show decide (z.length * n.toNat > sizeLine) = false
    refine decide_eq_false ?_
    have : sizeLine = 16777216 := sizeLine_eq
    omega
end
end L2

namespace L2
open PySem PySem.Spec PyProof.Rows
/-! ### values: nothing, texts, lists of values, at places behind the interpreter's own -/
mutual
inductive Vd (G : Hp) : V → PyData → Prop
  | non : Vd G .non .none
  | str (x : Str) : Vd G (.str x) (.str x)
  | lst {a : Addr} {vs : List V} {ds : List PyData} : G a = some (.lst vs) → VdAll G vs ds → Vd G (.ref a) (.list ds)
inductive VdAll (G : Hp) : List V → List PyData → Prop
  | nil : VdAll G [] []
  | cons {v : V} {vs : List V} {d : PyData} {ds : List PyData} : Vd G v d → VdAll G vs ds → VdAll G (v :: vs) (d :: ds)
end
mutual
theorem Vd.mono {G G' : Hp} (s : Same G G') : ∀ {v : V} {d : PyData}, Vd G v d → Vd G' v d
  | _, _, .non => .non
  | _, _, .str x => .str x
  | _, _, .lst h a => .lst (s _ _ h) (VdAll.mono s a)
theorem VdAll.mono {G G' : Hp} (s : Same G G') : ∀ {vs : List V} {ds : List PyData}, VdAll G vs ds → VdAll G' vs ds
  | _, _, .nil => .nil
  | _, _, .cons h a => .cons (Vd.mono s h) (VdAll.mono s a)
end
theorem VdAll.snoc {G : Hp} {v : V} {d : PyData} (h : Vd G v d) : ∀ {vs : List V} {ds : List PyData}, VdAll G vs ds → VdAll G (vs ++ [v]) (ds ++ [d])
  | _, _, .nil => .cons h .nil
  | _, _, .cons h1 a => .cons h1 (VdAll.snoc h a)
/-- all that stands in G stands behind sys.modules -/
def Big (G : Hp) : Prop := ∀ b o, G b = some o → sysModules < b
section
variable {X : Cx} {pins : List (Addr × Obj)} {σ : L2.St} {H G : Hp} {s : Shared}
mutual
theorem Vd.reads (I : Inv X pins σ H s) (sm : Same G H) (bg : Big G) : ∀ (d : PyData) (v : V) (u : Value), Vd G v d → RelV v u → ∃ as, Reads s.heap u d as ∧ sysModules ∉ as
  | _, _, _, .non, r => by
    cases r
    exact ⟨_, Reads.none, List.not_mem_nil⟩
  | _, _, _, .str x, r => by
    obtain ⟨t, rfl⟩ := r
    exact ⟨_, Reads.str x t, List.not_mem_nil⟩
  | _, _, _, @Vd.lst _ a vs ds h al, r => by
    cases r
    obtain ⟨_, its, n, rv, e⟩ := I.hok _ _ (sm _ _ h)
    obtain ⟨as, hr, hn⟩ := VdAll.reads I sm bg ds _ its al rv
    refine ⟨_, Reads.list e rfl rfl hr, fun hm => ?_⟩
    rcases List.mem_cons.mp hm with z | z
    · have := bg _ _ h
      rw [z] at this
      exact Nat.lt_irrefl _ this
    · exact hn z
theorem VdAll.reads (I : Inv X pins σ H s) (sm : Same G H) (bg : Big G) : ∀ (ds : List PyData) (vs : List V) (us : List Value), VdAll G vs ds → Vals vs us → ∃ as, ReadsAll s.heap us ds as ∧ sysModules ∉ as
  | _, _, _, .nil, r => by
    cases r
    exact ⟨_, .nil, List.not_mem_nil⟩
  | _, _, _, .cons h al, r => by
    cases r with
    | cons r1 r2 =>
      obtain ⟨as, h1, n1⟩ := Vd.reads I sm bg _ _ _ h r1
      obtain ⟨bs, h2, n2⟩ := VdAll.reads I sm bg _ _ _ al r2
      exact ⟨_, .cons h1 h2, fun hm => (List.mem_append.mp hm).elim n1 n2⟩
end
end
section
variable {X : Cx}
/-- a new list, of whose place one more thing is told -/
def tLstB (t : TA) : TE := fun σ H Q => t σ H fun xs H1 => xs.length ≤ sizeLine ∧ ∀ p, H1 p = none → sysModules < p → Q (.ref p) (upd H1 p (.lst xs))
theorem pe_lstB {es : List Expr} {t : TA} {pos : Pos} (h : PA X es t) : PE X (.List es pos) (tLstB t) := by
  refine ⟨fun pins s σ H Q I hq => wpAny_List_spliced (thn (h.run pos pins s σ H _ I hq) fun us s1 z => ?_)⟩
  obtain ⟨xs, H1, I1, r, hz, q⟩ := z
  refine ⟨by rw [← r.length]; exact hz, .ref s1.heap.objs.size, upd H1 s1.heap.objs.size (.lst xs), ?_, rfl, q _ (I1.hok.fresh (Nat.le_refl _)) I1.big⟩
  exact I1.laid (t' := s1.toks) (fun b u e => Heap.get?_push_of_some _ e) (Nat.le_refl _) ⟨hz, us, 0, r, Heap.get?_push_size _ rfl⟩
/-- repr of a value, where nothing is being shown -/
def rReprV : List V → Hp → VK → Prop := fun vs H Q => ∃ v d G, vs = [v] ∧ Vd G v d ∧ Same G H ∧ Big G ∧ d.showable = true ∧ d.depth ≤ 30 ∧ d.shown.length ≤ sizeLine ∧ Q (.str d.shown) H
/-- .. of a dict of such values whose keys are tuples of a text and an int -/
def rReprD : List V → Hp → VK → Prop := fun vs H Q => ∃ (a : Addr) (kvs : List (List Key × V)) (ks : List (Str × Int)) (ds : List PyData) (G : Hp), vs = [.ref a] ∧ Rd H a (.dT kvs) ∧ kvs.map (·.1) = ks.map (fun k => [Sum.inr k.1, Sum.inl k.2]) ∧ VdAll G (kvs.map (·.2)) ds ∧ Same G H ∧ Big G ∧
  (PyData.dict ((ks.map fun k => PyData.tuple [.str k.1, .int k.2]).zip ds)).showable = true ∧ (PyData.dict ((ks.map fun k => PyData.tuple [.str k.1, .int k.2]).zip ds)).depth ≤ 30 ∧ (PyData.dict ((ks.map fun k => PyData.tuple [.str k.1, .int k.2]).zip ds)).shown.length ≤ sizeLine ∧
  Q (.str (PyData.dict ((ks.map fun k => PyData.tuple [.str k.1, .int k.2]).zip ds)).shown) H
theorem call_reprV {k : Nat} (hr : Room k X.A) (hgd : X.A.guards = some []) : CallR X (.builtin "repr") rReprV := by
  intro pins s σ H vs us Q I r h
  obtain ⟨v, d, G, rfl, hv, sm, bg, hs, hdep, hz, q⟩ := h
  obtain ⟨u, rfl, ru⟩ := vals1 r
  cases hv with
  | non =>
    cases ru
    exact P.repr_of_none ⟨.str _, H, I.tok _, ⟨_, rfl⟩, q⟩
  | str x =>
    obtain ⟨t, rfl⟩ := ru
    refine P.repr_of_str ⟨.str _, H, I.tok _, ⟨_, rfl⟩, q⟩ hz
  | lst h al =>
    obtain ⟨as, hread, hno⟩ := Vd.reads I sm bg _ _ _ (.lst h al) ru
    cases ru
    have hu := hr.un
    exact repr_of_reads' hread hs (fun _ => hno) hgd (by omega) (fun b o e => e) (fun h' u tk kp => ⟨.str _, H, I.kept (t' := tk) kp, ⟨_, rfl⟩, q⟩) hz
theorem dict_reads {pins : List (Addr × Obj)} {σ : L2.St} {H G : Hp} {s : Shared} (I : Inv X pins σ H s) (sm : Same G H) (bg : Big G) : ∀ {kvs : List (List Key × V)} {xs : List (List Key × Addr × Value)} (ks : List (Str × Int)) (ds : List PyData), KT H kvs xs →
    kvs.map (·.1) = ks.map (fun k => [Sum.inr k.1, Sum.inl k.2]) → VdAll G (kvs.map (·.2)) ds →
    ∃ as bs, ReadsAll s.heap (xs.map fun x => Value.ref x.2.1) (ks.map fun k => PyData.tuple [.str k.1, .int k.2]) as ∧ ReadsAll s.heap (xs.map fun x => x.2.2) ds bs ∧ sysModules ∉ as ∧ sysModules ∉ bs
  | [], _, ks, ds, r, hk, hv => by
    cases r
    cases ks with
    | nil =>
      cases hv
      exact ⟨_, _, .nil, .nil, List.not_mem_nil, List.not_mem_nil⟩
    | cons k ks => cases hk
  | (k, v) :: kvs, _, ks, ds, r, hk, hv => by
    cases r with
    | @cons _ x _ xs h t =>
      obtain ⟨x1, x2, x3⟩ := x
      obtain ⟨h1, h2, h3⟩ := h
      cases ks with
      | nil => cases hk
      | cons c ks =>
        have hk1 : k = [Sum.inr c.1, Sum.inl c.2] := (List.cons.inj hk).1
        have hk2 := (List.cons.inj hk).2
        cases hv with
        | cons hv1 hv2 =>
          obtain ⟨as, bs, a1, a2, a3, a4⟩ := dict_reads I sm bg ks _ t hk2 hv2
          obtain ⟨cs, c1, c2⟩ := Vd.reads I sm bg _ _ _ hv1 h3
          have ht : H x2 = some (.tup [.str c.1, .int c.2]) := by
            have z : H x2 = some (.tup (k.map kV)) := h2
            rw [hk1] at z
            exact z
          obtain ⟨_, its, r2, o, ho, hc, n, hd⟩ := I.hok _ _ ht
          obtain ⟨u1, u2, rfl, ri, rj⟩ := vals2 r2
          obtain ⟨t1, rfl⟩ := ri
          obtain ⟨t2, rfl⟩ := rj
          have hr : Reads s.heap (.ref x2) (.tuple [.str c.1, .int c.2]) ([] ++ ([] ++ [])) := .tuple ho hc hd (.cons (.str _ _) (.cons (.int _ _) .nil))
          refine ⟨_, _, .cons hr a1, .cons c1 a2, fun hm => ?_, fun hm => (List.mem_append.mp hm).elim c2 a4⟩
          rcases List.mem_append.mp hm with z | z
          · exact absurd z List.not_mem_nil
          · exact a3 z
theorem readsAll_len {h : Heap} : ∀ {vs : List Value} {ds : List PyData} {as : List Addr}, ReadsAll h vs ds as → vs.length = ds.length
  | _, _, _, .nil => rfl
  | _, _, _, .cons _ r => by rw [List.length_cons, List.length_cons, readsAll_len r]
theorem call_reprD {k : Nat} (hr : Room k X.A) (hgd : X.A.guards = some []) : CallR X (.builtin "repr") rReprD := by
  intro pins s σ H vs us Q I r h
  obtain ⟨a, kvs, ks, ds, G, rfl, ha, hk, hv, sm, bg, hs, hdep, hz, q⟩ := h
  obtain ⟨u, rfl, ru⟩ := vals1 r
  cases ru
  obtain ⟨_, hsys, xs, rel, o, es, ep, ho, hx, hdt, he, hn⟩ := (show ObjOk X.prog X.w H s.heap a (.dT kvs) from ha.ok I.hok)
  obtain ⟨as, bs, r1, r2, n1, n2⟩ := dict_reads I sm bg ks ds rel hk hv
  have hl : ks.length = ds.length := by
    have l1 := readsAll_len r1
    have l2 := readsAll_len r2
    simp at l1 l2
    omega
  have hr' : Reads s.heap (.ref a) (.dict ((ks.map fun k => PyData.tuple [.str k.1, .int k.2]).zip ds)) (a :: as ++ bs) := by
    refine .dict ho hx.1 hdt ?_ ?_
    · rw [he, List.map_map, List.map_fst_zip (by rw [List.length_map]; omega)]
      exact r1
    · rw [he, List.map_map, List.map_snd_zip (by rw [List.length_map]; omega)]
      exact r2
  have hu := hr.un
  refine repr_of_reads' hr' hs (fun _ hm => ?_) hgd (by omega) (fun b o e => e) (fun h' u tk kp => ⟨.str _, H, I.kept (t' := tk) kp, ⟨_, rfl⟩, q⟩) hz
  rcases List.mem_append.mp hm with z | z
  · rcases List.mem_cons.mp z with z | z
    · rw [← z] at hsys
      simp at hsys
    · exact n1 z
  · exact n2 z
end
end L2

/-! the end of a law whose promise is kept where nothing is being shown -/
namespace L2
open PySem PySem.Spec PyProof.Rows
theorem law_callG {P : Program} {w : World} {K : PySem.W.Frag} {mg mb : Str → Option Value} {k : Nat} {fa a : Addr} {fd : FuncData} {x : Str} {sp : Sp} {s₁ : Shared} {vs : List Value} {ns : List Int}
    (hin : K.In s₁.heap) (nsG : s₁.heap.Ns mainGlobals mg) (nsB : s₁.heap.Ns builtinsNs mb) (bOf : ∀ x : Str, x ≠ "__name__" → mb x = bootBuiltins x) (noLim : s₁.heap.NoLimit) (noGen : s₁.gens = #[])
    (objA : s₁.heap.get? a = some { cls := .type "list", data := .seq vs.toArray }) (isInts : IntsAre vs ns) (few : ns.length ≤ sizeLine) (room : Room k callerA)
    (F : ∀ base : Heap, K.In base → base.Ns mainGlobals mg → FnOkG P w K mg base k fa fd [x] sp) (bindL : ∀ (s : Shared) (un1 : Value), BindsTo s fd ⟨[un1], []⟩ [(x, un1)])
    (hold : ∀ H : Hp, Only H → SqL K H a (ns.map V.int) → sp [.ref a] H (fun v _ => v = .bl true) fun _ _ _ => False) :
    codeAny (model P w) callerA (.call (.ref fa) ⟨[.ref a], []⟩) (fun r s' => r = .ok (.ret (.bool true)) ∧ OldK s₁.heap s'.heap ∧ s'.os = s₁.os ∧ AllBare s'.gens) s₁ := by
  have valsR := vals_ints isInts
  have lenR := isInts.length
  have main : ∀ H : Hp, Only H → SqL K H a (ns.map V.int) → HOk P w H s₁.heap → (∀ at_, H at_ ≠ none → at_ = a) → (H a ≠ none → K.lookup a = none) →
      codeAny (model P w) callerA (.call (.ref fa) ⟨[.ref a], []⟩) (fun r s' => r = .ok (.ret (.bool true)) ∧ OldK s₁.heap s'.heap ∧ s'.os = s₁.os ∧ AllBare s'.gens) s₁ := by
    intro H only seqH okH onlyA freeA
    have inBase : ∀ {at_ : Addr} {ob1 : Obj}, s₁.heap.get? at_ = some ob1 → H at_ = none → (hidT s₁.heap H).get? at_ = some ob1 := fun eq n => hidT_get eq n
    have notDict : ∀ {at_ : Addr} {ob1 : Obj} {es : Array DictEntry} {ep : Nat}, s₁.heap.get? at_ = some ob1 → ob1.data = .dict es ep → H at_ = none := fun {at_ ob1 es ep} eq dd => by
      cases eh : H at_ with
      | none => rfl
      | some un1 =>
        have eq' : at_ = a := onlyA at_ (by rw [eh]; simp)
        subst eq'
        rw [objA] at eq; cases eq
        have dd' : Data.seq vs.toArray _ = Data.dict es ep := dd
        cases dd'
    have nsBase : ∀ {at_ : Addr} {m : Str → Option Value}, s₁.heap.Ns at_ m → (hidT s₁.heap H).Ns at_ m := fun {at_ m} ⟨ob1, es, ep, eq, dd, r⟩ => ⟨ob1, es, ep, inBase eq (notDict eq dd), dd, r⟩
    have inB : K.In (hidT s₁.heap H) := fun at_ ob1 eq => inBase (hin at_ ob1 eq) (by
      cases eh : H at_ with
      | none => rfl
      | some un1 =>
        have eq' : at_ = a := onlyA at_ (by rw [eh]; simp)
        subst eq'
        rw [freeA (by rw [eh]; simp)] at eq; cases eq)
    have modB : Mod K mg (hidT s₁.heap H) := ⟨inB, nsBase nsG, ⟨mb, nsBase nsB, bOf⟩, let ⟨mc, h1, h2⟩ := noLim; ⟨mc, nsBase h1, h2⟩⟩
    have envB : Env0 P w K mg (hidT s₁.heap H) callerA [] s₁ H := ⟨rfl, modB, fun at_ ob1 eq => of_hidT eq, Nat.le_of_eq (hidT_size _ _), trivial, fun at_ nsB => absurd (show at_ ∈ ([] : List Addr) from nsB) (by simp), okH, .of_eq noGen⟩
    refine codeAny_mono ((F _ inB (nsBase nsG)).run callerA [] s₁ H ⟨[.ref a], []⟩ [.ref a] [.ref a] _ _ rfl room envB (bindL s₁ (.ref a)) (.cons rfl .nil) (hold H only seqH)) fun r s' h => ?_
    cases r with
    | error eq => exact False.elim h
    | ok fl =>
      cases fl with
      | next => exact False.elim h
      | brk => exact False.elim h
      | cont => exact False.elim h
      | ret un1 =>
        obtain ⟨v, H', os, bare, un, okH', r', eh⟩ := h
        have eh' : v = .bl true := eh
        subst eh'
        obtain rfl : un1 = Value.bool true := r'
        refine ⟨rfl, OldK.of_keep fun at_ ob1 eq => ?_, os, bare⟩
        cases eh : H at_ with
        | none => exact un.keep at_ ob1 eq eh (by intro hz; exact absurd (show at_ ∈ ([] : List Addr) from hz) (by simp)) (by simp)
        | some un1 =>
          rcases only at_ with hz | ⟨ob, xs, hz⟩
          · rw [eh] at hz; cases hz
          · have z2 := un.frzs at_ ob _ hz
            obtain ⟨e1, _⟩ := okH at_ _ hz
            obtain ⟨e2, _⟩ := okH' at_ _ z2
            rw [eq] at e1; cases e1
            exact e2
  cases look : K.lookup a with
  | some ob1 =>
    have eq := hin a ob1 look
    rw [objA] at eq
    cases eq
    refine main (fun _ => none) (fun _ => .inl rfl) (.inr ⟨_, vs.toArray, _, look, rfl, rfl, rfl, by rw [List.size_toArray, lenR]; exact few, by simpa using valsR⟩) (fun at_ un1 hz => by have hz' : (none : Option HO) = some un1 := hz; cases hz') (fun at_ hz => absurd rfl hz) fun hz => absurd rfl hz
  | none =>
    refine main (fun at_ => if at_ = a then some (.frz { cls := .type "list", data := .seq vs.toArray } (.lst (ns.map V.int))) else none) (fun at_ => ?_) (.inl (.inr ⟨{ cls := .type "list", data := .seq vs.toArray }, if_pos rfl⟩)) (fun at_ un1 hz => ?_) (fun at_ hz => ?_) fun _ => look
    · by_cases nsB : at_ = a
      · exact .inr ⟨_, _, if_pos nsB⟩
      · exact .inl (if_neg nsB)
    · by_cases nsB : at_ = a
      · have hz' := (if_pos nsB).symm.trans hz
        cases hz'
        subst nsB
        exact ⟨objA, by rw [List.length_map]; exact few, vs, _, valsR, objA⟩
      · have hz' := (if_neg nsB).symm.trans hz
        cases hz'
    · by_cases nsB : at_ = a
      · exact nsB
      · exact absurd (if_neg nsB) hz
theorem walk_ofG {l : PySem.W.OpenLaw} {n k : Nat} {eh : Program} {loose : List Str} {XP : (Str → Option Value) → Heap → Prop} {YP : World → Heap → Prop} {dd : DefRec} {K : Params → PySem.W.Frag} {sp : World → Sp} {x : Str}
    (most : l.most = some n) (mostLe : n ≤ sizeLine) (noDef : dd.params.defaults = []) (room : Room k callerA)
    (yin : ∀ (w : World) (h : Heap), YP w h → (K w.params).In h)
    (F : ∀ (w : World) (mg : Str → Option Value) (fa : Addr) (h : Heap), (K w.params).In h → h.Ns mainGlobals mg → mg dd.name = some (.ref fa) →
      ∃ fd : FuncData, (∀ (s : Shared) (un1 : Value), BindsTo s fd ⟨[un1], []⟩ [(x, un1)]) ∧
        ∀ base : Heap, (K w.params).In base → base.Ns mainGlobals mg → FnOkG l.prog w (K w.params) mg base k fa fd [x] (sp w))
    (hold : ∀ (w : World) (H : Hp) (a : Addr) (ns : List Int), ns.length ≤ n → Only H → SqL (K w.params) H a (ns.map V.int) → sp w [.ref a] H (fun v _ => v = .bl true) fun _ _ _ => False) :
    PySem.W.WalkO eh loose XP YP l.row.toRowW dd [] (fun f vs => PySem.call f vs) := by
  refine Att.attach_call most noDef fun w s₀ s₁ mg mb fa ob1 pm cd doc a vs ns G Y ho hd code glob objS intsS lenS noGen => ?_
  have hin := yin w _ Y
  obtain ⟨fd, nsB, hF⟩ := F w mg fa _ hin G.T.g glob
  exact law_callG hin G.T.g G.T.b G.T.builtins G.T.nolimit noGen objS intsS (Nat.le_trans lenS mostLe) room hF nsB fun H only seqH => hold w H a ns lenS only seqH
end L2

namespace K64
open PySem PySem.Spec PyProof.Rows L2
/-! ### the text -/
def topS (i : Nat) : Stmt := PySem.Challenge.pw_textorlist_k64_survey_page.main.body.getD i (.Pass ⟨0, 0, 0, 0⟩)
abbrev sPage : Stmt := topS 1
abbrev sBag : Stmt := topS 3
abbrev sTake : Stmt := topS 4
abbrev sOf : Stmt := topS 5
abbrev sText : Stmt := topS 6
abbrev sValue : Stmt := topS 7
abbrev sLaw : Stmt := topS 8
theorem scTake : FnScope ["_law_bag_here", "_law_many", "_law_digit", "_law_mixed"] ["_law_bag_here", "_law_many"] (defScope sTake) := ⟨rfl, rfl, rfl, by decide +kernel, rfl, by decide +kernel, by decide +kernel⟩
theorem scBag : FnScope ["_law_script", "_law_at", "_law_cell"] ["_law_script", "_law_at"] (defScope sBag) := ⟨rfl, rfl, rfl, by decide +kernel, rfl, by decide +kernel, by decide +kernel⟩
theorem scOf : FnScope ["_law_bag_here", "_law_some"] ["_law_bag_here", "_law_some"] (defScope sOf) := ⟨rfl, rfl, rfl, by decide +kernel, rfl, by decide +kernel, by decide +kernel⟩
theorem scText : FnScope ["_law_bag_here", "_law_many", "_law_k"] ["_law_bag_here", "_law_many"] (defScope sText) := ⟨rfl, rfl, rfl, by decide +kernel, rfl, by decide +kernel, by decide +kernel⟩
/-! ### a bag: the digits that are left, a number to mix of, how often it was mixed -/
structure BagOk (a b c : Int) : Prop where
  a0 : 0 ≤ a
  b0 : 0 ≤ b
  b1 : b ≤ 11529215046068800000
  c0 : 0 ≤ c
  c1 : c ≤ 100000
theorem upd_get {H : Hp} {a b : Addr} {o u : HO} (h : b ≠ a) (e : H b = some o) : upd H a u b = some o := by
  rw [upd_ne h]
  exact e
theorem upd_set {H : Hp} {a : Addr} {o u v : HO} (h : o = u) : upd H a o a = some u := by
  rw [upd_same, h]
theorem tyV_lst {K : PySem.W.Frag} {H : Hp} {D : Addr} {xs : List V} (h : H D = some (.lst xs)) : tyV K "list" (.ref D) H := .inl ⟨rfl, xs, .inl (.inl h)⟩
local macro_rules | `(tactic| walk_at "ne") => `(tactic| first | assumption | (apply Ne.symm; assumption))
local macro_rules | `(tactic| walk_at "hp") => `(tactic| first | assumption | exact upd_same | (refine upd_get ?_ ?_ <;> first | walk_at "ne" | walk_at "hp"))
local macro_rules | `(tactic| walk_at "cl") => `(tactic| first | rfl | assumption | omega | decide | exact Nat.le_of_ble_eq_true rfl | exact ⟨_, rfl⟩ | walk_at "hp" | (refine Or.inl (Or.inl ?_); walk_at "hp") | (refine ⟨?_, ?_⟩ <;> omega) | (refine Or.inl ⟨?_, ?_⟩ <;> omega) | (refine Or.inr ⟨?_, ?_⟩ <;> first | decide | omega) | (refine ⟨?_, ?_, ?_⟩ <;> omega) | (apply Or.inl; assumption) | (apply Or.inl; refine Or.inl (Or.inl ?_); walk_at "hp") | (apply tyV_lst; walk_at "hp"))
local macro_rules | `(tactic| walk_at "rd1") => `(tactic| first
  | apply Exists.intro (α := V)
  | apply Exists.intro (α := Int)
  | apply Exists.intro (α := Addr)
  | apply Exists.intro (α := Str)
  | apply Exists.intro (α := List V)
  | apply Exists.intro (α := Bool)
  | (apply And.intro; · walk_at "cl")
  | (apply Or.inl; apply Exists.intro (α := Int); apply And.intro; · rfl))
local macro_rules | `(tactic| walk_at "rd") => `(tactic| (repeat (walk_at "rd1")))
section
variable {P : Program} {w : World} {K : PySem.W.Frag} {mg : Str → Option Value} {base : Heap}
/-! ### _law_take -/
def spTake : Sp := fun vs H Q _ => ∃ (p : Addr) (a b c many : Int), vs = [.ref p, .int many] ∧ H p = some (.lst [.int a, .int b, .int c]) ∧ BagOk a b c ∧ c < 100000 ∧ 1 ≤ many ∧ many ≤ 100000 ∧
  ∀ d a' c', 0 ≤ d → d < many → BagOk a' b c' → c' ≤ c + 1 → Q (.int d) (upd H p (.lst [.int a', .int b, .int c']))
theorem ok_take {f : Addr} {fd : FuncData} (F : Fun K "_law_take" "_law_take" sTake f fd) (m_int : mg "int" = none) : FnOk P w K mg base CX0 1 f fd ["_law_bag_here", "_law_many"] spTake := by
  refine F.ok scTake (fun vs H Q E h => ?_) (fun cdv A outer s H vs Q E hr h => ?_)
  · unfold spTake at h
    obtain ⟨p, a, b, c, many, rfl, _⟩ := h
    rfl
  · unfold spTake at h
    obtain ⟨p, a, b, c, many, rfl, hp, ok, hc, m1, m2, q⟩ := h
    have hS : SqL K H p [.int a, .int b, .int c] := .inl (.inl hp)
    have mz : many ≠ 0 := by omega
    obtain ⟨a0, b0, b1, c0, c1⟩ := id ok
    refine ⟨_, pss_cons (ps_if (pt_cmpR op_gt (pe_ix ix_list (pv 0) pe_int (fun _ _ => rfl)) pe_int (nomark _))
        (pss_cons (ps_set (i := 2) scTake.nd rfl (.inl rfl) (pe_op op_modN (pe_callTy call_int1 (by rfl) m_int (by decide +kernel) (pa_cons (pe_ix ix_list (pv 0) pe_int (fun _ _ => rfl)) pa_nil)) (pv 1)))
        (pss_cons (ps_asg (pe_op op_fdivN (pe_ix ix_list (pv 0) pe_int (fun _ _ => rfl)) (pv 1)) (pg_sub (pv 0) pe_int set_list))
        (pss_one (ps_ret (pv 2)))))
        pss_nil)
      (pss_cons (ps_asg (pe_op op_add (pe_ix ix_list (pv 0) pe_int (fun _ _ => rfl)) pe_int) (pg_sub (pv 0) pe_int set_list))
      (pss_cons (ps_set (i := 3) scTake.nd rfl (.inl rfl) (pe_op op_modN (pe_callTy call_int1 (by rfl) m_int (by decide +kernel) (pa_cons (pe_op op_pow (pe_op op_add (pe_ix ix_list (pv 0) pe_int (fun _ _ => rfl)) (pe_op op_mul pe_int (pe_ix ix_list (pv 0) pe_int (fun _ _ => rfl)))) pe_int) pa_nil)) pe_int))
      (pss_cons (ps_set (i := 3) scTake.nd rfl (.inl rfl) (pe_op op_modN (pe_callTy call_int1 (by rfl) m_int (by decide +kernel) (pa_cons (pe_op op_pow (pe_op op_add (pv 3) (pe_op op_mul pe_int (pe_ix ix_list (pv 0) pe_int (fun _ _ => rfl)))) pe_int) pa_nil)) pe_int))
      (pss_one (ps_ret (pe_op op_modN (pe_callTy call_int1 (by rfl) m_int (by decide +kernel) (pa_cons (pe_op op_fdivN (pv 3) pe_int) pa_nil)) (pv 1))))))), ?_⟩
    walk_at "rd"
    refine ite2 (fun e => ?_) (fun e => ?_)
    · have a1 : 0 < a := of_decide_eq_true e
      walk_at "rd"
      exact q (a.fmod many) (a.fdiv many) c (Int.fmod_nonneg_of_pos a (by omega)) (Int.fmod_lt_of_pos a (by omega)) ⟨Int.fdiv_nonneg a0 (by omega), b0, b1, c0, c1⟩ (by omega)
    · have r1 := Int.fmod_nonneg_of_pos ((b + 15485863 * (c + 1)) ^ Int.toNat 3) (show (0 : Int) < 2305843009213693921 by decide)
      have r2 := Int.fmod_lt_of_pos ((b + 15485863 * (c + 1)) ^ Int.toNat 3) (show (0 : Int) < 2305843009213693921 by decide)
      walk_at "rd"
      exact q _ a (c + 1) (Int.fmod_nonneg_of_pos _ (by omega)) (Int.fmod_lt_of_pos _ (by omega)) ⟨a0, b0, b1, by omega, by omega⟩ (by omega)
/-! ### _law_bag -/
def spBag (K : PySem.W.Frag) : Sp := fun vs H Q _ => ∃ (t : Addr) (ns : List Int) (at_ : Int), vs = [.ref t, .int at_] ∧ SqL K H t (ns.map V.int) ∧ 0 ≤ at_ ∧ at_ ≤ 3 ∧
  ∀ p a b, H p = none → BagOk a b 0 → Q (.ref p) (upd H p (.lst [.int a, .int b, .int 0]))
theorem atI_ints {ns : List Int} {i : Int} (h0 : 0 ≤ i) (h1 : i < ns.length) : atI (ns.map V.int) i = some (.int (ns.getD i.toNat 0)) := by
  have hj : i.toNat < ns.length := by omega
  have e : (ns.map V.int)[i.toNat]? = some (.int (ns.getD i.toNat 0)) := by
    rw [List.getElem?_map, List.getElem?_eq_getElem hj, List.getD_eq_getElem?_getD, List.getElem?_eq_getElem hj]
    rfl
  have z := atI_nat e
  rw [Int.toNat_of_nonneg h0] at z
  exact z
theorem ok_bag {f : Addr} {fd : FuncData} (F : Fun K "_law_bag" "_law_bag" sBag f fd) (m_int : mg "int" = none) (m_len : mg "len" = none) (m_abs : mg "abs" = none) : FnOk P w K mg base CX0 1 f fd ["_law_script", "_law_at"] (spBag K) := by
  refine F.ok scBag (fun vs H Q E h => ?_) (fun cdv A outer s H vs Q E hr h => ?_)
  · unfold spBag at h
    obtain ⟨t, ns, at_, rfl, _⟩ := h
    rfl
  · unfold spBag at h
    obtain ⟨t, ns, i, rfl, hS, i0, i3, q⟩ := h
    refine ⟨_, pss_cons (ps_set (i := 2) scBag.nd rfl (.inl rfl) (pe_ifExp (pt_cmpR op_lt (pv 1) (pe_callB call_len_seq (by rfl) m_len (by decide +kernel) (pa_cons (pv 0) pa_nil)) (nomark _)) (pe_callB call_abs (by rfl) m_abs (by decide +kernel) (pa_cons (pe_ix ix_list (pv 0) (pv 1) (fun _ _ => rfl)) pa_nil)) pe_int))
      (pss_one (ps_ret (pe_lst (pa_cons (pe_ifExp (pt_cmpR op_ge (pv 2) (pe_op op_pow pe_int pe_int) (nomark _)) (pv 2) pe_int) (pa_cons (pe_op op_add (pe_op op_add (pe_op op_mul (pe_op op_modN (pe_callTy call_int1 (by rfl) m_int (by decide +kernel) (pa_cons (pv 2) pa_nil)) pe_int) pe_int) (pe_op op_mul pe_int (pv 1))) pe_int) (pa_cons pe_int pa_nil)))))), ?_⟩
    have fin : ∀ cell : Int, 0 ≤ cell → ∀ a : Int, 0 ≤ a → BagOk a (cell.fmod 2305843009213693951 * 5 + 104729 * i + 7919) 0 := fun cell hc a ha => by
      have r1 := Int.fmod_nonneg_of_pos cell (show (0 : Int) < 2305843009213693951 by decide)
      have r2 := Int.fmod_lt_of_pos cell (show (0 : Int) < 2305843009213693951 by decide)
      exact ⟨ha, by omega, by omega, by omega, by omega⟩
    have md : ∀ cell : Int, CMul (cell.fmod 2305843009213693951) 5 := fun cell => .inr ⟨by decide, by decide⟩
    walk_at "rd"
    refine ite2 (fun e => ?_) (fun e => ?_)
    · have e1 : i < (ns.map V.int).length := of_decide_eq_true e
      rw [List.length_map] at e1
      have ea := atI_ints i0 e1
      have c0 : (0 : Int) ≤ (if ns.getD i.toNat 0 < 0 then -ns.getD i.toNat 0 else ns.getD i.toNat 0) := by
        split <;> omega
      walk_at "rd"
      refine ite2 (fun e => ?_) (fun e => ?_)
      · walk_at "rd"
        intro p np
        exact q p _ _ np (fin _ c0 _ c0)
      · walk_at "rd"
        intro p np
        exact q p _ _ np (fin _ c0 _ (Int.le_refl 0))
    · walk_at "rd"
      intro p np
      exact q p _ _ np (fin _ (Int.le_refl 0) _ (Int.le_refl 0))
/-! ### _law_of -/
def spOf (K : PySem.W.Frag) : Sp := fun vs H Q _ => ∃ (p l : Addr) (xs : List V) (a b c : Int), vs = [.ref p, .ref l] ∧ H p = some (.lst [.int a, .int b, .int c]) ∧ SqL K H l xs ∧ BagOk a b c ∧ c < 100000 ∧ 1 ≤ xs.length ∧ xs.length ≤ 1000 ∧ l ≠ p ∧
  ∀ v a' c', v ∈ xs → BagOk a' b c' → c' ≤ c + 1 → Q v (upd H p (.lst [.int a', .int b, .int c']))
theorem SqL.upd {H : Hp} {l p : Addr} {xs : List V} {o : HO} (h : SqL K H l xs) (hn : l ≠ p) : SqL K (upd H p o) l xs := by
  rcases h with (h | ⟨u, h⟩) | h
  · exact .inl (.inl (upd_get hn h))
  · exact .inl (.inr ⟨u, upd_get hn h⟩)
  · exact .inr h
theorem ok_of {f fTake : Addr} {fd fdTake : FuncData} (F : Fun K "_law_of" "_law_of" sOf f fd) (FTake : Fun K "_law_take" "_law_take" sTake fTake fdTake) (bTake : Binds K fdTake ["_law_bag_here", "_law_many"] []) (gTake : mg "_law_take" = some (.ref fTake)) (m_int : mg "int" = none) (m_len : mg "len" = none) : FnOk P w K mg base CX0 2 f fd ["_law_bag_here", "_law_some"] (spOf K) := by
  have GTake : FnOk P w K mg base CX0 1 fTake fdTake _ spTake := ok_take FTake m_int
  refine F.ok scOf (fun vs H Q E h => ?_) (fun cdv A outer s H vs Q E hr h => ?_)
  · unfold spOf at h
    obtain ⟨p, l, xs, a, b, c, rfl, _⟩ := h
    rfl
  · unfold spOf at h
    obtain ⟨p, l, xs, a, b, c, rfl, hp, hS, ok, hc, l1, l2, hn, q⟩ := h
    refine ⟨_, pss_one (ps_ret (pe_ix ix_list (pv 1) (pe_call GTake (hr.mono (by omega)) (by rfl) gTake FTake.kp bTake .nil pass0 (pa_cons (pv 0) (pa_cons (pe_callB call_len_seq (by rfl) m_len (by decide +kernel) (pa_cons (pv 1) pa_nil)) pa_nil))) (fun _ _ => rfl))), ?_⟩
    walk_at "rd"
    intro d a' c' d0 d1 ok' hc'
    have hS' := SqL.upd (o := .lst [.int a', .int b, .int c']) hS hn
    have hj : d.toNat < xs.length := by omega
    have ej := List.getElem?_eq_getElem hj
    have ea := atI_nat ej
    rw [Int.toNat_of_nonneg d0] at ea
    walk_at "rd"
    exact q _ a' c' (List.getElem_mem hj) ok' hc'
theorem if_true_of {c : Bool} {A B : Prop} (hc : c = true) (h : A) : if c = true then A else B := by
  rw [if_pos hc]
  exact h
theorem if_false_of {c : Bool} {A B : Prop} (hc : c = false) (h : B) : if c = true then A else B := by
  rw [hc, if_neg Bool.false_ne_true]
  exact h
/-! ### a heap without some places -/
def but (H : Hp) (ps : List Addr) : Hp := fun b => if b ∈ ps then none else H b
theorem but_in {H : Hp} {ps : List Addr} {b : Addr} (h : b ∈ ps) : but H ps b = none := if_pos h
theorem but_out {H : Hp} {ps : List Addr} {b : Addr} (h : b ∉ ps) : but H ps b = H b := if_neg h
theorem but_le (H : Hp) (ps : List Addr) : Same (but H ps) H := fun b o e => by
  by_cases h : b ∈ ps
  · rw [but_in h] at e
    cases e
  · rw [but_out h] at e
    exact e
theorem but_upd {H : Hp} {ps : List Addr} {p : Addr} {o : HO} (h : p ∈ ps) : but (upd H p o) ps = but H ps := by
  funext b
  by_cases hb : b ∈ ps
  · rw [but_in hb, but_in hb]
  · rw [but_out hb, but_out hb, upd_ne (fun e => hb (by rw [e]; exact h))]
theorem but_new {H : Hp} {ps : List Addr} {p : Addr} {o : HO} (h : H p = none) : Same (but H ps) (but (upd H p o) ps) := fun b u e => by
  by_cases hb : b ∈ ps
  · rw [but_in hb] at e
    cases e
  · rw [but_out hb] at e ⊢
    exact upd_get (ne_of_none e h) e
theorem but_step {H H1 : Hp} {ps : List Addr} {D : Addr} {o : HO} (sm : Same (but H ps) (but H1 ps)) (nD : H D = none) : Same (but H ps) (but (upd H1 D o) ps) := fun b u e => by
  have z := sm b u e
  by_cases hb : b ∈ ps
  · rw [but_in hb] at e
    cases e
  · rw [but_out hb] at e z ⊢
    exact upd_get (ne_of_none e nD) z
theorem but_at {H H1 : Hp} {ps : List Addr} {p : Addr} {o : HO} (sm : Same (but H ps) (but H1 ps)) (hp : p ∈ ps) : Same (but H ps) (but (upd H1 p o) ps) := by
  rw [but_upd hp]
  exact sm
theorem but_less {H H' : Hp} {ps qs : List Addr} (h : Same (but H ps) (but H' ps)) (hs : ∀ b ∈ ps, b ∈ qs) : Same (but H qs) (but H' qs) := fun b u e => by
  by_cases hb : b ∈ qs
  · rw [but_in hb] at e
    cases e
  · have hp : b ∉ ps := fun z => hb (hs b z)
    rw [but_out hb] at e ⊢
    have z := h b u (by rw [but_out hp]; exact e)
    rw [but_out hp] at z
    exact z
/-! ### texts joined -/
theorem join_low : ∀ ys : List Str, (∀ y ∈ ys, y.length = 1 ∧ ∀ c ∈ y.cps.toList, 97 ≤ c ∧ c ≤ 122) → (Str.join Str.empty ys).length = ys.length ∧ ∀ c ∈ (Str.join Str.empty ys).cps.toList, 97 ≤ c ∧ c ≤ 122
  | [], _ => ⟨rfl, fun c h => absurd h (by
      show c ∉ (#[] : Array Nat).toList
      simp)⟩
  | [y], h => h y List.mem_cons_self
  | y :: z :: r, h => by
    obtain ⟨l1, m1⟩ := join_low (z :: r) fun x hx => h x (List.mem_cons_of_mem _ hx)
    obtain ⟨l2, m2⟩ := h y List.mem_cons_self
    have e : Str.join Str.empty (y :: z :: r) = y ++ Str.join Str.empty (z :: r) := by
      show y ++ Str.empty ++ Str.join Str.empty (z :: r) = _
      rw [Str.append_empty]
    rw [e]
    refine ⟨?_, fun c hc => ?_⟩
    · rw [Str.length_append, l1, l2]
      show 1 + (z :: r).length = (z :: r).length + 1
      omega
    · rw [Str.cps_append, Array.toList_append] at hc
      exact (List.mem_append.mp hc).elim (m2 c) (m1 c)
theorem letter_at : ∀ d : Nat, d < 26 → ∃ c, (Str.ofString "abcdefghijklmnopqrstuvwxyz").cps.toList[d]? = some c ∧ 97 ≤ c ∧ c ≤ 122 := by
  intro d hd
  have z : ∀ d : Fin 26, ∃ c, c < 123 ∧ (Str.ofString "abcdefghijklmnopqrstuvwxyz").cps.toList[d.val]? = some c ∧ 97 ≤ c ∧ c ≤ 122 := by decide +kernel
  obtain ⟨c, _, h⟩ := z ⟨d, hd⟩
  exact ⟨c, h⟩
theorem sum_ones : ∀ ys : List Str, (∀ y ∈ ys, y.length = 1) → (ys.map (·.length)).sum = ys.length
  | [], _ => rfl
  | y :: r, h => by
    rw [List.map_cons, List.sum_cons, sum_ones r fun z hz => h z (List.mem_cons_of_mem _ hz), h y List.mem_cons_self, List.length_cons]
    omega
/-! ### _law_text -/
/-- a text of small letters, no longer than n -/
def Low (x : Str) : Prop := ∀ c ∈ x.cps.toList, 97 ≤ c ∧ c ≤ 122
def spText : Sp := fun vs H Q _ => ∃ (p : Addr) (a b c many : Int), vs = [.ref p, .int many] ∧ H p = some (.lst [.int a, .int b, .int c]) ∧ BagOk a b c ∧ c + many ≤ 99999 ∧ 0 ≤ many ∧ many ≤ 1000 ∧
  ∀ x H' a' c', Low x → (x.length : Int) ≤ many → BagOk a' b c' → c' ≤ c + many → H' p = some (.lst [.int a', .int b, .int c']) → Same (but H [p]) (but H' [p]) → Q (.str x) H'
theorem ok_text {f fTake : Addr} {fd fdTake : FuncData} (F : Fun K "_law_text" "_law_text" sText f fd) (FTake : Fun K "_law_take" "_law_take" sTake fTake fdTake) (bTake : Binds K fdTake ["_law_bag_here", "_law_many"] []) (gTake : mg "_law_take" = some (.ref fTake)) (m_int : mg "int" = none) (m_range : mg "range" = none) : FnOk P w K mg base CX0 2 f fd ["_law_bag_here", "_law_many"] spText := by
  have GTake : FnOk P w K mg base CX0 1 fTake fdTake _ spTake := ok_take FTake m_int
  refine F.ok scText (fun vs H Q E h => ?_) (fun cdv A outer s H vs Q E hr h => ?_)
  · unfold spText at h
    obtain ⟨p, a, b, c, many, rfl, _⟩ := h
    rfl
  · unfold spText at h
    obtain ⟨p, a, b, c, many, rfl, hp, ok, hc, m0, m1, q⟩ := h
    refine ⟨_, pss_one (ps_ret (pe_join pe_str (pe_lc (own := [("_law_k", 2)]) (g := gName 2) (tt := tYes) (by rfl) scText.nd (pi_range1 (by rfl) m_range (pa_cons (pv 1) pa_nil)) (blkOk_by (own := [("_law_k", 2)]) (N := ["_law_bag_here", "_law_many", "_law_k"]) (sc := defScope sText) (by decide +kernel)) (fun _ _ _ _ _ => (pg_name (i := 2) scText.nd rfl (.inl rfl))) (fun _ _ _ _ _ => pts_nil) (fun _ _ _ _ _ => (pe_ix ix_str pe_str (pe_call GTake (hr.mono (by omega)) (by rfl) gTake FTake.kp bTake .nil pass0 (pa_cons (pv 0) (pa_cons pe_int pa_nil))) (fun _ _ => rfl)))))), ?_⟩
    walk_at "rd"
    intro D nD
    have Dp : p ≠ D := ne_of_none hp nD
    refine lc_range (lo := 0) (n := many.toNat) (fun i H1 => ∃ (ys : List Str) (a' c' : Int), ys.length = i ∧ (∀ y ∈ ys, y.length = 1 ∧ Low y) ∧ BagOk a' b c' ∧ c' ≤ c + i ∧ H1 p = some (.lst [.int a', .int b, .int c']) ∧ H1 D = some (.lst (ys.map V.str)) ∧ Same (but H [p]) (but H1 [p]) )
      ⟨[], a, c, rfl, fun _ h => absurd h List.not_mem_nil, ok, by omega, upd_get Dp hp, upd_same, but_new nD⟩ ?_ ?_
    · rintro i H1 hi ⟨ys, a1, c1, hl, hys, ok1, hc1, hp1, hD1, sm⟩
      refine ⟨rfl, ?_⟩
      walk_at "rd"
      intro d a2 c2 d0 d1 ok2 hc2
      obtain ⟨ch, he, h1, h2⟩ := letter_at d.toNat (by omega)
      have ea := atI_nat he
      rw [Int.toNat_of_nonneg d0] at ea
      refine ⟨_, _, ch, rfl, rfl, by decide +kernel, ea, ys.map V.str, upd_get Dp.symm hD1, ?_, ys ++ [⟨#[ch]⟩], a2, c2, ?_, ?_, ok2, ?_, ?_, ?_, ?_⟩
      · rw [List.length_map, hl]
        exact small1000 (by omega)
      · rw [List.length_append, hl]
        rfl
      · intro y hy
        rcases List.mem_append.mp hy with hy | hy
        · exact hys y hy
        · rw [List.mem_singleton.mp hy]
          exact ⟨rfl, fun c hc => by
            have e : c = ch := by
              have hc' : c ∈ [ch] := hc
              exact List.mem_singleton.mp hc'
            rw [e]
            exact ⟨h1, h2⟩⟩
      · push_cast
        omega
      · exact upd_get Dp upd_same
      · rw [upd_same, List.map_append]
        rfl
      · exact but_step (but_at sm List.mem_cons_self) nD
    · rintro H1 ⟨ys, a1, c1, hl, hys, ok1, hc1, hp1, hD1, sm⟩
      have hl1 := sum_ones ys fun y hy => (hys y hy).1
      obtain ⟨j1, j2⟩ := join_low ys hys
      have ej : Txt.join (Str.ofString "") ys = Str.join Str.empty ys := StrLaws.glued_eq_join Str.empty ys
      refine ⟨_, D, ys, rfl, rfl, .inl (.inl (.inl hD1)), ?_, ?_⟩
      · rw [hl1]
        show ys.length + ys.length * 0 ≤ 16777216
        omega
      · rw [ej]
        exact q _ H1 a1 c1 j2 (by omega) ok1 (by omega) hp1 sm
theorem scValue : FnScope ["_law_bag_here", "_law_deep", "_law_room", "_law_wanted", "_law_sort", "_law_found", "_law_turn"] ["_law_bag_here", "_law_deep", "_law_room", "_law_wanted"] (defScope sValue) := ⟨rfl, rfl, rfl, by decide +kernel, rfl, by decide +kernel, by decide +kernel⟩
/-! ### _law_value: nothing, a text of few letters, a list of at most three values -/
inductive ValOk : Nat → PyData → Prop
  | non {n : Nat} : ValOk n .none
  | str {n : Nat} {x : Str} : Low x → x.length ≤ 7 → ValOk n (.str x)
  | lst {n : Nat} {ds : List PyData} : ds.length ≤ 3 → (∀ d ∈ ds, ValOk n d) → ValOk (n + 1) (.list ds)
theorem ValOk.up {n : Nat} {d : PyData} (h : ValOk n d) : ValOk (n + 1) d := by
  induction h with
  | non => exact .non
  | str a b => exact .str a b
  | lst a _ ih => exact .lst a ih
/-- what is new in H', seen from H -/
def nu (H H' : Hp) : Hp := fun b => if sysModules < b then (match H b with
  | none => H' b
  | some _ => none) else none
theorem nu_none {H H' : Hp} {b : Addr} (h : H b = none) (hb : sysModules < b) : nu H H' b = H' b := by
  unfold nu
  rw [if_pos hb, h]
theorem nu_old {H H' : Hp} {b : Addr} {o : HO} (h : nu H H' b = some o) : H b = none ∧ H' b = some o ∧ sysModules < b := by
  unfold nu at h
  by_cases hb : sysModules < b
  · rw [if_pos hb] at h
    cases e : H b with
    | none =>
      rw [e] at h
      exact ⟨rfl, h, hb⟩
    | some u =>
      rw [e] at h
      cases h
  · rw [if_neg hb] at h
    cases h
theorem nu_big (H H' : Hp) : Big (nu H H') := fun b o h => (nu_old h).2.2
theorem nu_le (H H' : Hp) : Same (nu H H') H' := fun b o h => (nu_old h).2.1
theorem nu_from {H1 H2 H' : Hp} (h : ∀ b, H2 b = none → H1 b = none) : Same (nu H2 H') (nu H1 H') := fun b o e => by
  obtain ⟨e1, e2, e3⟩ := nu_old e
  rw [nu_none (h b e1) e3]
  exact e2
theorem nu_to {H H1 H2 : Hp} (h : ∀ b o, H b = none → H1 b = some o → H2 b = some o) : Same (nu H H1) (nu H H2) := fun b o e => by
  obtain ⟨e1, e2, e3⟩ := nu_old e
  rw [nu_none e1 e3]
  exact h b o e1 e2
/-- how many draws a value takes at most -/
def cost : Nat → Int
  | 0 => 10
  | n + 1 => 3 * cost n + 10
theorem cost_pos : ∀ n, 10 ≤ cost n
  | 0 => Int.le_refl _
  | n + 1 => by
    have := cost_pos n
    show 10 ≤ 3 * cost n + 10
    omega
def spValue (K : PySem.W.Frag) (n : Nat) : Sp := fun vs H Q _ => ∃ (p r : Addr) (a b c rm dp : Int) (x : Str), vs = [.ref p, .int dp, .ref r, .str x] ∧ dp = (n : Int) ∧ H p = some (.lst [.int a, .int b, .int c]) ∧ H r = some (.lst [.int rm]) ∧ BagOk a b c ∧ c + cost n ≤ 99999 ∧ p ≠ r ∧ Low x ∧ x.length ≤ 3 ∧
  ∀ v d H' a' c' rm', Vd (nu H H') v d → ValOk n d → BagOk a' b c' → c' ≤ c + cost n → H' p = some (.lst [.int a', .int b, .int c']) → H' r = some (.lst [.int rm']) → Same (but H [p, r]) (but H' [p, r]) → Q v H'
/-- the promise one level below -/
def spPrev (K : PySem.W.Frag) : Nat → Sp
  | 0 => fun _ _ _ _ => False
  | n + 1 => spValue K n
theorem low_append {x y : Str} (h1 : Low x) (h2 : Low y) : Low (x ++ y) := fun c hc => by
  rw [Str.cps_append, Array.toList_append] at hc
  exact (List.mem_append.mp hc).elim (h1 c) (h2 c)
theorem ok_value {f fTake fText fOf : Addr} {fd fdTake fdText fdOf : FuncData} (FValue : Fun K "_law_value" "_law_value" sValue f fd) (FTake : Fun K "_law_take" "_law_take" sTake fTake fdTake) (FText : Fun K "_law_text" "_law_text" sText fText fdText) (FOf : Fun K "_law_of" "_law_of" sOf fOf fdOf)
    (bTake : Binds K fdTake ["_law_bag_here", "_law_many"] []) (bText : Binds K fdText ["_law_bag_here", "_law_many"] []) (bOf : Binds K fdOf ["_law_bag_here", "_law_some"] []) (bValue : Binds K fd ["_law_bag_here", "_law_deep", "_law_room", "_law_wanted"] [])
    (gTake : mg "_law_take" = some (.ref fTake)) (gText : mg "_law_text" = some (.ref fText)) (gOf : mg "_law_of" = some (.ref fOf)) (gValue : mg "_law_value" = some (.ref f)) (m_int : mg "int" = none) (m_range : mg "range" = none) (m_len : mg "len" = none)
    (n : Nat) (GValue : FnOk P w K mg base CX0 (n + 2) f fd ["_law_bag_here", "_law_deep", "_law_room", "_law_wanted"] (spPrev K n)) : FnOk P w K mg base CX0 (n + 3) f fd ["_law_bag_here", "_law_deep", "_law_room", "_law_wanted"] (spValue K n) := by
  have GTake : FnOk P w K mg base CX0 1 fTake fdTake _ spTake := ok_take FTake m_int
  have GText : FnOk P w K mg base CX0 2 fText fdText _ spText := ok_text FText FTake bTake gTake m_int m_range
  have GOf : FnOk P w K mg base CX0 2 fOf fdOf _ (spOf K) := ok_of FOf FTake bTake gTake m_int m_len
  have cp := cost_pos n
  refine FValue.ok scValue (fun vs H Q E h => ?_) (fun cdv A outer s H vs Q E hr h => ?_)
  · unfold spValue at h
    obtain ⟨p, r, a, b, c, rm, dp, x, rfl, _⟩ := h
    rfl
  · unfold spValue at h
    obtain ⟨p, r, a, b, c, rm, dp, x, rfl, rfl, hp, hrm, ok, hc, hpr, hx, hxl, q⟩ := h
    have pin : p ∈ [p, r] := List.mem_cons_self
    refine ⟨_, pss_cons (ps_set (i := 4) scValue.nd rfl (.inl rfl) (pe_call GTake (hr.mono (by omega)) (by rfl) gTake FTake.kp bTake .nil pass0 (pa_cons (pv 0) (pa_cons pe_int pa_nil))))
      (pss_cons (ps_if (PW.pt (pw_and (pt_cmpR op_gt (pv 4) pe_int (nomark _)) (pw_and1 (pt_cmpR op_gt (pv 1) pe_int (nomark _)))))
        (pss_cons (ps_set (i := 5) scValue.nd rfl (.inl rfl) (pe_lstB pa_nil))
        (pss_cons (ps_for PassesOwn.never rfl (pi_range1 (by rfl) m_range (pa_cons (pe_call GTake (hr.mono (by omega)) (by rfl) gTake FTake.kp bTake .nil pass0 (pa_cons (pv 0) (pa_cons pe_int pa_nil))) pa_nil)) (pg_name (i := 6) scValue.nd rfl (.inl rfl))
          (pss_one (ps_if (pt_cmpR op_gt (pe_ix ix_list (pv 2) pe_int (fun _ _ => rfl)) pe_int (nomark _))
            (pss_cons (ps_asg (pe_op op_sub (pe_ix ix_list (pv 2) pe_int (fun _ _ => rfl)) pe_int) (pg_sub (pv 2) pe_int set_list))
            (pss_one (ps_expr (pe_bm PySem.F.plainAttrs_list PySem.F.slot_list_append PySem.F.type_list_append mt_append (pv 5) (pa_cons (pe_call GValue hr (by rfl) gValue FValue.kp bValue .nil pass0 (pa_cons (pv 0) (pa_cons (pe_op op_sub (pv 1) pe_int) (pa_cons (pv 2) (pa_cons (pv 3) pa_nil))))) pa_nil)))))
            pss_nil)))
        (pss_one (ps_ret (pv 5)))))
        pss_nil)
      (pss_cons (ps_if (pt_cmpR op_eq (pv 4) pe_int (nomark _))
        (pss_one (ps_ret pe_non))
        pss_nil)
      (pss_cons (ps_if (pt_cmpR op_eq (pv 4) pe_int (nomark _))
        (pss_one (ps_ret (pe_op op_add_str (pv 3) (pe_call GText (hr.mono (by omega)) (by rfl) gText FText.kp bText .nil pass0 (pa_cons (pv 0) (pa_cons (pe_call GTake (hr.mono (by omega)) (by rfl) gTake FTake.kp bTake .nil pass0 (pa_cons (pv 0) (pa_cons pe_int pa_nil))) pa_nil))))))
        pss_nil)
      (pss_one (ps_ret (pe_call GText (hr.mono (by omega)) (by rfl) gText FText.kp bText .nil pass0 (pa_cons (pv 0) (pa_cons (pe_call GOf (hr.mono (by omega)) (by rfl) gOf FOf.kp bOf .nil pass0 (pa_cons (pv 0) (pa_cons (pe_lst (pa_cons pe_int (pa_cons pe_int (pa_cons pe_int (pa_cons pe_int (pa_cons pe_int (pa_cons pe_int pa_nil))))))) pa_nil))) pa_nil)))))))), ?_⟩
    walk_at "rd"
    walk_at "rd"
    intro sort a1 c1 s0 s1 ok1 hc1
    walk_at "rd"
    by_cases hl : 4 < sort ∧ (0 : Int) < (n : Int)
    · -- a list
      refine if_true_of (decide_eq_true hl.1) ?_
      walk_at "rd"
      refine if_true_of (decide_eq_true hl.2) ?_
      walk_at "rd"
      intro D nD bD
      have nDp : D ≠ p := fun z => by
        rw [z, upd_same] at nD
        cases nD
      have nD0 : H D = none := by
        rw [upd_ne nDp] at nD
        exact nD
      have nDr : D ≠ r := fun z => by
        rw [z, hrm] at nD0
        cases nD0
      have hn : 0 < n := by omega
      obtain ⟨n0, rfl⟩ : ∃ n0, n = n0 + 1 := ⟨n - 1, by omega⟩
      have cc : cost (n0 + 1) = 3 * cost n0 + 10 := rfl
      have cp0 := cost_pos n0
      walk_at "rd"
      walk_at "rd"
      intro k a2 c2 k0 k1 ok2 hc2
      walk_at "rd"
      generalize hB : upd (upd (upd H p (.lst [.int a1, .int b, .int c1])) D (.lst [])) p (.lst [.int a2, .int b, .int c2]) = B
      have Bp : B p = some (.lst [.int a2, .int b, .int c2]) := by
        rw [← hB, upd_same]
      have Br : B r = some (.lst [.int rm]) := by
        rw [← hB]
        exact upd_get hpr.symm (upd_get nDr.symm (upd_get hpr.symm hrm))
      have BD : B D = some (.lst []) := by
        rw [← hB]
        exact upd_get nDp upd_same
      have BH : ∀ b, B b = none → H b = none := fun y e => by
        rw [← hB] at e
        by_cases h1 : y = p
        · rw [h1, upd_same] at e
          cases e
        · rw [upd_ne h1] at e
          by_cases h2 : y = D
          · rw [h2]
            exact nD0
          · rw [upd_ne h2, upd_ne h1] at e
            exact e
      have sB : Same (but H [p, r]) (but B [p, r]) := by
        rw [← hB]
        exact but_at (but_step (but_at (Same.refl _) pin) nD0) pin
      refine for_range (lo := 0) (n := k.toNat) (fun i σ H1 => ∃ (ds : List PyData) (vs : List V) (a3 c3 rm3 : Int) (y : Option V), σ = [some (.ref p), some (.int ((n0 + 1 : Nat) : Int)), some (.ref r), some (.str x), some (.int sort), some (.ref D), y] ∧
          BagOk a3 b c3 ∧ c3 ≤ c2 + i * cost n0 ∧ H1 p = some (.lst [.int a3, .int b, .int c3]) ∧ H1 r = some (.lst [.int rm3]) ∧ H1 D = some (.lst vs) ∧ VdAll (nu B H1) vs ds ∧ ds.length ≤ i ∧ vs.length ≤ i ∧ (∀ d ∈ ds, ValOk n0 d) ∧ Same (but H [p, r]) (but H1 [p, r]) ∧ ∀ y, H1 y = none → B y = none)
        ⟨[], [], a2, c2, rm, _, rfl, ok2, by omega, Bp, Br, BD, .nil, Nat.le_refl _, Nat.le_refl _, fun _ h => absurd h List.not_mem_nil, sB, fun _ h => h⟩ ?_ ?_
      · rintro i σ H1 hi ⟨ds, vs, a3, c3, rm3, y, rfl, ok3, hc3, hp3, hr3, hD3, dp, dl, vl, dv, sm, dom⟩
        have hb : (i : Int) * cost n0 + cost n0 ≤ 3 * cost n0 := by
          have : (i : Int) ≤ 2 := by omega
          have := Int.mul_le_mul_of_nonneg_right this (show 0 ≤ cost n0 by omega)
          omega
        have hr0 : SqL K H1 r [.int rm3] := .inl (.inl hr3)
        have hi3 : (i : Int) * cost n0 ≤ 2 * cost n0 := by omega
        have hi4 : ((i + 1 : Nat) : Int) * cost n0 = i * cost n0 + cost n0 := by
          rw [Int.natCast_add, Int.add_mul]
          omega
        walk_at "rd"
        refine ite2 (fun e => ?_) (fun e => ?_)
        · have e0 : (((n0 + 1 : Nat) : Int) - 1) = (n0 : Int) := by omega
          have nDr2 := nDr.symm
          walk_at "rd"
          intro v d H2 a4 c4 rm4 dv2 dok ok4 hc4 hp4 hr4 sm4
          have rin : r ∈ [p, r] := List.mem_cons_of_mem _ List.mem_cons_self
          have Dout : D ∉ [p, r] := fun h => by
            rcases List.mem_cons.mp h with h | h
            · exact nDp h
            · exact nDr (List.mem_singleton.mp h)
          rw [but_upd rin] at sm4
          have keep : ∀ b o, b ≠ p → b ≠ r → H1 b = some o → H2 b = some o := fun b o h1 h2 e => by
            have hb : b ∉ [p, r] := fun h => by
              rcases List.mem_cons.mp h with h | h
              · exact h1 h
              · exact h2 (List.mem_singleton.mp h)
            have z := sm4 b o (by rw [but_out hb]; exact e)
            rw [but_out hb] at z
            exact z
          have hD4 := keep D _ nDp nDr hD3
          have fresh : ∀ b o, B b = none → H2 b = some o → upd H2 D (.lst (vs ++ [v])) b = some o := fun b o hB h => upd_get (fun z => by rw [z, BD] at hB; cases hB) h
          refine ⟨D, vs, v, rfl, rfl, hD4, small1000 (by omega), ds ++ [d], vs ++ [v], a4, c4, rm4, _, rfl, ok4, by omega, upd_get nDp.symm hp4, upd_get nDr.symm hr4, upd_same, ?_, ?_, ?_, ?_, ?_, ?_⟩
          · refine VdAll.snoc ?_ (VdAll.mono (nu_to fun b o hB h => ?_) dp)
            · refine Vd.mono ((nu_from fun b h => ?_).trans (nu_to fresh)) dv2
              by_cases hb : b = r
              · rw [hb, upd_same] at h
                cases h
              · rw [upd_ne hb] at h
                exact dom b h
            · refine fresh b o hB (keep b o (fun z => ?_) (fun z => ?_) h)
              · rw [z, Bp] at hB
                cases hB
              · rw [z, Br] at hB
                cases hB
          · rw [List.length_append]
            show ds.length + 1 ≤ i + 1
            omega
          · rw [List.length_append]
            show vs.length + 1 ≤ i + 1
            omega
          · intro d' hd
            rcases List.mem_append.mp hd with hd | hd
            · exact dv d' hd
            · rw [List.mem_singleton.mp hd]
              exact dok
          · exact but_step (sm.trans sm4) nD0
          · intro b hb
            by_cases h1 : b = D
            · rw [h1, upd_same] at hb
              cases hb
            · rw [upd_ne h1] at hb
              refine dom b ?_
              cases e : H1 b with
              | none => rfl
              | some o =>
                by_cases h2 : b = p
                · rw [h2, hp4] at hb
                  cases hb
                · by_cases h3 : b = r
                  · rw [h3, hr4] at hb
                    cases hb
                  · rw [keep b o h2 h3 e] at hb
                    cases hb
        · exact ⟨ds, vs, a3, c3, rm3, _, rfl, ok3, by omega, hp3, hr3, hD3, dp, by omega, by omega, dv, sm, dom⟩
      · rintro σ H1 ⟨ds, vs, a3, c3, rm3, y, rfl, ok3, hc3, hp3, hr3, hD3, dp, dl, vl, dv, sm, dom⟩
        have hb : (k.toNat : Int) * cost n0 ≤ 3 * cost n0 := by
          have : (k.toNat : Int) ≤ 3 := by omega
          exact Int.mul_le_mul_of_nonneg_right this (show 0 ≤ cost n0 by omega)
        walk_at "rd"
        refine q _ (.list ds) H1 a3 c3 rm3 (.lst ?_ (VdAll.mono (nu_from BH) dp)) (.lst (by omega) dv) ok3 (by omega) hp3 hr3 sm
        rw [nu_none nD0 bD]
        exact hD3
    · refine ite2 (fun e => ?A) (fun e => ?B)
      case' A => (walk_at "rd"; refine ite2 (fun e2 => absurd ⟨of_decide_eq_true e, of_decide_eq_true e2⟩ hl) (fun e2 => ?_))
      all_goals
        walk_at "rd"
        refine ite2 (fun e3 => ?_) (fun e3 => ?_)
        · refine q _ .none _ a1 c1 rm .non .non ok1 (by omega) upd_same (upd_get hpr.symm hrm) (but_at (Same.refl _) pin)
        · walk_at "rd"
          refine ite2 (fun e4 => ?_) (fun e4 => ?_)
          · walk_at "rd"
            walk_at "rd"
            intro d2 a2 c2 d20 d21 ok2 hc2
            walk_at "rd"
            walk_at "rd"
            intro y H2 a3 c3 hy hyl ok3 hc3 hp3 sm3
            have hxy : (x ++ y).length = x.length + y.length := Str.length_append x y
            have hr3 : H2 r = some (.lst [.int rm]) := by
              have z := sm3 r (.lst [.int rm]) (by
                rw [but_out (fun h => hpr.symm (List.mem_singleton.mp h))]
                exact upd_get hpr.symm (upd_get hpr.symm hrm))
              rw [but_out (fun h => hpr.symm (List.mem_singleton.mp h))] at z
              exact z
            have hsz : x.length + y.length ≤ sizeLine := Nat.le_trans (show x.length + y.length ≤ 10 by omega) (by decide)
            walk_at "rd"
            refine q _ (.str (x ++ y)) H2 a3 c3 rm (.str _) (.str (low_append hx hy) (by omega)) ok3 (by omega) hp3 hr3 ?_
            have z := but_less sm3 (qs := [p, r]) (fun b hb => by
              rw [List.mem_singleton.mp hb]
              exact pin)
            rw [but_upd pin, but_upd pin] at z
            exact z
          · walk_at "rd"
            intro l nl
            have lnp : l ≠ p := fun z => by
              rw [z, upd_same] at nl
              cases nl
            have nl0 : H l = none := by
              rw [upd_ne lnp] at nl
              exact nl
            walk_at "rd"
            intro v a2 c2 hv ok2 hc2
            obtain ⟨k, rfl, k0, k1⟩ : ∃ k : Int, v = .int k ∧ 0 ≤ k ∧ k ≤ 5 := by
              simp only [List.mem_cons, List.not_mem_nil, or_false] at hv
              rcases hv with h | h | h | h | h | h <;> exact ⟨_, h, by decide, by decide⟩
            walk_at "rd"
            intro y H2 a3 c3 hy hyl ok3 hc3 hp3 sm3
            have hr3 : H2 r = some (.lst [.int rm]) := by
              have z := sm3 r (.lst [.int rm]) (by
                rw [but_out (fun h => hpr.symm (List.mem_singleton.mp h))]
                exact upd_get hpr.symm (upd_get (ne_of_none hrm nl0) (upd_get hpr.symm hrm)))
              rw [but_out (fun h => hpr.symm (List.mem_singleton.mp h))] at z
              exact z
            refine q _ (.str y) H2 a3 c3 rm (.str _) (.str hy (by omega)) ok3 (by omega) hp3 hr3 ?_
            have z := but_less sm3 (qs := [p, r]) (fun b hb => by
              rw [List.mem_singleton.mp hb]
              exact pin)
            exact (but_at (but_step (but_at (Same.refl _) pin) nl0) pin).trans z
end
end K64

namespace K64
open PySem PySem.Spec PyProof.Rows L2
local macro_rules | `(tactic| walk_at "ne") => `(tactic| first | assumption | (apply Ne.symm; assumption))
local macro_rules | `(tactic| walk_at "hp") => `(tactic| first | assumption | exact upd_same | (refine upd_get ?_ ?_ <;> first | walk_at "ne" | walk_at "hp"))
local macro_rules | `(tactic| walk_at "cl") => `(tactic| first | rfl | assumption | omega | decide | exact Nat.le_of_ble_eq_true rfl | exact ⟨_, rfl⟩ | walk_at "hp" | (refine Or.inl (Or.inl ?_); walk_at "hp") | (refine ⟨?_, ?_⟩ <;> omega) | (refine Or.inl ⟨?_, ?_⟩ <;> omega) | (refine Or.inr ⟨?_, ?_⟩ <;> first | decide | omega) | (refine ⟨?_, ?_, ?_⟩ <;> omega) | (apply Or.inl; assumption) | (apply Or.inl; refine Or.inl (Or.inl ?_); walk_at "hp") | (apply tyV_lst; walk_at "hp") | (apply Rd.of; walk_at "hp"))
local macro_rules | `(tactic| walk_at "rd1") => `(tactic| first
  | apply Exists.intro (α := V)
  | apply Exists.intro (α := Int)
  | apply Exists.intro (α := Addr)
  | apply Exists.intro (α := Str)
  | apply Exists.intro (α := List V)
  | apply Exists.intro (α := Bool)
  | apply Exists.intro (α := List (List Key × V))
  | (apply And.intro; · walk_at "cl")
  | (apply Or.inl; apply Exists.intro (α := Int); apply And.intro; · rfl))
local macro_rules | `(tactic| walk_at "rd") => `(tactic| (repeat (walk_at "rd1")))
theorem scPage : FnScope ["found", "rows", "kind", "line", "value"] ["found"] (defScope sPage) := ⟨rfl, rfl, rfl, by decide +kernel, rfl, by decide +kernel, by decide +kernel⟩
theorem scLaw : FnScope ["_law_script", "_law_kinds", "_law_at", "_law_bag_here", "_law_found", "_law_turn", "_law_line", "_law_kept", "_law_rows", "_law_kind", "_law_number"] ["_law_script"] (defScope sLaw) := ⟨rfl, rfl, rfl, by decide +kernel, rfl, by decide +kernel, by decide +kernel⟩
/-! ### survey_page -/
abbrev enc (k : Str × Int) : List Key := [Sum.inr k.1, Sum.inl k.2]
/-- a found dict: its keys in order, its values -/
structure Found (H G : Hp) (a : Addr) (kvs : List (List Key × V)) (ks : List (Str × Int)) (f : Str × Int → PyData) : Prop where
  at_ : H a = some (.dT kvs)
  keys : kvs.map (·.1) = ks.map enc
  nd : ks.Nodup
  vals : VdAll G (kvs.map (·.2)) (ks.map f)
  le : Same G H
  big : Big G
  kind : ∀ k ∈ ks, k.1.length < 8 ∧ (Fld.left8 k.1).length ≤ 100 ∧ 0 ≤ k.2 ∧ k.2 < 10000
  few : ks.length ≤ 6
  shows : ∀ k ∈ ks, (f k).showable = true ∧ (f k).depth ≤ 3 ∧ (f k).shown.length ≤ 10000
def sp1 : Str := Str.ofString " "
def row (f : Str × Int → PyData) (k : Str × Int) : Str := Str.empty ++ Fld.right3 k.2 ++ sp1 ++ Fld.left8 k.1 ++ sp1 ++ (f k).shown
def Sorted (ks' ks : List (Str × Int)) : Prop := ks'.Perm ks ∧ ks'.Pairwise (fun b c => SortSI.ltK (SortSI.key c) (SortSI.key b) = false)
/-- the pair that stands at a place -/
def kAt (H : Hp) (b : Addr) : Str × Int := match H b with
  | some (.tup [.str x, .int i]) => (x, i)
  | _ => (Str.empty, 0)
theorem kAt_of {H : Hp} {b : Addr} {k : Str × Int} (h : H b = some (.tup [.str k.1, .int k.2])) : kAt H b = k := by
  unfold kAt
  rw [h]
/-- the keys' places -/
theorem keys_map {H : Hp} : ∀ {kvs : List (List Key × V)} {bs : List Addr} (ks : List (Str × Int)), kvs.map (·.1) = ks.map enc → IsKeys H kvs bs → bs.map (kAt H) = ks ∧ ∀ b ∈ bs, H b = some (.tup [.str (kAt H b).1, .int (kAt H b).2])
  | [], _, ks, hk, h => by
    cases h
    cases ks with
    | nil => exact ⟨rfl, fun _ h => absurd h List.not_mem_nil⟩
    | cons k ks => cases hk
  | (k, v) :: kvs, _, ks, hk, h => by
    cases h with
    | @cons _ b _ bs h1 h2 =>
      cases ks with
      | nil => cases hk
      | cons c ks =>
        have hk1 : k = enc c := (List.cons.inj hk).1
        have z : H b = some (.tup [.str c.1, .int c.2]) := by
          have z : H b = some (.tup (k.map kV)) := h1
          rw [hk1] at z
          exact z
        obtain ⟨e1, e2⟩ := keys_map ks (List.cons.inj hk).2 h2
        have e := kAt_of z
        refine ⟨by rw [List.map_cons, e, e1], fun y hy => ?_⟩
        rcases List.mem_cons.mp hy with hy | hy
        · rw [hy, e]
          exact z
        · exact e2 y hy
theorem found_val {G : Hp} {f : Str × Int → PyData} : ∀ {kvs : List (List Key × V)} {ks : List (Str × Int)}, kvs.map (·.1) = ks.map enc → VdAll G (kvs.map (·.2)) (ks.map f) → ∀ k ∈ ks, ∃ v, valV kvs (enc k) = some v ∧ Vd G v (f k)
  | [], ks, hk, _, k, hm => by
    cases ks with
    | nil => exact absurd hm List.not_mem_nil
    | cons c ks => cases hk
  | (k1, v1) :: kvs, ks, hk, hv, k, hm => by
    cases ks with
    | nil => exact absurd hm List.not_mem_nil
    | cons c ks =>
      have h1 : k1 = enc c := (List.cons.inj hk).1
      cases hv with
      | cons hv1 hv2 =>
        by_cases e : c = k
        · subst e
          refine ⟨v1, ?_, hv1⟩
          unfold valV
          simp [h1]
        · obtain ⟨v, e1, e2⟩ := found_val (List.cons.inj hk).2 hv2 k ((List.mem_cons.mp hm).resolve_left (fun z => e z.symm))
          refine ⟨v, ?_, e2⟩
          have ne : enc c ≠ enc k := fun z => e (by
            have z1 := (List.cons.inj z).1
            have z2 := (List.cons.inj (List.cons.inj z).2).1
            exact Prod.ext (Sum.inr.inj z1) (Sum.inl.inj z2))
          unfold valV at e1 ⊢
          simp [h1, ne]
          simpa using e1
theorem row_len {H G : Hp} {a : Addr} {kvs : List (List Key × V)} {ks : List (Str × Int)} {f : Str × Int → PyData} (fo : Found H G a kvs ks f) {k : Str × Int} (hk : k ∈ ks) : (row f k).length ≤ 10111 := by
  obtain ⟨c1, c2, c3, c4⟩ := fo.kind k hk
  obtain ⟨c5, c6, c7⟩ := fo.shows k hk
  have e3 := right3_len c3 (show k.2 < 1000000 by omega)
  have z0 : (Str.empty).length = 0 := rfl
  have z1 : sp1.length = 1 := by decide +kernel
  unfold row
  rw [Str.length_append, Str.length_append, Str.length_append, Str.length_append, Str.length_append]
  omega
theorem sum_le {n : Nat} : ∀ l : List Str, (∀ y ∈ l, y.length ≤ n) → (l.map (·.length)).sum ≤ l.length * n
  | [], _ => Nat.zero_le _
  | y :: r, h => by
    have h1 := h y List.mem_cons_self
    have h2 := sum_le r fun z hz => h z (List.mem_cons_of_mem _ hz)
    rw [List.map_cons, List.sum_cons, List.length_cons, Nat.add_mul]
    omega
theorem rows_size {H G : Hp} {a : Addr} {kvs : List (List Key × V)} {ks ks' : List (Str × Int)} {f : Str × Int → PyData} (fo : Found H G a kvs ks f) (hp : ks'.Perm ks) : ((ks'.map (row f)).map (·.length)).sum + (ks'.map (row f)).length * (Str.ofString "\n").length ≤ 16777216 := by
  have hl : ks'.length ≤ 6 := by
    rw [hp.length_eq]
    exact fo.few
  have h1 := sum_le (n := 10111) (ks'.map (row f)) fun y hy => by
    obtain ⟨k, hk, rfl⟩ := List.mem_map.mp hy
    exact row_len fo (hp.mem_iff.mp hk)
  have e1 : (Str.ofString "\n").length = 1 := by decide +kernel
  rw [e1]
  rw [List.length_map] at h1 ⊢
  omega
section
variable {P : Program} {w : World} {K : PySem.W.Frag} {mg : Str → Option Value} {base : Heap}
def spPage : Sp := fun vs H Q _ => ∃ (a : Addr) (G : Hp) (kvs : List (List Key × V)) (ks : List (Str × Int)) (f : Str × Int → PyData), vs = [.ref a] ∧ Found H G a kvs ks f ∧
  ∀ ks' H', Sorted ks' ks → Same H H' → Q (.str (Txt.join (Str.ofString "\n") (ks'.map (row f)))) H'
theorem ok_page {f : Addr} {fd : FuncData} (F : Fun K "survey_page" "survey_page" sPage f fd) (m_sorted : mg "sorted" = none) (m_list : mg "list" = none) (m_repr : mg "repr" = none) : FnOkG P w K mg base 3 f fd ["found"] spPage := by
  refine F.okG scPage (fun vs H Q E h => ?_) (fun cdv A outer s H vs Q E hgd hr h => ?_)
  · obtain ⟨a, G, kvs, ks, fn, rfl, _⟩ := h
    rfl
  · obtain ⟨a, G, kvs, ks, fn, rfl, fo, q⟩ := h
    have hu := hu_of hr
    refine ⟨_, pss_cons (ps_set (i := 1) scPage.nd rfl (.inl rfl) (pe_lst pa_nil))
      (pss_cons (ps_for PassesOwn.never rfl (pi_list (pe_callB cr_sortedSI (by rfl) m_sorted (by decide +kernel) (pa_cons (pe_callTy (call_list_dT (by rfl)) (by rfl) m_list (by decide +kernel) (pa_cons (pv 0) pa_nil)) pa_nil))) (pg_tup rfl (pgs_cons (pg_name (i := 2) scPage.nd rfl (.inl rfl)) (pgs_cons (pg_name (i := 3) scPage.nd rfl (.inl rfl)) pgs_nil)))
        (pss_cons (ps_set (i := 4) scPage.nd rfl (.inl rfl) (pe_callB (call_reprV hr hgd) (by rfl) m_repr (by decide +kernel) (pa_cons (pe_dget hu (pv 0) (pe_tup (pa_cons (pv 2) (pa_cons (pv 3) pa_nil))) (fun _ _ => rfl)) pa_nil)))
        (pss_one (ps_expr (pe_bm PySem.F.plainAttrs_list PySem.F.slot_list_append PySem.F.type_list_append mt_append (pv 1) (pa_cons (pe_joined (PJ.cons (pe_fmt3 (pv 3)) (PJ.cons pe_str (PJ.cons (pe_fmt8 (pv 2)) (PJ.cons pe_str (PJ.cons (pe_fmt (pv 4)) PJ.nil)))))) pa_nil))))))
      (pss_one (ps_ret (pe_join pe_str (pv 1))))), ?_⟩
    walk_at "rd"
    intro D nD
    have fa := fo.at_
    have nDa : D ≠ a := (ne_of_none fa nD).symm
    walk_at "rd"
    intro p1 bs np1 hbs
    have nD1 : D ≠ p1 := fun z => by
      rw [← z, upd_same] at np1
      cases np1
    have np0 : H p1 = none := by
      rw [upd_ne nD1.symm] at np1
      exact np1
    -- the keys' tuples
    obtain ⟨k1, k2⟩ := keys_map ks fo.keys hbs
    generalize hB : upd (upd H D (.lst [])) p1 (.lst (bs.map V.ref)) = B
    have sB : Same H B := fun b o e => by
      rw [← hB]
      exact upd_get (ne_of_none e np0) (upd_get (ne_of_none e nD) e)
    have BD : B D = some (.lst []) := by
      rw [← hB]
      exact upd_get nD1 upd_same
    have sD : Same (upd H D (.lst [])) B := fun b o e => by
      rw [← hB]
      exact upd_get (ne_of_none e np1) e
    refine ⟨p1, bs, kAt (upd H D (.lst [])), rfl, by rw [← hB]; exact .inl (.inl upd_same), fun b hb => sD _ _ (k2 b hb), fun bs' p2 hp hsort np2 => ?_⟩
    have srt : Sorted (bs'.map (kAt (upd H D (.lst [])))) ks := ⟨by rw [← k1]; exact hp.map _, List.pairwise_map.mpr hsort⟩
    generalize hks : bs'.map (kAt (upd H D (.lst []))) = ks' at srt
    have k3 : ∀ b ∈ bs', B b = some (.tup [.str (kAt (upd H D (.lst [])) b).1, .int (kAt (upd H D (.lst [])) b).2]) := fun b hb => sD _ _ (k2 b (hp.mem_iff.mp hb))
    have nD2 : D ≠ p2 := fun z => by
      rw [← z, BD] at np2
      cases np2
    refine ⟨p2, rfl, ⟨_, .inl (.inl upd_same)⟩, for_list (K := K) (a := p2) (xs := bs'.map V.ref) (fun i σ H1 => ∃ (rs : List Str) (y2 y3 y4 : Option V), σ = [some (.ref a), some (.ref D), y2, y3, y4] ∧ rs = (ks'.take i).map (row fn) ∧ H1 D = some (.lst (rs.map V.str)) ∧ Same (but (upd B p2 (.lst (bs'.map V.ref))) [D]) (but H1 [D]))
      ⟨[], _, _, _, rfl, by simp, upd_get nD2 BD, Same.refl _⟩ (fun i σ H1 _ z => ?_) ?_ ?_⟩
    · obtain ⟨rs, y2, y3, y4, _, _, _, sm⟩ := z
      exact .inl (.inl (but_le _ _ _ _ (sm _ _ (by rw [but_out (fun h => nD2.symm (List.mem_singleton.mp h))]; exact upd_same))))
    · rintro i x σ H1 hx ⟨rs, y2, y3, y4, rfl, hrs, hD1, sm⟩
      obtain ⟨b, hb, rfl⟩ : ∃ b, bs'[i]? = some b ∧ x = V.ref b := by
        rw [List.getElem?_map] at hx
        cases e : bs'[i]? with
        | none =>
          rw [e] at hx
          cases hx
        | some b =>
          rw [e] at hx
          exact ⟨b, rfl, (Option.some.inj hx).symm⟩
      have hbm := List.mem_of_getElem? hb
      have hB3 := k3 b hbm
      have hki : ks'[i]? = some (kAt (upd H D (.lst [])) b) := by
        rw [← hks, List.getElem?_map, hb]
        rfl
      generalize kAt (upd H D (.lst [])) b = k at hB3 hki
      have hkm : k ∈ ks := srt.1.mem_iff.mp (List.mem_of_getElem? hki)
      obtain ⟨v, hv1, hv2⟩ := found_val fo.keys fo.vals k hkm
      obtain ⟨c1, c2, c3, c4⟩ := fo.kind k hkm
      obtain ⟨c5, c6, c7⟩ := fo.shows k hkm
      have old : ∀ b o, B b = some o → b ≠ D → b ≠ p2 → H1 b = some o := fun b o e h1 h2 => but_le _ _ _ _ (sm b o (by
        rw [but_out (fun h => h1 (List.mem_singleton.mp h))]
        exact upd_get h2 e))
      have hb1 : H1 b = some (.tup [.str k.1, .int k.2]) := old _ _ hB3 (fun z => by rw [z, BD] at hB3; cases hB3) (fun z => by rw [z, np2] at hB3; cases hB3)
      have sH : Same H H1 := fun b o e => old b o (sB b o e) (ne_of_none e nD) (ne_of_none (sB b o e) np2)
      have ha1 := sH _ _ fa
      have sG := fo.le.trans sH
      refine ⟨b, _, rfl, .inl (.inl hb1), rfl, _, _, rfl, _, _, rfl, rfl, ?_⟩
      walk_at "rd"
      intro t nt
      have nDt : D ≠ t := ne_of_none hD1 nt
      have hat : upd H1 t (.tup [.str k.1, .int k.2]) a = some (.dT kvs) := upd_get (ne_of_none ha1 nt) ha1
      have hDt : upd H1 t (.tup [.str k.1, .int k.2]) D = some (.lst (rs.map V.str)) := upd_get nDt hD1
      have sT : Same H1 (upd H1 t (.tup [.str k.1, .int k.2])) := fun b o e => upd_get (ne_of_none e nt) e
      refine ⟨a, v, rfl, ?_, v, fn k, G, rfl, hv2, sG.trans sT, fo.big, c5, by omega, Nat.le_trans c7 (by decide), ?_⟩
      · rw [← hv1]
        exact DGet.t (k := enc k) hat upd_same
      have e3 := right3_len c3 (show k.2 < 1000000 by omega)
      have z0 : (Str.empty).length = 0 := rfl
      have z1 : (Str.ofString " ").length = 1 := by decide +kernel
      have l1 : (Str.empty ++ Fld.right3 k.2).length ≤ 9 := by
        rw [Str.length_append]
        omega
      have l2 : (Str.empty ++ Fld.right3 k.2 ++ Str.ofString " ").length ≤ 10 := by
        rw [Str.length_append]
        omega
      have l3 : (Str.empty ++ Fld.right3 k.2 ++ Str.ofString " " ++ Fld.left8 k.1).length ≤ 110 := by
        rw [Str.length_append]
        omega
      have l4 : (Str.empty ++ Fld.right3 k.2 ++ Str.ofString " " ++ Fld.left8 k.1 ++ Str.ofString " ").length ≤ 111 := by
        rw [Str.length_append]
        omega
      have l5 : (Str.empty ++ Fld.right3 k.2 ++ Str.ofString " " ++ Fld.left8 k.1 ++ Str.ofString " " ++ (fn k).shown).length ≤ 10111 := by
        rw [Str.length_append]
        omega
      have g1 := Nat.le_trans l1 (show 9 ≤ sizeLine by decide)
      have g2 := Nat.le_trans l2 (show 10 ≤ sizeLine by decide)
      have g3 := Nat.le_trans l3 (show 110 ≤ sizeLine by decide)
      have g4 := Nat.le_trans l4 (show 111 ≤ sizeLine by decide)
      have g5 := Nat.le_trans l5 (show 10111 ≤ sizeLine by decide)
      have g6 := Nat.le_trans c7 (show 10000 ≤ sizeLine by decide)
      refine ⟨_, rfl, tyV_lst hDt, _, rfl, _, rfl, c3, by omega, _, rfl, g1, _, rfl, g2, _, rfl, _, rfl, c1, c2, _, rfl, g3, _, rfl, g4, _, rfl, .inl ⟨_, rfl, g6, _, rfl, g5, ?_⟩⟩
      have hrl : rs.length ≤ ks'.length := by
        rw [hrs, List.length_map, List.length_take]
        exact Nat.min_le_right _ _
      have hkl : ks'.length = ks.length := srt.1.length_eq
      have few := fo.few
      refine ⟨D, _, _, rfl, rfl, hDt, by rw [List.length_map]; exact small1000 (by omega), rs ++ [row fn k], _, _, _, rfl, ?_, ?_, ?_⟩
      · rw [List.take_add_one, hki, List.map_append, hrs]
        rfl
      · rw [upd_same, List.map_append]
        rfl
      · rw [but_upd List.mem_cons_self]
        exact sm.trans (but_new nt)
    · rintro σ H1 ⟨rs, y2, y3, y4, rfl, hrs, hD1, sm⟩
      have hkl : ks'.length = ks.length := srt.1.length_eq
      have few := fo.few
      have el : (bs'.map V.ref).length = ks'.length := by
        rw [← hks, List.length_map, List.length_map]
      rw [el, List.take_length] at hrs
      refine ⟨⟨_, rfl⟩, _, rfl, _, D, rs, rfl, rfl, .inl (.inl (.inl hD1)), ?_, ?_⟩
      · rw [hrs]
        exact rows_size fo srt.1
      · rw [hrs]
        refine q ks' H1 srt fun b o e => ?_
        have h1 : b ≠ D := ne_of_none e nD
        exact but_le _ _ _ _ (sm b o (by
          rw [but_out (fun h => h1 (List.mem_singleton.mp h))]
          exact upd_get (ne_of_none (sB b o e) np2) (sB b o e)))
end
end K64

namespace K64
open PySem PySem.Spec PyProof.Rows L2
/-! ### the mathematics -/
theorem key_inj {b c : Str × Int} (h : SortSI.key b = SortSI.key c) : b = c := by
  have h1 := (List.cons.inj h).1
  have h2 := (List.cons.inj (List.cons.inj h).2).1
  have e1 : b.1.cps.toList = c.1.cps.toList := Sum.inr.inj h1
  refine Prod.ext ?_ (Sum.inl.inj h2)
  exact Str.ext' (Array.toList_inj.mp e1)
theorem sorted_uniq {l m ks : List (Str × Int)} (h1 : Sorted l ks) (h2 : Sorted m ks) : l = m := by
  refine List.Perm.eq_of_pairwise (le := fun b c => SortSI.ltK (SortSI.key c) (SortSI.key b) = false) (fun a b _ _ e1 e2 => ?_) h1.2 h2.2 (h1.1.trans h2.1.symm)
  exact key_inj ((listOrd itemOrd).total _ _ e2 e1)
/-- a key put into a found dict -/
def addK (ks : List (Str × Int)) (k : Str × Int) : List (Str × Int) := if k ∈ ks then ks else ks ++ [k]
def setF (f : Str × Int → PyData) (k : Str × Int) (d : PyData) : Str × Int → PyData := fun c => if c = k then d else f c
theorem enc_inj {b c : Str × Int} (h : enc b = enc c) : b = c := by
  have z1 := (List.cons.inj h).1
  have z2 := (List.cons.inj (List.cons.inj h).2).1
  exact Prod.ext (Sum.inr.inj z1) (Sum.inl.inj z2)
theorem put_map {G : Hp} {f : Str × Int → PyData} {k : Str × Int} {v : V} {d : PyData} (hd : Vd G v d) : ∀ {kvs : List (List Key × V)} {ks : List (Str × Int)}, kvs.map (·.1) = ks.map enc → VdAll G (kvs.map (·.2)) (ks.map f) →
    (kvs.map fun kv => if kv.1 = enc k then (kv.1, v) else kv).map (·.1) = ks.map enc ∧ VdAll G ((kvs.map fun kv => if kv.1 = enc k then (kv.1, v) else kv).map (·.2)) (ks.map (setF f k d))
  | [], ks, hk, hv => by
    cases ks with
    | nil => exact ⟨rfl, .nil⟩
    | cons c ks => cases hk
  | (k1, v1) :: kvs, ks, hk, hv => by
    cases ks with
    | nil => cases hk
    | cons c ks =>
      have h1 : k1 = enc c := (List.cons.inj hk).1
      cases hv with
      | cons hv1 hv2 =>
        obtain ⟨e1, e2⟩ := put_map (k := k) hd (List.cons.inj hk).2 hv2
        subst h1
        by_cases e : c = k
        · subst e
          refine ⟨by simp [e1], ?_⟩
          have z : setF f c d c = d := if_pos rfl
          simp only [List.map_cons, if_true, z]
          exact .cons hd e2
        · have ne : ¬ enc c = enc k := fun z => e (enc_inj z)
          refine ⟨by simp [e1, ne], ?_⟩
          have z : setF f k d c = f c := if_neg e
          simp only [List.map_cons, if_neg ne, z]
          exact .cons hv1 e2
theorem setF_out {f : Str × Int → PyData} {k : Str × Int} {d : PyData} {ks : List (Str × Int)} (h : k ∉ ks) : ks.map (setF f k d) = ks.map f := List.map_congr_left fun c hc => if_neg fun (e : c = k) => h (e ▸ hc)
theorem VdAll.length {G : Hp} : ∀ {vs : List V} {ds : List PyData}, VdAll G vs ds → vs.length = ds.length
  | _, _, .nil => rfl
  | _, _, .cons _ a => by rw [List.length_cons, List.length_cons, VdAll.length a]
theorem put_found {G : Hp} {f : Str × Int → PyData} {k : Str × Int} {v : V} {d : PyData} {kvs : List (List Key × V)} {ks : List (Str × Int)} (hd : Vd G v d) (hk : kvs.map (·.1) = ks.map enc) (hv : VdAll G (kvs.map (·.2)) (ks.map f)) :
    (putK kvs (enc k) v).map (·.1) = (addK ks k).map enc ∧ VdAll G ((putK kvs (enc k) v).map (·.2)) ((addK ks k).map (setF f k d)) := by
  have hany : (kvs.any fun kv => decide (kv.1 = enc k)) = decide (k ∈ ks) := by
    rw [Bool.eq_iff_iff, List.any_eq_true, decide_eq_true_eq]
    constructor
    · rintro ⟨kv, hm, e⟩
      have e := of_decide_eq_true e
      have : kv.1 ∈ ks.map enc := by
        rw [← hk]
        exact List.mem_map.mpr ⟨kv, hm, rfl⟩
      obtain ⟨c, hc, ec⟩ := List.mem_map.mp this
      rw [e] at ec
      exact enc_inj ec ▸ hc
    · intro hm
      have : enc k ∈ kvs.map (·.1) := by
        rw [hk]
        exact List.mem_map.mpr ⟨k, hm, rfl⟩
      obtain ⟨kv, hm, e⟩ := List.mem_map.mp this
      exact ⟨kv, hm, decide_eq_true e⟩
  unfold putK addK
  rw [hany]
  by_cases h : k ∈ ks
  · rw [if_pos (decide_eq_true h), if_pos h]
    exact put_map hd hk hv
  · rw [if_neg (by rw [decide_eq_false h]; decide), if_neg h, List.map_append, List.map_append, List.map_append, List.map_append, hk, setF_out h]
    refine ⟨rfl, ?_⟩
    have z : setF f k d k = d := if_pos rfl
    show VdAll G (kvs.map (·.2) ++ [v]) (ks.map f ++ [setF f k d k])
    rw [z]
    exact VdAll.snoc hd hv
theorem addK_nd {ks : List (Str × Int)} {k : Str × Int} (h : ks.Nodup) : (addK ks k).Nodup := by
  unfold addK
  by_cases hk : k ∈ ks
  · rw [if_pos hk]
    exact h
  · rw [if_neg hk]
    exact List.nodup_append.mpr ⟨h, List.pairwise_singleton _ k, fun a ha b hb e => hk (by rw [List.mem_singleton.mp hb] at e; exact e ▸ ha)⟩
theorem addK_mem {ks : List (Str × Int)} {k c : Str × Int} (h : c ∈ addK ks k) : c ∈ ks ∨ c = k := by
  unfold addK at h
  by_cases hk : k ∈ ks
  · rw [if_pos hk] at h
    exact .inl h
  · rw [if_neg hk] at h
    rcases List.mem_append.mp h with h | h
    · exact .inl h
    · exact .inr (List.mem_singleton.mp h)
theorem addK_len (ks : List (Str × Int)) (k : Str × Int) : (addK ks k).length ≤ ks.length + 1 := by
  unfold addK
  by_cases hk : k ∈ ks
  · rw [if_pos hk]
    omega
  · rw [if_neg hk, List.length_append]
    exact Nat.le_refl _
/-! ### what is shown is short -/
theorem low_repr {x : Str} (h : Low x) : (reprText x).length ≤ 10 * x.length + 2 := StrLaws.reprText_len x fun c hc => Nat.lt_of_le_of_lt (h c hc).2 (by decide)
theorem piled_le {n : Nat} : ∀ ts : List Str, (∀ t ∈ ts, t.length ≤ n) → piled ts ≤ ts.length * (n + 2)
  | [], _ => Nat.zero_le _
  | t :: r, h => by
    have h1 := h t List.mem_cons_self
    have h2 := piled_le r fun z hz => h z (List.mem_cons_of_mem _ hz)
    rw [piled_cons, List.length_cons, Nat.add_mul]
    omega
theorem listText_len (ts : List Str) : (listText ts).length ≤ piled ts + 2 := by
  have hx : ∀ (ts : List Str) (k : Nat) (acc : Str), (textFrom k acc ts).length ≤ acc.length + piled ts := by
    intro ts
    induction ts with
    | nil => intro k acc; exact Nat.le_add_right _ _
    | cons t r ih =>
      intro k acc
      rw [piled_cons]
      have z1 := ih (k + 1) (acc ++ Str.ofString (if k > 0 then ", " else "") ++ t)
      have z2 : (acc ++ Str.ofString (if k > 0 then ", " else "") ++ t).length ≤ acc.length + 2 + t.length := by
        rw [Str.length_append, Str.length_append]
        have h1 : (Str.ofString ", ").length = 2 := by decide +kernel
        have h2 : (Str.ofString "").length = 0 := by decide +kernel
        split <;> omega
      have z3 : (textFrom k acc (t :: r)).length = (textFrom (k + 1) (acc ++ Str.ofString (if k > 0 then ", " else "") ++ t) r).length := by
        first | rfl | (rw [textFrom])
      omega
  unfold listText
  rw [Str.length_append]
  have := hx ts 0 "["
  have e1 : (Str.ofString "[").length = 1 := by decide +kernel
  have e2 : (Str.ofString "]").length = 1 := by decide +kernel
  omega
theorem shownAll_mem {ds : List PyData} {t : Str} (h : t ∈ PyData.shownAll ds) : ∃ d ∈ ds, t = d.shown := by
  induction ds with
  | nil => exact absurd h List.not_mem_nil
  | cons d r ih =>
    rcases List.mem_cons.mp h with h | h
    · exact ⟨d, List.mem_cons_self, h⟩
    · obtain ⟨e, he, ht⟩ := ih h
      exact ⟨e, List.mem_cons_of_mem _ he, ht⟩
theorem shownAll_len (ds : List PyData) : (PyData.shownAll ds).length = ds.length := by
  induction ds with
  | nil => rfl
  | cons d r ih => show (PyData.shownAll r).length + 1 = r.length + 1; rw [ih]
def most : Nat → Nat
  | 0 => 100
  | n + 1 => 3 * (most n + 2) + 2
theorem most_ge : ∀ n, 100 ≤ most n
  | 0 => Nat.le_refl _
  | n + 1 => by have := most_ge n; show 100 ≤ 3 * (most n + 2) + 2; omega
theorem val_shows : ∀ (n : Nat) (d : PyData), ValOk n d → d.showable = true ∧ d.depth ≤ n ∧ d.shown.length ≤ most n := by
  intro n d h
  induction h with
  | @non n =>
    refine ⟨rfl, Nat.zero_le _, ?_⟩
    have e : (Str.ofString "None").length = 4 := by decide +kernel
    have := most_ge n
    show (Str.ofString "None").length ≤ _
    omega
  | @str n x h1 h2 =>
    refine ⟨rfl, Nat.zero_le _, ?_⟩
    have := low_repr h1
    have := most_ge n
    show (reprText x).length ≤ _
    omega
  | @lst n ds h1 h2 ih =>
    have e1 : PyData.showableAll ds = true ∧ PyData.depthAll ds ≤ n := by
      clear h1 h2
      induction ds with
      | nil => exact ⟨rfl, Nat.zero_le _⟩
      | cons d r ihr =>
        obtain ⟨a1, a2⟩ := ihr fun d hd => ih d (List.mem_cons_of_mem _ hd)
        obtain ⟨b1, b2, _⟩ := ih d List.mem_cons_self
        refine ⟨?_, ?_⟩
        · show (d.showable && PyData.showableAll r) = true
          rw [a1, b1]
          rfl
        · show max d.depth (PyData.depthAll r) ≤ n
          omega
    refine ⟨e1.1, Nat.succ_le_succ e1.2, ?_⟩
    show (listText (PyData.shownAll ds)).length ≤ 3 * (most n + 2) + 2
    have z1 := listText_len (PyData.shownAll ds)
    have z2 := piled_le (n := most n) (PyData.shownAll ds) fun t ht => by
      obtain ⟨d, hd, rfl⟩ := shownAll_mem ht
      exact (ih d hd).2.2
    rw [shownAll_len] at z2
    have z3 : ds.length * (most n + 2) ≤ 3 * (most n + 2) := Nat.mul_le_mul_right _ h1
    omega
end K64

namespace K64
open PySem PySem.Spec PyProof.Rows L2
def kinds5 : List Str := [Str.ofString "slip", Str.ofString "letter", Str.ofString "fail", Str.ofString "refuse", Str.ofString "endless"]
theorem kinds_ok : ∀ x ∈ kinds5, x.length < 8 ∧ (Fld.left8 x).length ≤ 100 ∧ (∀ c ∈ x.cps.toList, 97 ≤ c ∧ c ≤ 122) ∧ 1 ≤ x.length := by
  decide +kernel
theorem digits_few {i : Int} (h0 : 0 ≤ i) (h1 : i < 10000) : (Nat.toDigits 10 i.natAbs).length ≤ 4 := by
  have hlt : i.natAbs < 10 ^ 4 := by omega
  have e := (Nat.length_repr_le_iff (n := i.natAbs) (by decide : 0 < 4)).mpr hlt
  rwa [← String.length_toList, Nat.toList_repr] at e
theorem text_int {i : Int} (h0 : 0 ≤ i) : Str.ofString (toString i) = ⟨((Nat.toDigits 10 i.natAbs).map Char.toNat).toArray⟩ := by
  obtain ⟨m, rfl⟩ := Int.eq_ofNat_of_zero_le h0
  exact PyProof.Rows.text_ofNat m
theorem int_len {i : Int} (h0 : 0 ≤ i) (h1 : i < 10000) : (Str.ofString (toString i)).length ≤ 4 := by
  rw [text_int h0]
  show (((Nat.toDigits 10 i.natAbs).map Char.toNat).toArray).size ≤ 4
  have := digits_few h0 h1
  simpa using this
/-! ### the whole dict as it is shown -/
abbrev dicD (ks : List (Str × Int)) (f : Str × Int → PyData) : PyData := .dict ((ks.map fun k => PyData.tuple [.str k.1, .int k.2]).zip (ks.map f))
theorem join_le : ∀ ts : List Str, (Str.join ", " ts).length ≤ piled ts
  | [] => Nat.zero_le _
  | t :: r => by
    have := join_length_add (t :: r) (List.cons_ne_nil _ _)
    omega
theorem dic_shows {ks : List (Str × Int)} {f : Str × Int → PyData} (hk : ∀ k ∈ ks, k.1 ∈ kinds5 ∧ 0 ≤ k.2 ∧ k.2 < 10000) (hf : ∀ k ∈ ks, (f k).showable = true ∧ (f k).depth ≤ 3 ∧ (f k).shown.length ≤ 10000) (few : ks.length ≤ 6) :
    (dicD ks f).showable = true ∧ (dicD ks f).depth ≤ 30 ∧ (dicD ks f).shown.length ≤ sizeLine := by
  have main : ∀ ks : List (Str × Int), (∀ k ∈ ks, k.1 ∈ kinds5 ∧ 0 ≤ k.2 ∧ k.2 < 10000) → (∀ k ∈ ks, (f k).showable = true ∧ (f k).depth ≤ 3 ∧ (f k).shown.length ≤ 10000) →
      PyData.showableKv ((ks.map fun k => PyData.tuple [.str k.1, .int k.2]).zip (ks.map f)) = true ∧ PyData.depthKv ((ks.map fun k => PyData.tuple [.str k.1, .int k.2]).zip (ks.map f)) ≤ 3 ∧
        piled (PyData.shownKv ((ks.map fun k => PyData.tuple [.str k.1, .int k.2]).zip (ks.map f))) ≤ ks.length * 11000 := by
    intro ks
    induction ks with
    | nil => intro _ _; exact ⟨rfl, Nat.zero_le _, Nat.zero_le _⟩
    | cons k r ih =>
      intro hk hf
      obtain ⟨a1, a2, a3⟩ := ih (fun c hc => hk c (List.mem_cons_of_mem _ hc)) fun c hc => hf c (List.mem_cons_of_mem _ hc)
      obtain ⟨b1, b2, b3⟩ := hk k List.mem_cons_self
      obtain ⟨c1, c2, c3⟩ := hf k List.mem_cons_self
      obtain ⟨d1, _, d2, _⟩ := kinds_ok _ b1
      have e1 : (PyData.tuple [.str k.1, .int k.2]).showable = true := by
        show (true && (decide (k.2.natAbs.log2 < 1920) && true)) = true
        have : k.2.natAbs.log2 < 1920 := by
          by_cases z : k.2.natAbs = 0
          · rw [z]
            decide +kernel
          · rw [Nat.log2_lt z]
            exact Nat.lt_of_lt_of_le (show k.2.natAbs < 2 ^ 20 by omega) (Nat.pow_le_pow_right (by decide) (by decide))
        rw [decide_eq_true this]
        rfl
      have e2 : (PyData.tuple [.str k.1, .int k.2]).shown.length ≤ 200 := by
        show (tupleText [reprText k.1, Str.ofString (toString k.2)]).length ≤ 200
        have z1 := fmt_text [reprText k.1, Str.ofString (toString k.2)]
        have z2 := low_repr (x := k.1) d2
        have z3 := int_len b2 b3
        rw [piled_cons, piled_cons, piled_nil] at z1
        omega
      rw [List.map_cons, List.map_cons, List.zip_cons_cons]
      generalize (r.map fun k => PyData.tuple [.str k.1, .int k.2]).zip (r.map f) = zs at a1 a2 a3 ⊢
      refine ⟨?_, ?_, ?_⟩
      · show ((PyData.tuple [.str k.1, .int k.2]).showable && (f k).showable && PyData.showableKv zs) = true
        rw [e1, c1, a1]
        rfl
      · show max (max (max 0 (max 0 0) + 1) (f k).depth) (PyData.depthKv zs) ≤ 3
        omega
      · show piled (((PyData.tuple [.str k.1, .int k.2]).shown ++ ": " ++ (f k).shown) :: PyData.shownKv zs) ≤ (r.length + 1) * 11000
        rw [piled_cons, Str.length_append, Str.length_append]
        have z : (Str.ofString ": ").length = 2 := by decide +kernel
        omega
  obtain ⟨a1, a2, a3⟩ := main ks hk hf
  refine ⟨a1, ?_, ?_⟩
  · show PyData.depthKv _ + 1 ≤ 30
    omega
  · show (dictText _).length ≤ sizeLine
    have z : (dictText (PyData.shownKv ((ks.map fun k => PyData.tuple [.str k.1, .int k.2]).zip (ks.map f)))).length ≤ 2 + piled (PyData.shownKv ((ks.map fun k => PyData.tuple [.str k.1, .int k.2]).zip (ks.map f))) := by
      unfold dictText
      rw [Str.length_append, Str.length_append]
      have z1 : (Str.ofString "{").length = 1 := by decide +kernel
      have z2 : (Str.ofString "}").length = 1 := by decide +kernel
      have := join_le (PyData.shownKv ((ks.map fun k => PyData.tuple [.str k.1, .int k.2]).zip (ks.map f)))
      omega
    have : sizeLine = 16777216 := sizeLine_eq
    have : ks.length * 11000 ≤ 66000 := by omega
    omega
/-! ### a row as the law writes it -/
theorem mul_sp (n : Int) : Txt.mul (Str.ofString " ") n = ⟨(List.replicate n.toNat 32).toArray⟩ := by
  unfold Txt.mul
  by_cases h1 : n < 1
  · rw [if_pos h1, show n.toNat = 0 by omega]
    rfl
  · rw [if_neg h1]
    have hl : (Str.ofString " ").length = 1 := by decide +kernel
    by_cases h2 : n = 1
    · rw [if_pos (by rw [h2, hl]; rfl), h2]
      decide +kernel
    · rw [if_neg (by rw [hl]; simp [h2])]
      have hs : (Str.ofString " ").cps = #[32] := by decide +kernel
      rw [hs]
      have gen : ∀ (m : Nat) (acc : Array Nat), (List.replicate m (#[32] : Array Nat)).foldl (· ++ ·) acc = acc ++ (List.replicate m 32).toArray := by
        intro m
        induction m with
        | zero => intro acc; simp
        | succ m ih =>
          intro acc
          rw [List.replicate_succ, List.foldl_cons, ih, List.replicate_succ]
          apply Array.toList_inj.mp
          simp
      rw [gen]
      simp
theorem law_row {f : Str × Int → PyData} {k : Str × Int} (h0 : 0 ≤ k.2) (hx : k.1.length < 8) :
    Txt.mul (Str.ofString " ") (3 - ((Str.ofString (toString k.2)).length : Int)) ++ Str.ofString (toString k.2) ++ Str.ofString " " ++ k.1 ++ Txt.mul (Str.ofString " ") (9 - (k.1.length : Int)) ++ (f k).shown = row f k := by
  rw [mul_sp, mul_sp, text_int h0]
  unfold row Fld.right3 Fld.left8 Builtin.Str.padded
  have hs : sp1.cps = #[32] := by decide +kernel
  have hs2 : (Str.ofString " ").cps = #[32] := by decide +kernel
  refine Str.ext' ?_
  simp only [Str.cps_append, hs, hs2, Str.empty]
  have e1 : (3 - ((({ cps := ((Nat.toDigits 10 k.2.natAbs).map Char.toNat).toArray } : Str).length : Nat) : Int)).toNat = 3 - (Nat.toDigits 10 k.2.natAbs).length := by
    have : ({ cps := ((Nat.toDigits 10 k.2.natAbs).map Char.toNat).toArray } : Str).length = (Nat.toDigits 10 k.2.natAbs).length := by
      show (((Nat.toDigits 10 k.2.natAbs).map Char.toNat).toArray).size = _
      simp
    rw [this]
    omega
  have e2 : (9 - (k.1.length : Int)).toNat = (8 - k.1.length) + 1 := by omega
  rw [e1, e2]
  apply Array.toList_inj.mp
  simp [List.replicate_succ']
end K64

namespace K64
open PySem PySem.Spec PyProof.Rows L2
local macro_rules | `(tactic| walk_at "ne") => `(tactic| first | assumption | (apply Ne.symm; assumption))
local macro_rules | `(tactic| walk_at "hp") => `(tactic| first | assumption | exact upd_same | (refine upd_get ?_ ?_ <;> first | walk_at "ne" | walk_at "hp"))
local macro_rules | `(tactic| walk_at "cl") => `(tactic| first | rfl | assumption | omega | decide | exact Nat.le_of_ble_eq_true rfl | exact ⟨_, rfl⟩ | walk_at "hp" | (refine Or.inl (Or.inl ?_); walk_at "hp") | (refine ⟨?_, ?_⟩ <;> omega) | (refine Or.inl ⟨?_, ?_⟩ <;> omega) | (refine Or.inr ⟨?_, ?_⟩ <;> first | decide | omega) | (refine ⟨?_, ?_, ?_⟩ <;> omega) | (apply Or.inl; assumption) | (apply Or.inl; refine Or.inl (Or.inl ?_); walk_at "hp") | (apply tyV_lst; walk_at "hp") | (apply Rd.of; walk_at "hp"))
local macro_rules | `(tactic| walk_at "rd1") => `(tactic| first
  | apply Exists.intro (α := V)
  | apply Exists.intro (α := Int)
  | apply Exists.intro (α := Addr)
  | apply Exists.intro (α := Str)
  | apply Exists.intro (α := List V)
  | apply Exists.intro (α := Bool)
  | apply Exists.intro (α := List Int)
  | apply Exists.intro (α := List (List Key × V))
  | (apply And.intro; · walk_at "cl")
  | (apply Or.inl; apply Exists.intro (α := Int); apply And.intro; · rfl))
local macro_rules | `(tactic| walk_at "rd") => `(tactic| (repeat (walk_at "rd1")))
section
variable {P : Program} {w : World} {K : PySem.W.Frag} {mg : Str → Option Value} {base : Heap}
def spLaw (K : PySem.W.Frag) : Sp := fun vs H Q _ => ∃ (a : Addr) (ns : List Int), vs = [.ref a] ∧ SqL K H a (ns.map V.int) ∧ ns.length ≤ 63 ∧ ∀ H', Q (.bl true) H'
/-- the module's names and defs -/
structure Env64 (K : PySem.W.Frag) (mg : Str → Option Value) (fTake fBag fOf fText fValue fPage : Addr) (fdTake fdBag fdOf fdText fdValue fdPage : FuncData) : Prop where
  FTake : Fun K "_law_take" "_law_take" sTake fTake fdTake
  FBag : Fun K "_law_bag" "_law_bag" sBag fBag fdBag
  FOf : Fun K "_law_of" "_law_of" sOf fOf fdOf
  FText : Fun K "_law_text" "_law_text" sText fText fdText
  FValue : Fun K "_law_value" "_law_value" sValue fValue fdValue
  FPage : Fun K "survey_page" "survey_page" sPage fPage fdPage
  gTake : mg "_law_take" = some (.ref fTake)
  gBag : mg "_law_bag" = some (.ref fBag)
  gOf : mg "_law_of" = some (.ref fOf)
  gText : mg "_law_text" = some (.ref fText)
  gValue : mg "_law_value" = some (.ref fValue)
  gPage : mg "survey_page" = some (.ref fPage)
  m_int : mg "int" = none
  m_len : mg "len" = none
  m_abs : mg "abs" = none
  m_range : mg "range" = none
  m_max : mg "max" = none
  m_min : mg "min" = none
  m_repr : mg "repr" = none
  m_sorted : mg "sorted" = none
  m_list : mg "list" = none
  m_str : mg "str" = none
theorem ok_law {f fTake fBag fOf fText fValue fPage : Addr} {fd fdTake fdBag fdOf fdText fdValue fdPage : FuncData} (F : Fun K "law" "law" sLaw f fd) (T : Env64 K mg fTake fBag fOf fText fValue fPage fdTake fdBag fdOf fdText fdValue fdPage)
    (bTake : Binds K fdTake ["_law_bag_here", "_law_many"] []) (bBag : Binds K fdBag ["_law_script", "_law_at"] []) (bText : Binds K fdText ["_law_bag_here", "_law_many"] []) (bOf : Binds K fdOf ["_law_bag_here", "_law_some"] []) (bValue : Binds K fdValue ["_law_bag_here", "_law_deep", "_law_room", "_law_wanted"] []) (bPage : Binds K fdPage ["found"] []) :
    FnOkG P w K mg base 6 f fd ["_law_script"] (spLaw K) := by
  obtain ⟨FTake, FBag, FOf, FText, FValue, FPage, gTake, gBag, gOf, gText, gValue, gPage, m_int, m_len, m_abs, m_range, m_max, m_min, m_repr, m_sorted, m_list, m_str⟩ := T
  have GTake : FnOk P w K mg base CX0 1 fTake fdTake _ spTake := ok_take FTake m_int
  have GBag : FnOk P w K mg base CX0 1 fBag fdBag _ (spBag K) := ok_bag FBag m_int m_len m_abs
  have GText : FnOk P w K mg base CX0 2 fText fdText _ spText := ok_text FText FTake bTake gTake m_int m_range
  have GOf : FnOk P w K mg base CX0 2 fOf fdOf _ (spOf K) := ok_of FOf FTake bTake gTake m_int m_len
  have V0 : FnOk P w K mg base CX0 3 fValue fdValue _ (spValue K 0) := ok_value FValue FTake FText FOf bTake bText bOf bValue gTake gText gOf gValue m_int m_range m_len 0 ⟨fun _ _ _ _ h => h.elim, fun _ _ _ _ _ _ _ _ _ _ _ _ _ h => h.elim⟩
  have V1 : FnOk P w K mg base CX0 4 fValue fdValue _ (spValue K 1) := ok_value FValue FTake FText FOf bTake bText bOf bValue gTake gText gOf gValue m_int m_range m_len 1 V0
  have GValue : FnOk P w K mg base CX0 5 fValue fdValue _ (spValue K 2) := ok_value FValue FTake FText FOf bTake bText bOf bValue gTake gText gOf gValue m_int m_range m_len 2 V1
  have GPage : FnOkG P w K mg base 3 fPage fdPage _ spPage := ok_page FPage m_sorted m_list m_repr
  refine F.okG scLaw (fun vs H Q E h => ?_) (fun cdv A outer s H vs Q E hgd hr h => ?_)
  · obtain ⟨a, ns, rfl, _⟩ := h
    rfl
  · obtain ⟨a, ns, rfl, hS, hlen, q⟩ := h
    have hu := hu_of hr
    refine ⟨_, pss_cons (ps_set (i := 1) scLaw.nd rfl (.inl rfl) (pe_lst (pa_cons pe_str (pa_cons pe_str (pa_cons pe_str (pa_cons pe_str (pa_cons pe_str pa_nil)))))))
      (pss_cons (ps_for PassesOwn.never rfl (pi_range1 (by rfl) m_range (pa_cons (pe_callB (call_max2 rfl) (by rfl) m_max (by decide +kernel) (pa_cons pe_int (pa_cons (pe_callB (call_min2 rfl) (by rfl) m_min (by decide +kernel) (pa_cons pe_int (pa_cons (pe_callB call_len_seq (by rfl) m_len (by decide +kernel) (pa_cons (pv 0) pa_nil)) pa_nil))) pa_nil))) pa_nil)) (pg_name (i := 2) scLaw.nd rfl (.inl rfl))
        (pss_cons (ps_set (i := 3) scLaw.nd rfl (.inl rfl) (pe_call GBag (hr.mono (by omega)) (by rfl) gBag FBag.kp bBag .nil pass0 (pa_cons (pv 0) (pa_cons (pv 2) pa_nil))))
        (pss_cons (ps_set (i := 4) scLaw.nd rfl (.inl rfl) pe_dnewT)
        (pss_cons (ps_for PassesOwn.never rfl (pi_range1 (by rfl) m_range (pa_cons (pe_call GTake (hr.mono (by omega)) (by rfl) gTake FTake.kp bTake .nil pass0 (pa_cons (pv 3) (pa_cons pe_int pa_nil))) pa_nil)) (pg_name (i := 5) scLaw.nd rfl (.inl rfl))
          (pss_cons (ps_set (i := 6) scLaw.nd rfl (.inl rfl) (pe_call GTake (hr.mono (by omega)) (by rfl) gTake FTake.kp bTake .nil pass0 (pa_cons (pv 3) (pa_cons (pe_call GOf (hr.mono (by omega)) (by rfl) gOf FOf.kp bOf .nil pass0 (pa_cons (pv 3) (pa_cons (pe_lst (pa_cons pe_int (pa_cons pe_int (pa_cons pe_int (pa_cons pe_int pa_nil))))) pa_nil))) pa_nil))))
          (pss_one (ps_dput hu (pv 4) (pe_tup (pa_cons (pe_call GOf (hr.mono (by omega)) (by rfl) gOf FOf.kp bOf .nil pass0 (pa_cons (pv 3) (pa_cons (pv 1) pa_nil))) (pa_cons (pv 6) pa_nil))) (pe_call GValue hr (by rfl) gValue FValue.kp bValue .nil pass0 (pa_cons (pv 3) (pa_cons pe_int (pa_cons (pe_lst (pa_cons pe_int pa_nil)) (pa_cons pe_str pa_nil))))) rfl))))
        (pss_cons (ps_par (i := 7) (j := 8) (by rfl) scLaw.nd rfl rfl (by decide) rfl rfl (pa_cons (pe_callB (call_reprD hr hgd) (by rfl) m_repr (by decide +kernel) (pa_cons (pv 4) pa_nil)) (pa_cons (pe_lst pa_nil) pa_nil)) (by rfl))
        (pss_cons (ps_for PassesOwn.never rfl (pi_list (pe_callB cr_sortedSI (by rfl) m_sorted (by decide +kernel) (pa_cons (pe_callTy (call_list_dT (by rfl)) (by rfl) m_list (by decide +kernel) (pa_cons (pv 4) pa_nil)) pa_nil))) (pg_tup rfl (pgs_cons (pg_name (i := 9) scLaw.nd rfl (.inl rfl)) (pgs_cons (pg_name (i := 6) scLaw.nd rfl (.inl rfl)) pgs_nil)))
          (pss_cons (ps_set (i := 10) scLaw.nd rfl (.inl rfl) (pe_callTy call_str_int (by rfl) m_str (by decide +kernel) (pa_cons (pv 6) pa_nil)))
          (pss_cons (ps_set (i := 10) scLaw.nd rfl (.inl rfl) (pe_op op_add_str (pe_op op_add_str (pe_op op_mul_str pe_str (pe_op op_sub pe_int (pe_callB call_len_str (by rfl) m_len (by decide +kernel) (pa_cons (pv 10) pa_nil)))) (pv 10)) pe_str))
          (pss_one (ps_expr (pe_bm PySem.F.plainAttrs_list PySem.F.slot_list_append PySem.F.type_list_append mt_append (pv 8) (pa_cons (pe_op op_add_str (pe_op op_add_str (pe_op op_add_str (pv 10) (pv 9)) (pe_op op_mul_str pe_str (pe_op op_sub pe_int (pe_callB call_len_str (by rfl) m_len (by decide +kernel) (pa_cons (pv 9) pa_nil))))) (pe_callB (call_reprV hr hgd) (by rfl) m_repr (by decide +kernel) (pa_cons (pe_dget hu (pv 4) (pe_tup (pa_cons (pv 9) (pa_cons (pv 6) pa_nil))) (fun _ _ => rfl)) pa_nil))) pa_nil)))))))
        (pss_one (ps_if (PW.pt (pw_or (pt_cmpR op_ne (pe_callG GPage hgd (hr.mono (by omega)) (by rfl) gPage FPage.kp bPage (pa_cons (pv 4) pa_nil)) (pe_join pe_str (pv 8)) (nomark _)) (pw_or1 (pt_cmpR op_ne (pe_callB (call_reprD hr hgd) (by rfl) m_repr (by decide +kernel) (pa_cons (pv 4) pa_nil)) (pv 7) (nomark _)))))
          (pss_one (ps_ret pe_bl))
          pss_nil))))))))
      (pss_one (ps_ret (pe_cmpR op_eq (pe_callG GPage hgd (hr.mono (by omega)) (by rfl) gPage FPage.kp bPage (pa_cons pe_dnewT pa_nil)) pe_str (nomark _))))), ?_⟩
    walk_at "rd"
    intro L nL
    have sL : Same H (upd H L (.lst (kinds5.map V.str))) := fun b o e => upd_get (ne_of_none e nL) e
    have hS1 := sL.seq hS
    walk_at "rd"
    refine for_range (lo := 0) (n := _) (fun i σ H1 => ∃ (y2 y3 y4 y5 y6 y7 y8 y9 y10 : Option V), σ = [some (.ref a), some (.ref L), y2, y3, y4, y5, y6, y7, y8, y9, y10] ∧ Same (upd H L (.lst (kinds5.map V.str))) H1)
      ⟨_, _, _, _, _, _, _, _, _, rfl, Same.refl _⟩ ?_ ?_
    · rintro i σ H1 hi ⟨y2, y3, y4, y5, y6, y7, y8, y9, y10, rfl, sm1⟩
      have hi3 : (i : Int) ≤ 3 := by omega
      have hS2 := sm1.seq hS1
      have hL1 : H1 L = some (.lst (kinds5.map V.str)) := sm1 _ _ upd_same
      walk_at "rd"
      intro p av bv np ok0
      have nLp : L ≠ p := ne_of_none hL1 np
      walk_at "rd"
      intro F nF
      have nFp : F ≠ p := fun z => by
        rw [z, upd_same] at nF
        cases nF
      have nF1 : H1 F = none := by
        rw [upd_ne nFp] at nF
        exact nF
      have nLF : L ≠ F := ne_of_none hL1 nF1
      have nFp' := nFp.symm
      walk_at "rd"
      intro many a1 c1 m0 m1 ok1 hc1
      generalize hB : upd (upd (upd H1 p (.lst [.int av, .int bv, .int 0])) F (.dT [])) p (.lst [.int a1, .int bv, .int c1]) = B
      have Bp : B p = some (.lst [.int a1, .int bv, .int c1]) := by
        rw [← hB, upd_same]
      have BF : B F = some (.dT []) := by
        rw [← hB]
        exact upd_get nFp upd_same
      have sB : Same H1 B := fun b o e => by
        rw [← hB]
        have h1 := ne_of_none e np
        exact upd_get h1 (upd_get (ne_of_none e nF1) (upd_get h1 e))
      walk_at "rd"
      refine for_range (lo := 0) (n := many.toNat) (fun j σ H2 => ∃ (kvs : List (List Key × V)) (ks : List (Str × Int)) (fn : Str × Int → PyData) (a2 c2 : Int) (y5 y6 : Option V), σ = [some (.ref a), some (.ref L), some (.int (0 + (i : Int))), some (.ref p), some (.ref F), y5, y6, y7, y8, y9, y10] ∧
          BagOk a2 bv c2 ∧ c2 ≤ 1 + j * 200 ∧ H2 p = some (.lst [.int a2, .int bv, .int c2]) ∧ H2 F = some (.dT kvs) ∧ kvs.map (·.1) = ks.map enc ∧ ks.Nodup ∧ VdAll (nu B H2) (kvs.map (·.2)) (ks.map fn) ∧
          (∀ k ∈ ks, k.1 ∈ kinds5 ∧ 0 ≤ k.2 ∧ k.2 < 10000) ∧ (∀ k ∈ ks, ValOk 2 (fn k)) ∧ ks.length ≤ j ∧ Same H1 H2 ∧ ∀ y, H2 y = none → B y = none)
        ⟨[], [], fun _ => .none, a1, c1, _, _, rfl, ok1, by omega, Bp, BF, rfl, List.nodup_nil, .nil, fun _ h => absurd h List.not_mem_nil, fun _ h => absurd h List.not_mem_nil, Nat.le_refl _, sB, fun _ h => h⟩ ?_ ?_
      · rintro j σ H2 hj ⟨kvs, ks, fn, a2, c2, z5, z6, rfl, ok2, hc2, hp2, hF2, hkv, hnd, hva, hkd, hvo, hkl, sm2, dom⟩
        walk_at "rd"
        intro l nl
        have nlp : l ≠ p := (ne_of_none hp2 nl).symm
        walk_at "rd"
        intro v a3 c3 hv ok3 hc3
        obtain ⟨m, rfl, hm0, hm1⟩ : ∃ m : Int, v = .int m ∧ 1 ≤ m ∧ m ≤ 10000 := by
          simp only [List.mem_cons, List.not_mem_nil, or_false] at hv
          rcases hv with h | h | h | h <;> exact ⟨_, h, by decide, by decide⟩
        walk_at "rd"
        intro line a4 c4 ln0 ln1 ok4 hc4
        generalize hC : upd (upd (upd H2 l (.lst [.int 10, .int 100, .int 1000, .int 10000])) p (.lst [.int a3, .int bv, .int c3])) p (.lst [.int a4, .int bv, .int c4]) = C
        have Cp : C p = some (.lst [.int a4, .int bv, .int c4]) := by
          rw [← hC, upd_same]
        have keepC : ∀ b o, b ≠ p → H2 b = some o → C b = some o := fun b o h1 e => by
          rw [← hC]
          exact upd_get h1 (upd_get h1 (upd_get (ne_of_none e nl) e))
        have domC : ∀ b, C b = none → H2 b = none := fun b e => by
          rw [← hC] at e
          by_cases h1 : b = p
          · rw [h1, upd_same] at e
            cases e
          · rw [upd_ne h1, upd_ne h1] at e
            by_cases h2 : b = l
            · rw [h2]
              exact nl
            · rw [upd_ne h2] at e
              exact e
        have CF : C F = some (.dT kvs) := keepC _ _ nFp hF2
        have CL : C L = some (.lst (kinds5.map V.str)) := keepC _ _ nLp (sm2 _ _ hL1)
        have low0 : Low (Str.ofString "") := fun c hc => by
          have e : (Str.ofString "").cps.toList = [] := by decide +kernel
          rw [e] at hc
          cases hc
        have len0 : (Str.ofString "").length ≤ 3 := by decide +kernel
        have cst : cost 2 = 130 := by decide
        walk_at "rd"
        intro r nr
        have npr : p ≠ r := ne_of_none Cp nr
        have nFr : F ≠ r := ne_of_none CF nr
        have nLr : L ≠ r := ne_of_none CL nr
        walk_at "rd"
        intro v d H3 a5 c5 rm5 hvd hvo' ok5 hc5 hp5 hr5 sm5
        have keep5 : ∀ b o, b ≠ p → C b = some o → H3 b = some o := fun b o h1 e => by
          have hb : b ∉ [p, r] := fun h => by
            rcases List.mem_cons.mp h with h | h
            · exact h1 h
            · rw [List.mem_singleton.mp h, nr] at e
              cases e
          have z := sm5 b o (by rw [but_out hb]; exact upd_get (ne_of_none e nr) e)
          rw [but_out hb] at z
          exact z
        have F5 : H3 F = some (.dT kvs) := keep5 _ _ nFp CF
        have L5 : H3 L = some (.lst (kinds5.map V.str)) := keep5 _ _ nLp CL
        have SL : SqL K H3 L (kinds5.map V.str) := .inl (.inl L5)
        walk_at "rd"
        intro kd a6 c6 hkd6 ok6 hc6
        obtain ⟨kx, hkx, rfl⟩ := List.mem_map.mp hkd6
        walk_at "rd"
        intro t nt
        have F6 : upd H3 p (.lst [.int a6, .int bv, .int c6]) F = some (.dT kvs) := upd_get nFp F5
        have nFt : F ≠ t := ne_of_none F6 nt
        have npt : p ≠ t := ne_of_none upd_same nt
        have nLt : L ≠ t := ne_of_none (upd_get nLp L5) nt
        generalize hD : upd (upd (upd H3 p (.lst [.int a6, .int bv, .int c6])) t (.tup [.str kx, .int line])) F (.dT (putK kvs (enc (kx, line)) v)) = D
        have keepD : ∀ b o, b ≠ p → b ≠ F → H3 b = some o → D b = some o := fun b o h1 h2 e => by
          rw [← hD]
          refine upd_get h2 (upd_get (fun z => ?_) (upd_get h1 e))
          rw [z] at h1 e
          rw [upd_ne h1, e] at nt
          cases nt
        have keep26 : ∀ b o, B b = none → H2 b = some o → D b = some o := fun b o e1 e2 => by
          have h1 : b ≠ p := fun z => by
            rw [z, Bp] at e1
            cases e1
          have h2 : b ≠ F := fun z => by
            rw [z, BF] at e1
            cases e1
          exact keepD b o h1 h2 (keep5 b o h1 (keepC b o h1 e2))
        have hvd' : Vd (nu B D) v d := by
          refine Vd.mono ((nu_from fun b h => ?_).trans (nu_to fun b o hb h => ?_)) hvd
          · by_cases h1 : b = r
            · rw [h1, upd_same] at h
              cases h
            · rw [upd_ne h1] at h
              exact dom b (domC b h)
          · refine keepD b o (fun z => ?_) (fun z => ?_) h
            · rw [z, Bp] at hb
              cases hb
            · rw [z, BF] at hb
              cases hb
        obtain ⟨z1, z2⟩ := put_found (f := fn) (k := (kx, line)) hvd' hkv (VdAll.mono (nu_to keep26) hva)
        refine ⟨F, _, rfl, DPut.t (k := enc (kx, line)) (upd_get nFt F6) upd_same ?_, ?_⟩
        · have l1 : kvs.length = ks.length := by
            have z := congrArg List.length hkv
            simpa using z
          rw [l1]
          exact small1000 (by omega)
        rw [hD]
        refine ⟨_, addK ks (kx, line), setF fn (kx, line) d, a6, c6, _, _, rfl, ok6, by omega, ?_, ?_, z1, addK_nd hnd, z2, ?_, ?_, ?_, ?_, ?_⟩
        · rw [← hD]
          exact upd_get nFp' (upd_get npt upd_same)
        · rw [← hD, upd_same]
        · intro k hk
          rcases addK_mem hk with hk | hk
          · exact hkd k hk
          · rw [hk]
            exact ⟨hkx, ln0, by omega⟩
        · intro k hk
          by_cases e : k = (kx, line)
          · rw [show setF fn (kx, line) d k = d from if_pos e]
            exact hvo'
          · rw [show setF fn (kx, line) d k = fn k from if_neg e]
            exact hvo k ((addK_mem hk).resolve_right e)
        · have := addK_len ks (kx, line)
          omega
        · intro b o e
          have h1 := ne_of_none e np
          exact keepD b o h1 (ne_of_none e nF1) (keep5 b o h1 (keepC b o h1 (sm2 b o e)))
        · intro b hb
          refine dom b (domC b ?_)
          cases e : C b with
          | none => rfl
          | some o =>
            by_cases h1 : b = p
            · rw [h1, ← hD, upd_get nFp' (upd_get npt upd_same)] at hb
              cases hb
            · by_cases h2 : b = F
              · rw [h2, ← hD, upd_same] at hb
                cases hb
              · rw [keepD b o h1 h2 (keep5 b o h1 e)] at hb
                cases hb
      · rintro σ H2 ⟨kvs, ks, fn, a2, c2, z5, z6, rfl, ok2, hc2, hp2, hF2, hkv, hnd, hva, hkd, hvo, hkl, sm2, dom⟩
        have few : ks.length ≤ 6 := by omega
        have vok : ∀ k ∈ ks, (fn k).showable = true ∧ (fn k).depth ≤ 3 ∧ (fn k).shown.length ≤ 10000 := fun k hk => by
          obtain ⟨e1, e2, e3⟩ := val_shows 2 _ (hvo k hk)
          exact ⟨e1, by omega, Nat.le_trans e3 (by decide)⟩
        have fo : Found H2 (nu B H2) F kvs ks fn := ⟨hF2, hkv, hnd, hva, nu_le _ _, nu_big _ _, fun k hk => by
          obtain ⟨e1, e2, e3⟩ := hkd k hk
          obtain ⟨e4, e5, e6, e7⟩ := kinds_ok _ e1
          exact ⟨e4, e5, e2, e3⟩, few, vok⟩
        obtain ⟨d1, d2, d3⟩ := dic_shows (f := fn) hkd vok few
        refine ⟨_, rfl, F, kvs, ks, ks.map fn, nu B H2, rfl, Rd.of hF2, hkv, hva, nu_le _ _, nu_big _ _, d1, d2, d3, ?_⟩
        walk_at "rd"
        intro R nR
        have nFR : F ≠ R := ne_of_none hF2 nR
        have nRF := nFR.symm
        walk_at "rd"
        intro p1 bs np1 hbs
        have nR1 : R ≠ p1 := fun z => by
          rw [← z, upd_same] at np1
          cases np1
        have np10 : H2 p1 = none := by
          rw [upd_ne nR1.symm] at np1
          exact np1
        obtain ⟨k1, k2⟩ := keys_map ks hkv hbs
        generalize hC : upd (upd H2 R (.lst [])) p1 (.lst (bs.map V.ref)) = C
        have sC : Same H2 C := fun b o e => by
          rw [← hC]
          exact upd_get (ne_of_none e np10) (upd_get (ne_of_none e nR) e)
        have CR : C R = some (.lst []) := by
          rw [← hC]
          exact upd_get nR1 upd_same
        have sR : Same (upd H2 R (.lst [])) C := fun b o e => by
          rw [← hC]
          exact upd_get (ne_of_none e np1) e
        refine ⟨p1, bs, kAt (upd H2 R (.lst [])), rfl, by rw [← hC]; exact .inl (.inl upd_same), fun b hb => sR _ _ (k2 b hb), fun bs' p2 hp hsort np2 => ?_⟩
        have srt : Sorted (bs'.map (kAt (upd H2 R (.lst [])))) ks := ⟨by rw [← k1]; exact hp.map _, List.pairwise_map.mpr hsort⟩
        generalize hks : bs'.map (kAt (upd H2 R (.lst []))) = ks' at srt
        have k3 : ∀ b ∈ bs', C b = some (.tup [.str (kAt (upd H2 R (.lst [])) b).1, .int (kAt (upd H2 R (.lst [])) b).2]) := fun b hb => sR _ _ (k2 b (hp.mem_iff.mp hb))
        have nR2 : R ≠ p2 := fun z => by
          rw [← z, CR] at np2
          cases np2
        refine ⟨p2, rfl, ⟨_, .inl (.inl upd_same)⟩, for_list (K := K) (a := p2) (xs := bs'.map V.ref) (fun m σ H3 => ∃ (rs : List Str) (y6 y9 y10 : Option V), σ = [some (.ref a), some (.ref L), some (.int (0 + (i : Int))), some (.ref p), some (.ref F), z5, y6, some (.str (dicD ks fn).shown), some (.ref R), y9, y10] ∧ rs = (ks'.take m).map (row fn) ∧ H3 R = some (.lst (rs.map V.str)) ∧ Same (but (upd C p2 (.lst (bs'.map V.ref))) [R]) (but H3 [R]))
          ⟨[], _, _, _, rfl, by simp, upd_get nR2 CR, Same.refl _⟩ (fun m σ H3 _ z => ?_) ?_ ?_⟩
        · obtain ⟨rs, y6, y9, y10, _, _, _, sm⟩ := z
          exact .inl (.inl (but_le _ _ _ _ (sm _ _ (by rw [but_out (fun h => nR2.symm (List.mem_singleton.mp h))]; exact upd_same))))
        · rintro m x σ H3 hx ⟨rs, y6, y9, y10, rfl, hrs, hR3, sm⟩
          obtain ⟨b, hb, rfl⟩ : ∃ b, bs'[m]? = some b ∧ x = V.ref b := by
            rw [List.getElem?_map] at hx
            cases e : bs'[m]? with
            | none =>
              rw [e] at hx
              cases hx
            | some b =>
              rw [e] at hx
              exact ⟨b, rfl, (Option.some.inj hx).symm⟩
          have hbm := List.mem_of_getElem? hb
          have hB3 := k3 b hbm
          have hki : ks'[m]? = some (kAt (upd H2 R (.lst [])) b) := by
            rw [← hks, List.getElem?_map, hb]
            rfl
          generalize kAt (upd H2 R (.lst [])) b = k at hB3 hki
          have hkm : k ∈ ks := srt.1.mem_iff.mp (List.mem_of_getElem? hki)
          obtain ⟨v, hv1, hv2⟩ := found_val fo.keys fo.vals k hkm
          obtain ⟨c1, c2, c3, c4⟩ := fo.kind k hkm
          obtain ⟨c5, c6, c7⟩ := fo.shows k hkm
          have old : ∀ b o, C b = some o → b ≠ R → b ≠ p2 → H3 b = some o := fun b o e h1 h2 => but_le _ _ _ _ (sm b o (by
            rw [but_out (fun h => h1 (List.mem_singleton.mp h))]
            exact upd_get h2 e))
          have hb1 : H3 b = some (.tup [.str k.1, .int k.2]) := old _ _ hB3 (fun z => by rw [z, CR] at hB3; cases hB3) (fun z => by rw [z, np2] at hB3; cases hB3)
          have sH : Same H2 H3 := fun b o e => old b o (sC b o e) (ne_of_none e nR) (ne_of_none (sC b o e) np2)
          have ha1 := sH _ _ hF2
          have sG := fo.le.trans sH
          refine ⟨b, _, rfl, .inl (.inl hb1), rfl, _, _, rfl, _, _, rfl, rfl, ?_⟩
          have e3 := int_len c3 c4
          have hlog : k.2.natAbs.log2 < 1920 := by
            by_cases z : k.2.natAbs = 0
            · rw [z]
              decide +kernel
            · rw [Nat.log2_lt z]
              exact Nat.lt_of_lt_of_le (show k.2.natAbs < 2 ^ 20 by omega) (Nat.pow_le_pow_right (by decide) (by decide))
          have hsz := sizeLine_eq
          have m1 : (Txt.mul (Str.ofString " ") (3 - ((Str.ofString (toString k.2)).length : Int))).length ≤ 3 := by
            rw [mul_sp]
            show ((List.replicate _ 32).toArray).size ≤ 3
            simp
          have m2 : (Txt.mul (Str.ofString " ") (9 - (k.1.length : Int))).length ≤ 9 := by
            rw [mul_sp]
            show ((List.replicate _ 32).toArray).size ≤ 9
            simp
          have m3 : (Str.ofString " ").length = 1 := by decide +kernel
          have m4 := Str.length_append (Txt.mul (Str.ofString " ") (3 - ((Str.ofString (toString k.2)).length : Int))) (Str.ofString (toString k.2))
          have m5 := Str.length_append (Txt.mul (Str.ofString " ") (3 - ((Str.ofString (toString k.2)).length : Int)) ++ Str.ofString (toString k.2)) (Str.ofString " ")
          have m6 := Str.length_append (Txt.mul (Str.ofString " ") (3 - ((Str.ofString (toString k.2)).length : Int)) ++ Str.ofString (toString k.2) ++ Str.ofString " ") k.1
          have m7 := Str.length_append (Txt.mul (Str.ofString " ") (3 - ((Str.ofString (toString k.2)).length : Int)) ++ Str.ofString (toString k.2) ++ Str.ofString " " ++ k.1) (Txt.mul (Str.ofString " ") (9 - (k.1.length : Int)))
          walk_at "rd"
          intro t nt
          have nRt : R ≠ t := ne_of_none hR3 nt
          have hat : upd H3 t (.tup [.str k.1, .int k.2]) F = some (.dT kvs) := upd_get (ne_of_none ha1 nt) ha1
          have hRt : upd H3 t (.tup [.str k.1, .int k.2]) R = some (.lst (rs.map V.str)) := upd_get nRt hR3
          have sT : Same H3 (upd H3 t (.tup [.str k.1, .int k.2])) := fun b o e => upd_get (ne_of_none e nt) e
          refine ⟨F, v, rfl, ?_, v, fn k, _, rfl, hv2, sG.trans sT, fo.big, c5, by omega, Nat.le_trans c7 (by decide), ?_⟩
          · rw [← hv1]
            exact DGet.t (k := enc k) hat upd_same
          have hrl : rs.length ≤ ks'.length := by
            rw [hrs, List.length_map, List.length_take]
            exact Nat.min_le_right _ _
          have hkl : ks'.length = ks.length := srt.1.length_eq
          have few := fo.few
          have hrl2 : (rs.map V.str).length < sizeLine := by
            rw [List.length_map]
            exact small1000 (by omega)
          walk_at "rd"
          refine ⟨rs ++ [row fn k], _, _, _, rfl, ?_, ?_, ?_⟩
          · rw [List.take_add_one, hki, List.map_append, hrs]
            rfl
          · rw [upd_same, List.map_append, ← law_row c3 c1]
            rfl
          · rw [but_upd List.mem_cons_self]
            exact sm.trans (but_new nt)
        · rintro σ H3 ⟨rs, y6, y9, y10, rfl, hrs, hR3, sm⟩
          have hkl : ks'.length = ks.length := srt.1.length_eq
          have el : (bs'.map V.ref).length = ks'.length := by
            rw [← hks, List.length_map, List.length_map]
          rw [el, List.take_length] at hrs
          have sH : Same H2 H3 := fun b o e => by
            have h1 : b ≠ R := ne_of_none e nR
            exact but_le _ _ _ _ (sm b o (by
              rw [but_out (fun h => h1 (List.mem_singleton.mp h))]
              exact upd_get (ne_of_none (sC b o e) np2) (sC b o e)))
          have fo3 : Found H3 (nu B H2) F kvs ks fn := ⟨sH _ _ hF2, hkv, hnd, hva, fo.le.trans sH, fo.big, fo.kind, few, vok⟩
          refine ⟨_, rfl, F, _, kvs, ks, fn, rfl, fo3, fun ks2 H4 srt2 sm4 => ?_⟩
          have R4 := sm4 _ _ hR3
          have hsz := rows_size fo srt.1
          rw [← hrs] at hsz
          have hjs : SqL K H4 R (rs.map V.str) ∨ SqT K H4 R (rs.map V.str) := .inl (.inl (.inl R4))
          have eq1 : ks2 = ks' := sorted_uniq srt2 srt
          walk_at "rd"
          refine ⟨rs, rfl, rfl, hjs, hsz, rfl, _, rfl, iteNS (by rw [eq1, hrs]) ?_⟩
          have sH4 := sH.trans sm4
          refine ⟨_, rfl, F, kvs, ks, ks.map fn, nu B H2, rfl, Rd.of (sH4 _ _ hF2), hkv, hva, fo.le.trans sH4, fo.big, d1, d2, d3, ?_⟩
          refine ⟨_, rfl, rfl, _, rfl, iteNS rfl ?_⟩
          refine ⟨_, _, _, _, _, _, _, _, _, rfl, ?_⟩
          exact sm1.trans (sm2.trans sH4)
    · rintro σ H1 ⟨y2, y3, y4, y5, y6, y7, y8, y9, y10, rfl, sm1⟩
      walk_at "rd"
      intro D nD
      have fo : Found (upd H1 D (.dT [])) (nu H1 H1) D [] [] (fun _ => .none) := ⟨upd_same, rfl, List.nodup_nil, .nil, (nu_le _ _).trans (fun b o e => upd_get (ne_of_none e nD) e), nu_big _ _, fun _ h => absurd h List.not_mem_nil, Nat.zero_le _, fun _ h => absurd h List.not_mem_nil⟩
      refine ⟨D, _, [], [], _, rfl, fo, fun ks' H' srt sm => ?_⟩
      have e0 : ks' = [] := List.Perm.eq_nil srt.1
      rw [e0]
      have e1 : Txt.join (Str.ofString "\n") (([] : List (Str × Int)).map (row fun _ => PyData.none)) = Str.ofString "" := by decide +kernel
      rw [e1]
      have z : Q (V.bl (decide (V.str (Str.ofString "") = V.str (Str.ofString "")))) H' := by
        rw [decide_eq_true rfl]
        exact q _
      exact ⟨rfl, z⟩
end
end K64

namespace K64
open PySem PySem.Spec PyProof.Rows L2
theorem all_mk {l : PySem.W.OpenLaw} {w : World} {K : PySem.W.Frag} {h : Heap} {mg : Str → Option Value} {fa f1 f2 f3 f4 f5 f6 f7 : Addr} (X : K.In h) (G : h.Ns mainGlobals mg) (hfa : mg "law" = some (.ref fa))
    {od1 an1 od2 an2 od3 an3 od4 an4 od5 an5 od6 an6 od7 an7 : Option Addr} {sl1 sl2 sl3 sl4 sl5 sl6 sl7 : Array (Option Value)} {oc1 kV1 dc1 pm1 cd1 ct1 oc2 kV2 dc2 pm2 cd2 ct2 oc3 kV3 dc3 pm3 cd3 ct3 oc4 kV4 dc4 pm4 cd4 ct4 oc5 kV5 dc5 pm5 cd5 ct5 oc6 kV6 dc6 pm6 cd6 ct6 oc7 kV7 dc7 pm7 cd7 ct7 : Value}
    (a1 : PySem.W.nsIn K mainGlobals "_law_take" = some (some (.ref f1))) (l1 : K.lookup f1 = some ⟨oc1, od1, .func (PySem.W.fnOf "_law_take" "_law_take" (defArgs sTake) (defBody sTake) (defScope sTake) .none kV1 dc1 pm1 an1 cd1 ct1), sl1⟩) (c1 : PySem.W.codeIn K cd1 "_law_take" = true) (k1 : PySem.W.keepIn K (.ref f1) = true)
    (a2 : PySem.W.nsIn K mainGlobals "_law_bag" = some (some (.ref f2))) (l2 : K.lookup f2 = some ⟨oc2, od2, .func (PySem.W.fnOf "_law_bag" "_law_bag" (defArgs sBag) (defBody sBag) (defScope sBag) .none kV2 dc2 pm2 an2 cd2 ct2), sl2⟩) (c2 : PySem.W.codeIn K cd2 "_law_bag" = true) (k2 : PySem.W.keepIn K (.ref f2) = true)
    (a3 : PySem.W.nsIn K mainGlobals "_law_of" = some (some (.ref f3))) (l3 : K.lookup f3 = some ⟨oc3, od3, .func (PySem.W.fnOf "_law_of" "_law_of" (defArgs sOf) (defBody sOf) (defScope sOf) .none kV3 dc3 pm3 an3 cd3 ct3), sl3⟩) (c3 : PySem.W.codeIn K cd3 "_law_of" = true) (k3 : PySem.W.keepIn K (.ref f3) = true)
    (a4 : PySem.W.nsIn K mainGlobals "_law_text" = some (some (.ref f4))) (l4 : K.lookup f4 = some ⟨oc4, od4, .func (PySem.W.fnOf "_law_text" "_law_text" (defArgs sText) (defBody sText) (defScope sText) .none kV4 dc4 pm4 an4 cd4 ct4), sl4⟩) (c4 : PySem.W.codeIn K cd4 "_law_text" = true) (k4 : PySem.W.keepIn K (.ref f4) = true)
    (a5 : PySem.W.nsIn K mainGlobals "_law_value" = some (some (.ref f5))) (l5 : K.lookup f5 = some ⟨oc5, od5, .func (PySem.W.fnOf "_law_value" "_law_value" (defArgs sValue) (defBody sValue) (defScope sValue) .none kV5 dc5 pm5 an5 cd5 ct5), sl5⟩) (c5 : PySem.W.codeIn K cd5 "_law_value" = true) (k5 : PySem.W.keepIn K (.ref f5) = true)
    (a6 : PySem.W.nsIn K mainGlobals "survey_page" = some (some (.ref f6))) (l6 : K.lookup f6 = some ⟨oc6, od6, .func (PySem.W.fnOf "survey_page" "survey_page" (defArgs sPage) (defBody sPage) (defScope sPage) .none kV6 dc6 pm6 an6 cd6 ct6), sl6⟩) (c6 : PySem.W.codeIn K cd6 "survey_page" = true) (k6 : PySem.W.keepIn K (.ref f6) = true)
    (a7 : PySem.W.nsIn K mainGlobals "law" = some (some (.ref f7))) (l7 : K.lookup f7 = some ⟨oc7, od7, .func (PySem.W.fnOf "law" "law" (defArgs sLaw) (defBody sLaw) (defScope sLaw) .none kV7 dc7 pm7 an7 cd7 ct7), sl7⟩) (c7 : PySem.W.codeIn K cd7 "law" = true) (k7 : PySem.W.keepIn K (.ref f7) = true)
    (z1 : PySem.W.nsIn K mainGlobals "int" = some none) (z2 : PySem.W.nsIn K mainGlobals "len" = some none) (z3 : PySem.W.nsIn K mainGlobals "abs" = some none) (z4 : PySem.W.nsIn K mainGlobals "range" = some none) (z5 : PySem.W.nsIn K mainGlobals "max" = some none) (z6 : PySem.W.nsIn K mainGlobals "min" = some none) (z7 : PySem.W.nsIn K mainGlobals "repr" = some none) (z8 : PySem.W.nsIn K mainGlobals "sorted" = some none) (z9 : PySem.W.nsIn K mainGlobals "list" = some none) (z10 : PySem.W.nsIn K mainGlobals "str" = some none) :
    ∃ fd : FuncData, (∀ (s : Shared) (v : Value), BindsTo s fd ⟨[v], []⟩ [("_law_script", v)]) ∧ ∀ base : Heap, K.In base → base.Ns mainGlobals mg → FnOkG l.prog w K mg base 6 fa fd ["_law_script"] (spLaw K) := by
  have e := hfa.symm.trans (PySem.W.mg_of X G a7)
  cases e
  have F1 := fun_mk (st := sTake) l1 c1 k1
  have b1 := F1.binds (ps := ["_law_bag_here", "_law_many"]) fun _ _ _ _ _ _ us hl => match us, hl with | [_, _], _ => rfl
  have g1 := PySem.W.mg_of X G a1
  have F2 := fun_mk (st := sBag) l2 c2 k2
  have b2 := F2.binds (ps := ["_law_script", "_law_at"]) fun _ _ _ _ _ _ us hl => match us, hl with | [_, _], _ => rfl
  have g2 := PySem.W.mg_of X G a2
  have F3 := fun_mk (st := sOf) l3 c3 k3
  have b3 := F3.binds (ps := ["_law_bag_here", "_law_some"]) fun _ _ _ _ _ _ us hl => match us, hl with | [_, _], _ => rfl
  have g3 := PySem.W.mg_of X G a3
  have F4 := fun_mk (st := sText) l4 c4 k4
  have b4 := F4.binds (ps := ["_law_bag_here", "_law_many"]) fun _ _ _ _ _ _ us hl => match us, hl with | [_, _], _ => rfl
  have g4 := PySem.W.mg_of X G a4
  have F5 := fun_mk (st := sValue) l5 c5 k5
  have b5 := F5.binds (ps := ["_law_bag_here", "_law_deep", "_law_room", "_law_wanted"]) fun _ _ _ _ _ _ us hl => match us, hl with | [_, _, _, _], _ => rfl
  have g5 := PySem.W.mg_of X G a5
  have F6 := fun_mk (st := sPage) l6 c6 k6
  have b6 := F6.binds (ps := ["found"]) fun _ _ _ _ _ _ us hl => match us, hl with | [_], _ => rfl
  have g6 := PySem.W.mg_of X G a6
  have F7 := fun_mk (st := sLaw) l7 c7 k7
  have n1 := PySem.W.mg_none_of X G z1
  have n2 := PySem.W.mg_none_of X G z2
  have n3 := PySem.W.mg_none_of X G z3
  have n4 := PySem.W.mg_none_of X G z4
  have n5 := PySem.W.mg_none_of X G z5
  have n6 := PySem.W.mg_none_of X G z6
  have n7 := PySem.W.mg_none_of X G z7
  have n8 := PySem.W.mg_none_of X G z8
  have n9 := PySem.W.mg_none_of X G z9
  have n10 := PySem.W.mg_none_of X G z10
  exact ⟨PySem.W.fnOf "law" "law" (defArgs sLaw) (defBody sLaw) (defScope sLaw) .none kV7 dc7 pm7 an7 cd7 ct7, fun s v => .of_eq rfl, fun base _ _ => ok_law F7 ⟨F1, F2, F3, F4, F5, F6, g1, g2, g3, g4, g5, g6, n1, n2, n3, n4, n5, n6, n7, n8, n9, n10⟩ b1 b2 b4 b3 b5 b6⟩
theorem walk {l : PySem.W.OpenLaw} {q : Program} {loose : List Str} {XP : (Str → Option Value) → Heap → Prop} {YP : World → Heap → Prop} {d : DefRec} {K : Params → PySem.W.Frag} (hn : l.most = some 63) (hdf : d.params.defaults = [])
    (hY : ∀ (w : World) (h : Heap), YP w h → (K w.params).In h)
    (F : ∀ (w : World) (mg : Str → Option Value) (fa : Addr) (h : Heap), (K w.params).In h → h.Ns mainGlobals mg → mg d.name = some (.ref fa) →
      ∃ fd : FuncData, (∀ (s : Shared) (u : Value), BindsTo s fd ⟨[u], []⟩ [("_law_script", u)]) ∧ ∀ base : Heap, (K w.params).In base → base.Ns mainGlobals mg → FnOkG l.prog w (K w.params) mg base 6 fa fd ["_law_script"] (spLaw (K w.params))) :
    PySem.W.WalkO q loose XP YP l.row.toRowW d [] (fun f vs => PySem.call f vs) :=
  L2.walk_ofG (n := 63) (k := 6) (x := "_law_script") (sp := fun w => spLaw (K w.params)) hn (by decide) hdf ⟨rfl, by decide, by decide⟩ hY F (fun w H a ns hl hO hS => ⟨a, ns, rfl, hS, hl, fun _ => rfl⟩)
end K64
open PySem PySem.W PyProof.Rows
set_option maxRecDepth 100000 in
set_option maxHeartbeats 0 in
theorem PySem.Challenge.cw_textorlist_k64_survey_page_holds : PySem.Challenge.rw_textorlist_k64_survey_page.Holds := by
  w_on; o_law; k_head; (case hw => w_witness2)
  k_fill
  refine K64.walk (l := PySem.Challenge.rw_textorlist_k64_survey_page) rfl rfl (fun w h Y => PySem.W.kIn_of Y) ?F
  case F =>
    intro w mg fa h KX G hmg
    refine' K64.all_mk KX G hmg ?a1 ?l1 ?c1 ?k1 ?a2 ?l2 ?c2 ?k2 ?a3 ?l3 ?c3 ?k3 ?a4 ?l4 ?c4 ?k4 ?a5 ?l5 ?c5 ?k5 ?a6 ?l6 ?c6 ?k6 ?a7 ?l7 ?c7 ?k7 ?z1 ?z2 ?z3 ?z4 ?z5 ?z6 ?z7 ?z8 ?z9 ?z10
    (case a1 => k_is); (case l1 => k_is); (case c1 => k_is); (case k1 => k_is); (case a2 => k_is); (case l2 => k_is)
    (case c2 => k_is); (case k2 => k_is); (case a3 => k_is); (case l3 => k_is); (case c3 => k_is); (case k3 => k_is)
    (case a4 => k_is); (case l4 => k_is); (case c4 => k_is); (case k4 => k_is); (case a5 => k_is); (case l5 => k_is)
    (case c5 => k_is); (case k5 => k_is); (case a6 => k_is); (case l6 => k_is); (case c6 => k_is); (case k6 => k_is)
    (case a7 => k_is); (case l7 => k_is); (case c7 => k_is); (case k7 => k_is); (case z1 => k_is); (case z2 => k_is)
    (case z3 => k_is); (case z4 => k_is); (case z5 => k_is); (case z6 => k_is); (case z7 => k_is); (case z8 => k_is)
    (case z9 => k_is); (case z10 => k_is)
