import PyProof.Rows.All
import Wide.All
import OpenK.AllK
import Wide.FinOn
import KE.KStateDown
import HandS.ForMost
import HandS.Exc
import HandS.Defaults
import HandS.Sort
import HandS.SortOrd
import HandS.SortRule
import HandS.SortInts
import HandS.SortKw
import HandS.Set
import HandS.Strs
import HandS.SetFor
import HandS.Deep
import HandS.TupAny
import HandS.IsInst
import HandS.Conv
import HandS.DictTup
import HandS.Walk
import HandS.Flow
import KE.KDictDisplayH
import HandS.Head0
import HandS.Head1
import HandS.Head2
import HandS.HeadEnd
import HandS.HeadHook1
import HandS.HeadHook2
import HandS.HeadHook3
import HandS.HeadHook4
import PySem.Challenge.RW_tariffgate_k43_looked
import HandS.Codes
/-! law_k43_looked: the text by places, the head's run, a walk of each def, the law. -/
set_option Elab.async false
set_option linter.all false
set_option maxRecDepth 100000
set_option maxHeartbeats 4000000
/-! Rules of our own over the hand layer. -/
namespace K43
open PySem PySem.Spec PyProof.Rows L2

/-! ### a def that keeps its promise, with how it is bound -/
structure Ok (P : Program) (w : World) (K : PySem.W.Frag) (mg : Str → Option Value) (base : Heap) (k : Nat) (f : Addr) (ps : List Str) (sp : Sp) : Prop where
  run : ∃ fd, FnOk P w K mg base CX0 k f fd ps sp ∧ Binds K fd ps []
  kp : PySem.W.keepIn K (.ref f) = true
section
variable {P : Program} {w : World} {K : PySem.W.Frag} {mg : Str → Option Value} {base : Heap} {j k : Nat} {f : Addr} {ps : List Str} {sp sp' : Sp}
theorem Ok.mono (G : Ok P w K mg base j f ps sp) (h : j ≤ k) : Ok P w K mg base k f ps sp := by
  obtain ⟨⟨fd, F, b⟩, kp⟩ := G
  exact ⟨⟨fd, F.mono h, b⟩, kp⟩
theorem Ok.imp (G : Ok P w K mg base k f ps sp) (h : ∀ vs H Q E, sp' vs H Q E → sp vs H Q E) : Ok P w K mg base k f ps sp' := by
  obtain ⟨⟨fd, F, b⟩, kp⟩ := G
  exact ⟨⟨fd, F.imp h, b⟩, kp⟩
/-- the rule for a def of the text -/
theorem def_ok {x qual : Str} {st : Stmt} {N : List Str} (F : ∃ fd, FunD K x qual (defArgs st) (defBody st) (defScope st) [] [] f fd) (S : FnScope N ps (defScope st))
    (bd : ∀ (kV doc pm : Value) (an : Option Addr) (cdv ct : Value) (us : List Value), us.length = ps.length →
      bindArgs (PySem.W.fnOf x qual (defArgs st) (defBody st) (defScope st) .none kV doc pm an cdv ct) ⟨us, []⟩ = pure (ps.zip us))
    (len : ∀ vs H Q E, sp vs H Q E → vs.length = ps.length)
    (body : ∀ (cdv : Value) (A : Around) (outer : List Env) (s : Shared) (H : Hp) (vs : List V) (Q : VK) (E : XK),
      Room k (A.deeper (envOfC qual (defScope st) s.heap.objs.size f cdv)) → sp vs H Q E →
      ∃ t, PSs (cxOf CX0 P w K mg base N qual (defScope st) f cdv A outer s H E).nox (defBody st) t ∧ t { nx := fun _ H' => Q .non H', rt := Q } (start N vs) H) :
    Ok P w K mg base (k + 1) f ps sp := by
  obtain ⟨fd, F⟩ := F
  refine ⟨⟨fd, F.ok S len fun cdv A outer s H vs Q E hr h => ?_, F.bindsN bd⟩, F.kp⟩
  obtain ⟨t, h1, h2⟩ := body cdv A outer s H vs Q E hr h
  exact ⟨t, h1.nox, h2⟩
end

section
variable {X : Cx} {k : Nat} {f C : Addr} {ps : List Str} {sp : Sp} {x m : Str} {p pos apos : Pos} {e o : Expr} {es : List Expr} {ta : TE} {t : TA}
abbrev OkX (X : Cx) (k : Nat) (f : Addr) (ps : List Str) (sp : Sp) : Prop := Ok X.prog X.w X.K X.mg X.base k f ps sp
/-- f(e, ..) -/
theorem pe_callO (G : OkX X k f ps sp) (hr : Room k X.A) (hg : Gl X x) (hm : X.mg x = some (.ref f)) (ha : PA X (e :: es) t)
    (hdb : (x == ("__debug__" : Str)) = false := by decide) (he : starEach (e :: es) X.env = (false, eval e X.env) :: starEach es X.env := by rfl)
    (hpl : (backTo pos (starEach es X.env)).any (·.1) = false := by rfl) : PE X (.Call (.Name x p) (e :: es) [] pos) (tCall sp [] E0 t) := by
  obtain ⟨⟨fd, F, b⟩, kp⟩ := G
  exact pe_call F hr hg hm kp b .nil pass0 ha hdb he hpl
/-- C(e, ..) of a class with a def __init__ -/
theorem pe_makeO (M : Mk X.K C f) (G : OkX X k f ps sp) (hr : Room (k + 1) X.A) (hg : Gl X x) (hm : X.mg x = some (.ref C)) (ha : PA X (e :: es) t)
    (hdb : (x == ("__debug__" : Str)) = false := by decide) (he : starEach (e :: es) X.env = (false, eval e X.env) :: starEach es X.env := by rfl)
    (hpl : (backTo pos (starEach es X.env)).any (·.1) = false := by rfl) : PE X (.Call (.Name x p) (e :: es) [] pos) (tMake C sp [] E0 t) := by
  obtain ⟨⟨fd, F, b⟩, kp⟩ := G
  exact pe_make M F hr hg hm b .nil pass0 ha hdb he hpl
/-- o.m(e, ..), the class known -/
theorem pe_methO {pl : Sem Bool} (he : PE X o ta) (c : Cls X.K C) (hm : Meth X.K C m f) (G : OkX X k f ps sp) (hr : Room k X.A) (ha : PA X (e :: es) t)
    (hst : starEach (e :: es) X.env = (false, eval e X.env) :: starEach es X.env := by rfl) (hpl : (backTo pos (starEach es X.env)).any (·.1) = false := by rfl)
    (ht : eval (.Call (.Attribute o m apos) (e :: es) [] pos) X.env = (do
      let ov ← eval o X.env
      standAt apos.atName
      let (g, first) ← holding [ov] (getMethod ov m pl)
      callWith pos g first (backTo pos (starEach (e :: es) X.env)) (backToKw pos (keywordEach [] X.env))) := by rfl) :
    PE X (.Call (.Attribute o m apos) (e :: es) [] pos) (tMeth C m sp [] E0 ta t) := by
  obtain ⟨⟨fd, F, b⟩, kp⟩ := G
  exact pe_meth (pl := pl) he c hm F hr b .nil pass0 ha hst hpl ht
/-- o.m(e, ..), the class by what stands there -/
def tMethD (P : Program) (w : World) (K : PySem.W.Frag) (mg : Str → Option Value) (base : Heap) (k : Nat) (m : Str) (ps : List Str) (ta : TE) (t : TA) : TE := fun σ H Q => ta σ H fun x H1 =>
  ∃ (a C dx : Addr) (fs : List (Str × V)) (f : Addr) (sp : Sp), x = .ref a ∧ H1 a = some (.ins C dx fs) ∧ Cls K C ∧ fs.lookup m = none ∧ Meth K C m f ∧ Ok P w K mg base k f ps sp ∧
    t σ H1 fun vs H2 => sp (x :: vs) H2 Q E0
theorem pe_methD {pl : Sem Bool} (he : PE X o ta) (hr : Room k X.A) (ha : PA X (e :: es) t)
    (hst : starEach (e :: es) X.env = (false, eval e X.env) :: starEach es X.env := by rfl) (hpl : (backTo pos (starEach es X.env)).any (·.1) = false := by rfl)
    (ht : eval (.Call (.Attribute o m apos) (e :: es) [] pos) X.env = (do
      let ov ← eval o X.env
      standAt apos.atName
      let (g, first) ← holding [ov] (getMethod ov m pl)
      callWith pos g first (backTo pos (starEach (e :: es) X.env)) (backToKw pos (keywordEach [] X.env))) := by rfl) :
    PE X (.Call (.Attribute o m apos) (e :: es) [] pos) (tMethD X.prog X.w X.K X.mg X.base k m ps ta t) := by
  refine ⟨fun pins s σ H Q I h => ?_⟩
  refine PySem.W.methodCall_KW (pl := pl) (thn (he.run pins s σ H _ I h) fun u s1 h1 => ?_) ht
  obtain ⟨x, H1, I1, rx, a, C, dx, fs, f, sp, ex, ea, c, l, hm, G, q⟩ := h1
  obtain ⟨⟨fd, F, b⟩, _⟩ := G
  subst ex
  obtain rfl : u = Value.ref a := rx
  refine getmeth_ok I1 ea c hm l ?_
  refine PySem.W.callWith_K (first := [.ref a]) (h₀ := X.base) I1.ok.mod.kin hm.kp (thn (ha.run pos pins s1 σ H1 _ I1 q) fun us s2 h2 => ?_) hst hpl
  obtain ⟨vs, H2, I2, r, q2⟩ := h2
  exact ⟨I2.kIn, run_fn (us := .ref a :: us) (vs := .ref a :: vs) (dvs := []) F hr b .nil pass0 I2 (.cons rfl r) (by rw [List.append_nil]; exact q2)⟩
/-- C() of a class that has object's __init__ alone -/
def tNew0 (C : Addr) : TE := fun _ H Q => ∀ x dx, H x = none → H dx = none → dx ≠ x → Q (.ref x) (upd (upd H dx (.own x)) x (.ins C dx []))
theorem pe_new0 (hmk : PySem.W.makesIn X.K C = true) (hi : PySem.W.findIn X.K (.ref C) "__init__" = some (some (.builtin "object.__init__"))) (kp : PySem.W.keepIn X.K (.ref C) = true)
    (hg : Gl X x) (hm : X.mg x = some (.ref C)) (hdb : (x == ("__debug__" : Str)) = false := by decide) : PE X (.Call (.Name x p) [] [] pos) (tNew0 C) := by
  refine ⟨fun pins s σ H Q I h => ?_⟩
  refine wpAny_Call_Name_kw (ld_glob I hg hm ?_ hdb)
  refine PySem.W.callWith_K0 I.kIn kp ?_
  have hq := h (s.heap.objs.size + 1) s.heap.objs.size (I.hok.fresh (Nat.le_succ _)) (I.hok.fresh (Nat.le_refl _)) (Nat.ne_of_lt (Nat.lt_succ_self _))
  have I2 := Inv.made (C := C) I
  have Y := PySem.W.makes_of (M := model X.prog X.w) I.kIn hmk
  refine wpAny_call (make_map0 I.kIn hmk hi (fun self => PySem.W.Looks.of_pure (PySem.W.oi_bind self)) ?_)
  have hx : ((s.heap.push PySem.W.emptyDict).push (PySem.W.instObj C s.heap.objs.size)).get? (s.heap.objs.size + 1) = some (PySem.W.instObj C s.heap.objs.size) := by
    have e := Heap.get?_push_size (s.heap.push PySem.W.emptyDict) (o := PySem.W.instObj C s.heap.objs.size) rfl
    rw [Heap.size_push] at e
    exact e
  have t1 : PySem.W.Looks (model X.prog X.w) ((s.heap.push PySem.W.emptyDict).push (PySem.W.instObj C s.heap.objs.size)) (typeOf (.ref (s.heap.objs.size + 1))) (.ref C) := (PySem.W.Looks.ld hx).andThen .now
  have t2 : PySem.W.Looks (model X.prog X.w) ((s.heap.push PySem.W.emptyDict).push (PySem.W.instObj C s.heap.objs.size)) (isInstance (.ref (s.heap.objs.size + 1)) (.type "object")) true :=
    t1.andThen (Y.top.keeps fun b o e => Heap.get?_push_of_some _ (Heap.get?_push_of_some _ e))
  refine codeAny_call_builtin PySem.W.oi_plain PySem.W.entry_oi (PySem.W.check_slot PySem.W.oi_kind PySem.W.oi_split t2 (PySem.W.oi_args _) ?_)
  rw [PySem.W.oi_run]
  exact wpAny_pure (And.intro rfl ⟨V.ref (s.heap.objs.size + 1), _, I2, rfl, hq⟩)
end

/-! ### max of a tuple of whole numbers -/
section
variable {X : Cx}
def rMaxT (K : PySem.W.Frag) : List V → Hp → VK → Prop := fun vs H Q => ∃ (a : Addr) (ns : List Int), vs = [V.ref a] ∧ SqT K H a (ns.map V.int) ∧ 0 < ns.length ∧ ∀ m, m ∈ ns → (∀ y, y ∈ ns → y ≤ m) → Q (.int m) H
theorem cr_maxT (hc : X.calm = true) : CallR X (.builtin "max") (rMaxT X.K) := by
  intro pins s σ H vs us Q I r h
  obtain ⟨a, ns, rfl, hs, hne, q⟩ := h
  obtain rfl := Vals.ref1 r
  obtain ⟨its, rv, ht, hz⟩ := I.tuple hs
  have hi := rv.ints
  have hl : its.length = ns.length := hi.length
  have hlt : a < s.heap.objs.size := ht.lt
  have hT : s.heap.IsTuple a its.toArray := by
    obtain ⟨o, ho, hcl, n, hd⟩ := ht
    exact ⟨o, ho, hcl, n, hd⟩
  have hval : ∀ (i : Nat) (v : Value), its.toArray[i]? = some v → ∃ t, v = Value.int (ns.getD i 0) t := fun i v e => by
    have e2 : its[i]? = some v := by simpa using e
    obtain ⟨hi1, hi2⟩ := List.getElem?_eq_some_iff.mp e2
    have hb : i < ns.length := by omega
    have e3 : (ns.map V.int)[i]? = some (V.int ns[i]) := by simp [hb]
    obtain ⟨u, hu, ru⟩ := Vals.get rv e3
    rw [e2] at hu
    cases hu
    obtain ⟨t, rfl⟩ := ru
    exact ⟨t, by rw [List.getD_eq_getElem?_getD, List.getElem?_eq_getElem hb]; rfl⟩
  refine call_max_walk (wpAny_pyIter_tuple hT ?_)
  refine ⟨_, _, _, _, _, _, _, rfl, Walks.tuple (A := X.A.in1) (I.ok.hd hc) _ a (Nat.ne_of_lt hlt) its.toArray,
    ⟨⟨_, Heap.get?_push_size _ rfl, rfl, rfl⟩, hT.push _⟩, fun b hb => ?_, by simp; omega, CmpOf.ints_gt (fun i => ns.getD i 0) hval, fun v h' tk hP hk => ?_⟩
  · show b < (s.heap.push _).objs.size
    rw [Heap.size_push]
    rcases List.mem_cons.mp hb with e | hb
    · rw [e]; exact Nat.lt_succ_self _
    · rw [List.mem_singleton.mp hb]; exact Nat.lt_succ_of_lt hlt
  · obtain ⟨t, rfl⟩ := hval _ v hP
    obtain ⟨b1, b2⟩ := argBest_gt (fun i => ns.getD i 0) (its.toArray.size - 1)
    have hsz : its.toArray.size = ns.length := by simp [hl]
    refine ⟨.int _, H, I.kept (t' := tk) fun b u e => hk b u (fun hmem => ?_) (Heap.get?_push_of_some _ e), ⟨t, rfl⟩, q _ ?_ fun y hy => ?_⟩
    · have e1 : b = s.heap.objs.size := List.mem_singleton.mp hmem
      have e2 := Heap.lt_size e
      rw [e1] at e2
      exact absurd e2 (Nat.lt_irrefl _)
    · have hb : argBest (fun i j => decide (ns.getD i 0 > ns.getD j 0)) (its.toArray.size - 1) < ns.length := by omega
      rw [List.getD_eq_getElem?_getD, List.getElem?_eq_getElem hb]
      exact List.getElem_mem hb
    · obtain ⟨i, hi, e⟩ := List.mem_iff_getElem.mp hy
      have e2 : ns.getD i 0 = y := by rw [List.getD_eq_getElem?_getD, List.getElem?_eq_getElem hi, ← e]; rfl
      rw [← e2]
      exact b2 i (by omega)
end
end K43
set_option Elab.async false
set_option linter.all false
set_option maxRecDepth 100000
set_option maxHeartbeats 4000000
/-! sorted(xs, key=f), f a def of the text whose answers are (number, tuple of numbers, tuple of numbers): a new list of the same items. -/
namespace K43
open PySem PySem.Spec PyProof.Rows L2

/-! ### rows of numbers as data -/
theorem eqv_ints : ∀ ns ms : List Int, PyData.eqvAll (ns.map PyData.int) (ms.map PyData.int) = decide (ns = ms)
  | [], [] => rfl
  | [], m :: ms => rfl
  | n :: ns, [] => rfl
  | n :: ns, m :: ms => by
    show (PyData.eqv (.int n) (.int m) && PyData.eqvAll (ns.map PyData.int) (ms.map PyData.int)) = _
    rw [eqv_ints ns ms]
    show ((n == m) && decide (ns = ms)) = _
    by_cases h1 : n = m
    · subst h1
      by_cases h2 : ns = ms
      · subst h2; simp
      · simp [h2]
    · simp [h1]
theorem dpAll_ints {K : PySem.W.Frag} {H : Hp} : ∀ ns : List Int, DpAll K H (ns.map V.int) (ns.map PyData.int)
  | [] => .nil
  | n :: ns => .cons (.int n) (dpAll_ints ns)
theorem lay_ints : ∀ ns : List Int, PyData.canLayAll0 (ns.map PyData.int) = true
  | [] => rfl
  | n :: ns => by
    show (PyData.canLay0 (.int n) && PyData.canLayAll0 (ns.map PyData.int)) = true
    rw [lay_ints ns]; rfl
theorem depth_ints : ∀ ns : List Int, PyData.depthAll (ns.map PyData.int) ≤ 1
  | [] => by simp [PyData.depthAll]
  | n :: ns => by
    have h := depth_ints ns
    simp only [List.map_cons, PyData.depthAll, PyData.depth]
    omega
theorem shaped_ints (ns : List Int) : SeqAt.shaped (.tuple (ns.map PyData.int)) = true := by
  have h := depth_ints ns
  show (PyData.canLay0 (.tuple (ns.map PyData.int)) && decide (PyData.depth (.tuple (ns.map PyData.int)) ≤ 64)) = true
  rw [Bool.and_eq_true]
  refine ⟨by simp only [PyData.canLay0]; exact lay_ints ns, decide_eq_true ?_⟩
  simp only [PyData.depth]
  omega

/-! ### three-part keys -/
abbrev Key3 := Int × List Int × List Int
def lt3 (p q : Key3) : Bool := if p.1 = q.1 then (if p.2.1 = q.2.1 then HT.lexLt p.2.2 q.2.2 else HT.lexLt p.2.1 q.2.1) else decide (p.1 < q.1)
theorem lex_asym : ∀ a b : List Int, HT.lexLt a b = true → HT.lexLt b a = false
  | [], [], h => rfl
  | [], _ :: _, _ => rfl
  | _ :: _, [], h => by cases h
  | x :: xs, y :: ys, h => by
    rw [HT.lexLt_cons] at h ⊢
    by_cases e : x = y
    · rw [if_pos e] at h
      rw [if_pos e.symm]
      exact lex_asym xs ys h
    · rw [if_neg e] at h
      rw [if_neg (fun z => e z.symm)]
      have := of_decide_eq_true h
      exact decide_eq_false (by omega)
theorem lex_tri : ∀ a b : List Int, HT.lexLt a b = false → HT.lexLt b a = false → a = b
  | [], [], _, _ => rfl
  | [], _ :: _, h, _ => by cases h
  | _ :: _, [], _, h => by cases h
  | x :: xs, y :: ys, h1, h2 => by
    rw [HT.lexLt_cons] at h1 h2
    by_cases e : x = y
    · rw [if_pos e] at h1
      rw [if_pos e.symm] at h2
      rw [e, lex_tri xs ys h1 h2]
    · rw [if_neg e] at h1
      rw [if_neg (fun z => e z.symm)] at h2
      have a1 := of_decide_eq_false h1
      have a2 := of_decide_eq_false h2
      omega
theorem lex_trans : ∀ a b c : List Int, HT.lexLt a b = true → HT.lexLt b c = true → HT.lexLt a c = true
  | [], _, [], _, h => by
    rename_i b _
    cases b <;> cases h
  | [], _, _ :: _, _, _ => rfl
  | _ :: _, [], _, h, _ => by cases h
  | _ :: _, _ :: _, [], _, h => by cases h
  | x :: xs, y :: ys, z :: zs, h1, h2 => by
    rw [HT.lexLt_cons] at h1 h2 ⊢
    by_cases e1 : x = y
    · subst e1
      rw [if_pos rfl] at h1
      by_cases e2 : x = z
      · rw [if_pos e2] at h2 ⊢
        exact lex_trans xs ys zs h1 h2
      · rw [if_neg e2] at h2 ⊢
        exact h2
    · rw [if_neg e1] at h1
      have a1 := of_decide_eq_true h1
      by_cases e2 : y = z
      · subst e2
        rw [if_neg e1]
        exact h1
      · rw [if_neg e2] at h2
        have a2 := of_decide_eq_true h2
        rw [if_neg (by omega)]
        exact decide_eq_true (by omega)
theorem lt3_asym (p q : Key3) (h : lt3 p q = true) : lt3 q p = false := by
  unfold lt3 at h ⊢
  by_cases e : p.1 = q.1
  · rw [if_pos e] at h
    rw [if_pos e.symm]
    by_cases e2 : p.2.1 = q.2.1
    · rw [if_pos e2] at h
      rw [if_pos e2.symm]
      exact lex_asym _ _ h
    · rw [if_neg e2] at h
      rw [if_neg (fun z => e2 z.symm)]
      exact lex_asym _ _ h
  · rw [if_neg e] at h
    rw [if_neg (fun z => e z.symm)]
    have := of_decide_eq_true h
    exact decide_eq_false (by omega)
theorem lt3_tri (p q : Key3) (h1 : lt3 p q = false) (h2 : lt3 q p = false) : p = q := by
  unfold lt3 at h1 h2
  by_cases e : p.1 = q.1
  · rw [if_pos e] at h1
    rw [if_pos e.symm] at h2
    by_cases e2 : p.2.1 = q.2.1
    · rw [if_pos e2] at h1
      rw [if_pos e2.symm] at h2
      exact Prod.ext e (Prod.ext e2 (lex_tri _ _ h1 h2))
    · rw [if_neg e2] at h1
      rw [if_neg (fun z => e2 z.symm)] at h2
      exact absurd (lex_tri _ _ h1 h2) e2
  · rw [if_neg e] at h1
    rw [if_neg (fun z => e z.symm)] at h2
    have a1 := of_decide_eq_false h1
    have a2 := of_decide_eq_false h2
    omega
theorem lt3_trans (p q r : Key3) (h1 : lt3 p q = true) (h2 : lt3 q r = true) : lt3 p r = true := by
  unfold lt3 at h1 h2 ⊢
  by_cases e1 : p.1 = q.1
  · rw [if_pos e1] at h1
    by_cases e2 : q.1 = r.1
    · rw [if_pos e2] at h2
      rw [if_pos (e1.trans e2)]
      by_cases f1 : p.2.1 = q.2.1
      · rw [if_pos f1] at h1
        by_cases f2 : q.2.1 = r.2.1
        · rw [if_pos f2] at h2
          rw [if_pos (f1.trans f2)]
          exact lex_trans _ _ _ h1 h2
        · rw [if_neg f2] at h2
          rw [if_neg (fun z => f2 (f1.symm.trans z)), f1]
          exact h2
      · rw [if_neg f1] at h1
        by_cases f2 : q.2.1 = r.2.1
        · rw [if_pos f2] at h2
          rw [if_neg (fun z => f1 (z.trans f2.symm)), ← f2]
          exact h1
        · rw [if_neg f2] at h2
          have h3 := lex_trans _ _ _ h1 h2
          by_cases f3 : p.2.1 = r.2.1
          · rw [f3] at h3
            have h4 := lex_asym _ _ h3
            rw [h3] at h4
            cases h4
          · rw [if_neg f3]
            exact h3
    · rw [if_neg e2] at h2
      rw [if_neg (fun z => e2 (e1.symm.trans z)), e1]
      exact h2
  · rw [if_neg e1] at h1
    have a1 := of_decide_eq_true h1
    by_cases e2 : q.1 = r.1
    · rw [if_neg (fun z => e1 (z.trans e2.symm)), ← e2]
      exact h1
    · rw [if_neg e2] at h2
      have a2 := of_decide_eq_true h2
      rw [if_neg (by omega)]
      exact decide_eq_true (by omega)
theorem swo3 {α : Type} (key : α → Key3) : SrtO.Swo fun x y => lt3 (key x) (key y) where
  asym := fun x y h => lt3_asym _ _ h
  tr := fun x y z h1 h2 => by
    rcases SrtO.bcase (lt3 (key z) (key x)) with h | h
    · rcases SrtO.bcase (lt3 (key x) (key y)) with g | g
      · have := lt3_trans _ _ _ h g
        rw [h2] at this
        cases this
      · have e := lt3_tri _ _ g h1
        rw [e] at h
        rw [h] at h2
        cases h2
    · exact h

/-- x is such a key -/
def KeyV (H : Hp) (x : V) (k : Key3) : Prop := ∃ p a b, x = .ref p ∧ H p = some (.tup [.int k.1, .ref a, .ref b]) ∧ H a = some (.tup (k.2.1.map V.int)) ∧ H b = some (.tup (k.2.2.map V.int))
theorem KeyV.keep {H H' : Hp} {x : V} {k : Key3} (s : Same H H') (h : KeyV H x k) : KeyV H' x k := by
  obtain ⟨p, a, b, e, h1, h2, h3⟩ := h
  exact ⟨p, a, b, e, s _ _ h1, s _ _ h2, s _ _ h3⟩
def KeyU (H : Hp) (v : Value) (k : Key3) : Prop := ∃ x, RelV x v ∧ KeyV H x k
open Classical in
noncomputable def keyU (H : Hp) (v : Value) : Key3 := if h : ∃ k, KeyU H v k then h.choose else (0, [], [])
theorem keyU_spec {H : Hp} {v : Value} (h : ∃ k, KeyU H v k) : KeyU H v (keyU H v) := by
  unfold keyU
  rw [dif_pos h]
  exact h.choose_spec

section
variable {X : Cx} {pins : List (Addr × Obj)} {σ : L2.St} {H : Hp} {s : Shared}
/-- a tracked tuple of numbers as the machine has it -/
theorem ints_tup {a : Addr} {ns : List Int} (I : L2.Inv X pins σ H s) (h : H a = some (.tup (ns.map V.int))) : ∃ its : Array Value, IsTup s.heap a its ∧ IntsAre its.toList ns := by
  obtain ⟨its, r, t, _⟩ := I.tuple (SqT.of h)
  exact ⟨its.toArray, t, by simpa using r.ints⟩
theorem ints_eq {A : Around} {a b : Addr} {ns ms : List Int} (I : L2.Inv X pins σ H s) (ha : H a = some (.tup (ns.map V.int))) (hb : H b = some (.tup (ms.map V.int))) (hu : A.units + 64 < cLine) :
    SeqAt.EqAt A s (.ref a) (.ref b) (decide (ns = ms)) := by
  obtain ⟨as, r1⟩ := Dp.reads I (.tuple (ns.map .int)) (.ref a) (.ref a) (.tup (SqT.of ha) (dpAll_ints ns)) rfl
  obtain ⟨bs, r2⟩ := Dp.reads I (.tuple (ms.map .int)) (.ref b) (.ref b) (.tup (SqT.of hb) (dpAll_ints ms)) rfl
  have d1 := SeqAt.depth_of_shaped (shaped_ints ns)
  have q := SeqAt.eqAt_reads _ _ A s _ _ _ _ r1 r2 (SeqAt.canLay_of_shaped (shaped_ints ns)) (SeqAt.canLay_of_shaped (shaped_ints ms)) (by omega)
  have e : PyData.eqv (.tuple (ns.map .int)) (.tuple (ms.map .int)) = decide (ns = ms) := by
    show PyData.eqvAll (ns.map .int) (ms.map .int) = _
    exact eqv_ints ns ms
  rw [e] at q
  exact q
theorem cmp3 {A : Around} (I : L2.Inv X pins σ H s) (hu : A.units + 64 < cLine) :
    SrtO.Cmp X.prog X.w A s (tuples' true) (fun p => ∃ k, KeyU H p.1 k) (fun p q => lt3 (keyU H p.1) (keyU H q.1)) := by
  intro p q hp hq
  show wpAny (model X.prog X.w) A (keyLt' (tuples' true) p.1 q.1) (fun r s' => s' = s ∧ r = lt3 (keyU H p.1) (keyU H q.1)) (fun _ _ => False) s
  obtain ⟨x, rx, kx⟩ := keyU_spec hp
  obtain ⟨y, ry, ky⟩ := keyU_spec hq
  revert kx ky
  generalize keyU H p.1 = j
  generalize keyU H q.1 = k
  rintro ⟨ap, a1, a2, rfl, h1, h2, h3⟩ ⟨bp, b1, b2, rfl, g1, g2, g3⟩
  have ep : p.1 = Value.ref ap := rx
  have eq : q.1 = Value.ref bp := ry
  rw [ep, eq]
  obtain ⟨its, r, ⟨o, ho, hc, n, hd⟩, _⟩ := I.tuple (SqT.of h1)
  obtain ⟨its', r', ⟨o', ho', hc', n', hd'⟩, _⟩ := I.tuple (SqT.of g1)
  obtain ⟨u1, u2, u3, rfl, ru1, ru2, ru3⟩ : ∃ u1 u2 u3, its = [u1, u2, u3] ∧ RelV (.int j.1) u1 ∧ RelV (.ref a1) u2 ∧ RelV (.ref a2) u3 := by
    cases r with
    | cons r1 r => cases r with
      | cons r2 r => cases r with
        | cons r3 r => cases r; exact ⟨_, _, _, rfl, r1, r2, r3⟩
  obtain ⟨v1, v2, v3, rfl, rv1, rv2, rv3⟩ : ∃ u1 u2 u3, its' = [u1, u2, u3] ∧ RelV (.int k.1) u1 ∧ RelV (.ref b1) u2 ∧ RelV (.ref b2) u3 := by
    cases r' with
    | cons r1 r => cases r with
      | cons r2 r => cases r with
        | cons r3 r => cases r; exact ⟨_, _, _, rfl, r1, r2, r3⟩
  obtain ⟨t1, rfl⟩ := ru1
  obtain ⟨t2, rfl⟩ := rv1
  cases ru2; cases ru3; cases rv2; cases rv3
  refine PySem.W.kat_lt ho hd ho' hd' ?_
  show PySem.W.KatLex X.prog X.w A true false _ [(Value.int j.1 t1, Value.int k.1 t2), (Value.ref a1, Value.ref b1), (Value.ref a2, Value.ref b2)] 0 s
  refine PySem.W.kat_cons (wpAny_eqBool_int ?_)
  by_cases e1 : j.1 = k.1
  · rw [show (j.1 == k.1) = true from beq_iff_eq.mpr e1]
    refine PySem.W.kat_yes (PySem.W.kat_cons (ints_eq I h2 g2 hu _ _ _ _ ?_))
    by_cases e2 : j.2.1 = k.2.1
    · rw [decide_eq_true e2]
      refine PySem.W.kat_yes (PySem.W.kat_cons (ints_eq I h3 g3 hu _ _ _ _ ?_))
      by_cases e3 : j.2.2 = k.2.2
      · rw [decide_eq_true e3]
        refine PySem.W.kat_yes (PySem.W.kat_nil ⟨rfl, ?_⟩)
        unfold lt3
        rw [if_pos e1, if_pos e2, e3]
        rcases SrtO.bcase (HT.lexLt k.2.2 k.2.2) with z | z
        · have := lex_asym _ _ z
          rw [z] at this
          cases this
        · exact z.symm
      · rw [decide_eq_false e3]
        obtain ⟨i1, w1, m1⟩ := ints_tup I h3
        obtain ⟨i2, w2, m2⟩ := ints_tup I g3
        refine PySem.W.kat_no (PySem.W.kat_one _ _ (HT.lt_tupInts w1 w2 m1 m2 (by omega) ⟨rfl, ?_⟩))
        unfold lt3
        rw [if_pos e1, if_pos e2]
    · rw [decide_eq_false e2]
      obtain ⟨i1, w1, m1⟩ := ints_tup I h2
      obtain ⟨i2, w2, m2⟩ := ints_tup I g2
      refine PySem.W.kat_no (PySem.W.kat_one _ _ (HT.lt_tupInts w1 w2 m1 m2 (by omega) ⟨rfl, ?_⟩))
      unfold lt3
      rw [if_pos e1, if_neg e2]
  · rw [show (j.1 == k.1) = false from beq_eq_false_iff_ne.mpr e1]
    refine PySem.W.kat_no (TS.oneLt_ints _ ⟨rfl, ?_⟩)
    unfold lt3
    rw [if_neg e1]
/-- the kind of such keys -/
theorem kind3 {A : Around} {E : Value → Shared → Prop} {Q : SortKind → Shared → Prop} {xs : List V} {us : List Value} (I : L2.Inv X pins σ H s) (r : Vals xs us) (hk : ∀ x ∈ xs, ∃ k, KeyV H x k) (hne : 0 < us.length)
    (h : Q (tuples' true) s) : wpAny (model X.prog X.w) A (keyKind' us.toArray) Q E s := by
  have firsts : ∀ {xs : List V} {us : List Value}, Vals xs us → (∀ x ∈ xs, ∃ k, KeyV H x k) → ∃ fs : List Value, PySem.W.KatTups s.heap us fs ∧ fs.length = us.length ∧ ∀ f ∈ fs, ∃ n t, f = Value.int n t := by
    intro xs us r
    induction r with
    | nil => intro _; exact ⟨[], PySem.W.KatTups.nil, rfl, fun f hf => absurd hf (by simp)⟩
    | @cons x u xs us rx r ih =>
      intro hk
      obtain ⟨k, p, a, b, rfl, h1, _, _⟩ := hk _ List.mem_cons_self
      obtain ⟨fs, t, hl, hf⟩ := ih fun y hy => hk y (List.mem_cons_of_mem _ hy)
      obtain rfl : u = Value.ref p := rx
      obtain ⟨its, ri, ⟨o, ho, hc, n, hd⟩, _⟩ := I.tuple (SqT.of h1)
      cases ri with
      | cons r1 ri =>
        obtain ⟨t1, rfl⟩ := r1
        refine ⟨Value.int k.1 t1 :: fs, PySem.W.KatTups.cons ho hc hd (by simp) t, by simp [hl], fun f hf' => ?_⟩
        rcases List.mem_cons.mp hf' with e | hf'
        · exact ⟨k.1, t1, e⟩
        · exact hf f hf'
  obtain ⟨fs, t, hl, hf⟩ := firsts r hk
  refine PySem.W.kat_kind (T := Value.type "int") t (by omega) (fun f hm => ?_) rfl h
  obtain ⟨n, t, rfl⟩ := hf f hm
  exact PySem.W.Looks.of_pure rfl
end
end K43
set_option Elab.async false
set_option linter.all false
set_option maxRecDepth 100000
set_option maxHeartbeats 4000000
/-! the rule: sorted(xs, key=f). -/
namespace K43
open PySem PySem.Spec PyProof.Rows L2

/-- an object of ours that was not tracked is tracked from now on -/
theorem adopt {X : Cx} {pins : List (Addr × Obj)} {σ : L2.St} {H : Hp} {s : Shared} {p : Addr} {o : HO} (I : L2.Inv X pins σ H s) (f : FpOk X pins H p) (new : ObjOk X.prog X.w (upd H p o) s.heap p o) :
    L2.Inv X pins σ (upd H p o) s := by
  obtain ⟨hn, hL, hf, h1, h2, h3⟩ := f
  have np : ∀ b u, H b = some u → b ≠ p := fun b u e z => by rw [z, hn] at e; cases e
  refine I.step (h' := s.heap) (g' := s.gens) (d' := s.drawn) (t' := s.toks) (ch := [p]) (fun b hb => ?_) (fun b o _ _ _ e _ => e) (fun b o _ _ _ e _ => ⟨o.slots, e⟩) (fun b o hc e n => ?_) (fun b o _ e => ⟨o, e⟩)
    (fun b xs e => by rw [upd_ne (np b _ e)]; exact e) (fun b o u e => by rw [upd_ne (np b _ e)]; exact e) (fun b ps e => ⟨#[], by rw [upd_ne (np b _ e), e]; simp⟩) (fun m hm => hm) (fun b u e => ?_) I.bare
  · obtain rfl : b = p := by simpa using hb
    exact ⟨h1, hL, h2, h3⟩
  · rw [upd_ne (fun z => hc (by simp [z]))]
    exact n
  · by_cases hb : b = p
    · subst hb
      rw [upd_same] at e
      cases e
      exact new
    · rw [upd_ne hb] at e
      exact (I.hok b u e).stay (fun c v _ q => q) (fun c q => by rw [upd_ne (np c _ q)]; exact q) fun c xs q => by rw [upd_ne (np c _ q)]; exact q
theorem vals_perm {out its : List Value} (h : out.Perm its) : ∀ {xs : List V}, Vals xs its → ∃ ys, Vals ys out ∧ ys.Perm xs := by
  induction h with
  | nil => intro xs r; exact ⟨xs, r, List.Perm.refl _⟩
  | cons u _ ih =>
    intro xs r
    cases r with
    | cons r1 r =>
      obtain ⟨ys, h1, h2⟩ := ih r
      exact ⟨_ :: ys, .cons r1 h1, h2.cons _⟩
  | swap u v l =>
    intro xs r
    cases r with
    | cons r1 r => cases r with
      | cons r2 r => exact ⟨_ :: _ :: _, .cons r2 (.cons r1 r), List.Perm.swap ..⟩
  | trans _ _ ih1 ih2 =>
    intro xs r
    obtain ⟨ys, h1, h2⟩ := ih2 r
    obtain ⟨zs, h3, h4⟩ := ih1 h1
    exact ⟨zs, h3, h4.trans h2⟩

section
variable {X : Cx} {k : Nat} {f : Addr} {x1 : Str} {sp : Sp}
/-- the question: f's promise at each item, over whatever has come to the heap; then a new list of the same items -/
def rSortF (K : PySem.W.Frag) (f : Addr) (sp : Sp) : List V → List V → Hp → VK → Prop := fun vs zs H Q => ∃ (a : Addr) (xs : List V), vs = [V.ref a] ∧ zs = [V.ref f] ∧ SqL K H a xs ∧
  (∀ x ∈ xs, ∀ H1, Same H H1 → sp [x] H1 (fun v H2 => Same H1 H2 ∧ ∃ j, KeyV H2 v j) E0) ∧
  ∀ (H' : Hp) (ys : List V) (p : Addr), Same H H' → ys.Perm xs → H' p = none → Q (.ref p) (upd H' p (.lst ys))
theorem cr_sortF (G : OkX X k f [x1] sp) (hr : Room (k + 2) X.A) : CallRK X (.builtin "sorted") [Str.ofString "key"] (rSortF X.K f sp) := by
  intro pins s σ H vs zs us ws Q I r rz h
  obtain ⟨a, xs, rfl, rfl, hs, hk, q⟩ := h
  obtain rfl := Vals.ref1 r
  obtain ⟨w1, rfl, e1⟩ := vals1 rz
  obtain rfl : w1 = Value.ref f := e1
  obtain ⟨⟨fd, F, bnd⟩, _⟩ := G
  obtain ⟨its, rv, hl, hz⟩ := I.list hs
  have hz' : its.length ≤ sizeLine := by rw [← rv.length]; exact hz
  show wpAny _ _ (call (.builtin "sorted") [.ref a] [(Str.ofString "key", Value.ref f)]) _ _ _
  refine call_function_entry_kw kind_sorted plain_sorted entry_sorted (ksk_s1 _ _) ?_
  unfold Builtin.«sorted»
  refine wpAny_bind (m := checkCount "sorted" 1 1 _) (wpAny_pure ?_)
  refine wpAny_bind (collect_list hl.isList ?_ hz')
  refine wpAny_bind (wpAny_newList ?_ hz')
  have hsz : ((s.heap.push (seqObj "list" #[] 0)).update s.heap.objs.size (Obj.mapSeq (· ++ its.toArray))).objs.size = s.heap.objs.size + 1 := by
    rw [Heap.size_update, size_push']
  dsimp only
  rw [hsz]
  generalize hh1 : ((s.heap.push (seqObj "list" #[] 0)).update s.heap.objs.size (Obj.mapSeq (· ++ its.toArray))).push (seqObj "list" its.toArray 0) = g1
  have hoL : g1.get? (s.heap.objs.size + 1) = some (seqObj "list" its.toArray 0) := by
    rw [← hh1, ← hsz]; exact Heap.get?_push_size _ rfl
  have keep1 : ∀ b o, s.heap.get? b = some o → g1.get? b = some o := fun b o z => by
    have hlt : b < s.heap.objs.size := Heap.lt_size z
    rw [← hh1]
    refine Heap.get?_push_of_some _ ?_
    rw [Heap.get?_update_ne _ _ _ _ (Nat.ne_of_lt hlt)]
    exact Heap.get?_push_of_some _ z
  have sz1 : g1.objs.size = s.heap.objs.size + 2 := by rw [← hh1, size_push', hsz]
  generalize hD : s.heap.objs.size + 1 = D at hoL
  have geD : s.heap.objs.size ≤ D := by omega
  refine wpAny_bind (wpAny_holding (wpAny_call_entry_kw slot_list_sort ⟨_, hoL, rfl⟩ entry_list_sort ?_ (ksk_l1 _ _)))
  rw [ksk_t1]
  unfold ksk_tree
  refine wpAny_bind (listItems_at hoL rfl ?_)
  refine wpAny_bind (listUpdate_at hoL rfl ?_ (by rw [List.size_toArray]; exact hz') (Nat.zero_le _))
  obtain ⟨e1, hoE⟩ : ∃ e1, (g1.update D (Obj.mapSeq fun _ => (#[] : Array Value))).get? D = some (seqObj "list" #[] e1) := ⟨_, get?_update_seq hoL fun _ => #[]⟩
  refine wpAny_bind (seqEpoch_at hoE rfl ?_)
  refine wpAny_bind (wpAny_newTuple ?_ (by show its.length ≤ _; exact hz'))
  refine wpAny_bind (wpAny_newList ?_ (Nat.zero_le _))
  refine wpAny_holding ?_
  generalize hh3 : ((g1.update D (Obj.mapSeq fun _ => (#[] : Array Value))).push (seqObj "tuple" its.toArray 0)).push (seqObj "list" #[] 0) = g3
  have skS : ((g1.update D (Obj.mapSeq fun _ => (#[] : Array Value))).push (seqObj "tuple" its.toArray 0)).objs.size = s.heap.objs.size + 3 := by
    rw [size_push', Heap.size_update, sz1]
  generalize hkS : ((g1.update D (Obj.mapSeq fun _ => (#[] : Array Value))).push (seqObj "tuple" its.toArray 0)).objs.size = kS at skS
  have geK : s.heap.objs.size ≤ kS := by omega
  have neKD : kS ≠ D := by omega
  have atD : g3.get? D = some (seqObj "list" #[] e1) := by
    rw [← hh3]; exact Heap.get?_push_of_some _ (Heap.get?_push_of_some _ hoE)
  have atK : g3.get? kS = some (seqObj "list" #[] 0) := by
    rw [← hh3, ← hkS]; exact Heap.get?_push_size _ rfl
  have keep3 : ∀ b o, s.heap.get? b = some o → g3.get? b = some o := fun b o z => by
    have hlt : b < s.heap.objs.size := Heap.lt_size z
    rw [← hh3]
    refine Heap.get?_push_of_some _ (Heap.get?_push_of_some _ ?_)
    rw [Heap.get?_update_ne _ _ _ _ (Nat.ne_of_lt (Nat.lt_of_lt_of_le hlt geD))]
    exact keep1 b o z
  have fD := (I.fpOk geD (I.hok.fresh geD)).2
  have fK := (I.fpOk geK (I.hok.fresh geK)).2
  have I3 : L2.Inv X pins σ H { s with heap := g3 } := I.kept (t' := s.toks) keep3
  -- both lists pinned
  have pin2 : ∀ {H' : Hp} {s' : Shared} {kA : Array Value} {e e' : Nat} {dA : Array Value}, L2.Inv X pins σ H' s' → H' kS = none → H' D = none → s'.heap.get? kS = some (seqObj "list" kA e) → s'.heap.get? D = some (seqObj "list" dA e') →
      L2.Inv X (pins ++ [(kS, seqObj "list" kA e), (D, seqObj "list" dA e')]) σ H' s' := fun {H' s' kA e e' dA} I' n1 n2 g1 g2 => I'.pins_of fun p hp => by
    rcases List.mem_append.mp hp with hp | hp
    · exact I'.pin p (List.mem_append_right _ hp)
    · rcases List.mem_cons.mp hp with rfl | hp
      · exact ⟨g1, n1, fK.1, fK.2.1, fun v z => by cases z⟩
      · rw [List.mem_singleton.mp hp]
        exact ⟨g2, n2, fD.1, fD.2.1, fun v z => by cases z⟩
  have unpin : ∀ {H' : Hp} {s' : Shared} {more : List (Addr × Obj)}, L2.Inv X (pins ++ more) σ H' s' → L2.Inv X pins σ H' s' := fun I' => I'.unpinned
  have frm : FnOk X.prog X.w X.K X.mg X.base CX0 k f fd [x1] sp := F
  unfold ksk_rest
  refine wpAny_bind (wpAny_rule ?_)
  first
    | rw [List.forIn_toArray]
    | (rw [← Array.forIn_toList]; simp only [List.toList_toArray])
    | rw [← Array.forIn_toList]
  refine wpAny_bind (ksk_fold (fun i s' => ∃ (Hi : Hp) (kA : Array Value) (e : Nat) (kxs : List V), L2.Inv X (pins ++ [(kS, seqObj "list" kA e), (D, seqObj "list" #[] e1)]) σ Hi s' ∧ Same H Hi ∧ Vals kxs kA.toList ∧ kxs.length = i ∧
      (∀ x ∈ kxs, ∃ j, KeyV Hi x j)) its 0 _
    ⟨H, #[], 0, [], pin2 I3 (I.hok.fresh geK) (I.hok.fresh geD) atK atD, Same.refl _, .nil, rfl, fun x hx => absurd hx (by simp)⟩ ?step ?done)
  case step =>
    rintro j u s' hu ⟨Hi, kA, e, kxs, Ii, si, vi, li, ki⟩
    simp only [Nat.zero_add] at li ⊢
    obtain ⟨hj, _⟩ := List.getElem?_eq_some_iff.mp hu
    have hjx : j < xs.length := by rw [rv.length]; exact hj
    obtain ⟨u', hu', rx⟩ := Vals.get rv (List.getElem?_eq_getElem hjx)
    rw [hu] at hu'
    cases hu'
    have hsp := hk xs[j] (List.getElem_mem hjx) Hi si
    have rA : Room k X.A.in1.in1 := (hr.in1).in1
    have bb : BindsTo s' fd ⟨[u], []⟩ ([x1].zip [u]) := by
      have := bnd s' [u] Ii.kIn (by simp)
      simpa using this
    have call1 : wpAny (model X.prog X.w) X.A.in1.in1 (call (.ref f) [u]) (EP X (pins ++ [(kS, seqObj "list" kA e), (D, seqObj "list" #[] e1)]) σ (fun v H2 => Same Hi H2 ∧ ∃ j, KeyV H2 v j)) (fun _ _ => False) s' := by
      refine wpAny_call (codeAny_mono (frm.run X.A.in1.in1 X.stack s' Hi ⟨[u], []⟩ [u] [xs[j]] _ E0 rA Ii.env0.in1.in1 bb (.cons rx .nil) hsp) fun r s2 hq => ?_)
      cases r with
      | error e => exact False.elim hq
      | ok fl =>
        cases fl with
        | ret w => exact Ii.after hq
        | next => exact False.elim hq
        | brk => exact False.elim hq
        | cont => exact False.elim hq
    refine wpAny_bind (wpAny_attempt (wpAny_mono call1 (fun v s2 h2 => ?_) fun _ _ hF => hF.elim))
    obtain ⟨y, H2, I2, ry, s2', ky⟩ := h2
    dsimp only
    have pk := I2.pin (kS, seqObj "list" kA e) (List.mem_append_right _ (List.mem_append_right _ (.head _)))
    have pd := I2.pin (D, seqObj "list" #[] e1) (List.mem_append_right _ (List.mem_append_right _ (.tail _ (.head _))))
    have hkA : kA.size ≤ its.length := by
      have h1 := vi.length
      have h2 : kA.toList.length = kA.size := Array.length_toList
      omega
    have s1 := Heap.SameBut.update s2.heap kS (Obj.mapSeq (·.push v))
    obtain ⟨c2, hc2⟩ : ∃ c2, (s2.heap.update kS (Obj.mapSeq (·.push v))).get? kS = some (seqObj "list" (kA.push v) c2) := ⟨_, get?_update_seq pk.1 (·.push v)⟩
    refine wpAny_bind (listUpdate_at pk.1 rfl ?_ (by omega) (Nat.le_trans (Nat.le_of_eq (Array.size_push ..)) (by omega)))
    have I4 : L2.Inv X pins σ H2 { s2 with heap := s2.heap.update kS (Obj.mapSeq (·.push v)) } :=
      (unpin I2).turned (t' := s2.toks) (fun b o hb z => (s1.2 b hb).trans z) pk.2.1 fK.1 fK.2.2.1 fK.2.2.2.1 fK.2.2.2.2
    refine wpAny_pure ⟨rfl, H2, kA.push v, c2, kxs ++ [y], pin2 I4 pk.2.1 pd.2.1 hc2 ((s1.2 D neKD.symm).trans pd.1), si.trans s2', ?_, by simp [li], fun x hx => ?_⟩
    · rw [Array.toList_push]
      exact vi.append (.cons ry .nil)
    · rcases List.mem_append.mp hx with hx | hx
      · obtain ⟨j', kv⟩ := ki x hx
        exact ⟨j', kv.keep s2'⟩
      · rw [List.mem_singleton.mp hx]
        exact ky
  case done =>
    rintro s' ⟨Hi, kA, e, kxs, Ii, si, vi, li, ki⟩
    have pk := Ii.pin (kS, seqObj "list" kA e) (List.mem_append_right _ (List.mem_append_right _ (.head _)))
    have pd := Ii.pin (D, seqObj "list" #[] e1) (List.mem_append_right _ (List.mem_append_right _ (.tail _ (.head _))))
    have szA : kA.size = its.length := by
      have h1 := vi.length
      have h2 : kA.toList.length = kA.size := Array.length_toList
      omega
    try dsimp only
    refine wpAny_bind (listItems_at pk.1 rfl ?_)
    unfold ksk_end
    simp only [Bool.false_eq_true, if_false]
    -- what is left behind the sort, for any order of the pairs
    have fin : ∀ (st : SortSt), (arrOf st).toList.Perm (kA.zip its.toArray).toList → failedOf st = none →
        wpAny (model X.prog X.w) X.A.in1.in1 (ksk_tail D false e1 (.ref kS) st) (fun fin s2 => ∃ v, fin = .done (.ret v) ∧ wpAny (model X.prog X.w) X.A.in1 (pure (PySem.Fin.done (.ret (.ref D)))) (fun fin s3 => ∃ v, fin = .done (.ret v) ∧ EP X pins σ Q v s3) X.xe s2) X.xe s' := by
      intro st hp hfl
      have hout : ((arrOf st).map (·.2)).toList.Perm its := by
        have h1 := hp.map Prod.snd
        have h2 : ((kA.zip its.toArray).toList).map Prod.snd = its := by
          rw [ksk_zip]
          exact List.map_snd_zip (by have h3 : kA.toList.length = kA.size := Array.length_toList; omega)
        rw [h2] at h1
        rw [Array.toList_map]
        exact h1
      have szo : ((arrOf st).map (·.2)).size = its.length := by
        have h1 := hout.length_eq
        have h2 : ((arrOf st).map (·.2)).toList.length = ((arrOf st).map (·.2)).size := Array.length_toList
        omega
      obtain ⟨ys, vy, py⟩ := vals_perm hout rv
      have s1 := Heap.SameBut.update s'.heap kS (Obj.mapSeq fun _ => (#[] : Array Value))
      have na1 : (s'.heap.update kS (Obj.mapSeq fun _ => (#[] : Array Value))).get? D = some (seqObj "list" #[] e1) := (s1.2 D neKD.symm).trans pd.1
      have s2 := Heap.SameBut.update (s'.heap.update kS (Obj.mapSeq fun _ => (#[] : Array Value))) D (Obj.mapSeq fun _ => (arrOf st).map (·.2))
      obtain ⟨c2, hc2⟩ : ∃ c2, ((s'.heap.update kS (Obj.mapSeq fun _ => (#[] : Array Value))).update D (Obj.mapSeq fun _ => (arrOf st).map (·.2))).get? D = some (seqObj "list" ((arrOf st).map (·.2)) c2) :=
        ⟨_, get?_update_seq na1 fun _ => (arrOf st).map (·.2)⟩
      unfold ksk_tail
      try dsimp only
      refine wpAny_bind (listUpdate_at pk.1 rfl ?_ (by omega) (Nat.zero_le _))
      refine wpAny_bind (wpAny_letGo ?_)
      refine wpAny_bind (seqEpoch_at na1 rfl ?_)
      refine wpAny_bind (listUpdate_at na1 rfl ?_ (Nat.zero_le _) (Nat.le_trans (Nat.le_of_eq (by simp only [Bool.false_eq_true, if_false]; exact szo)) (by omega)))
      rw [hfl]
      simp only [bne_self_eq_false, Bool.false_eq_true, if_false]
      have J1 : L2.Inv X pins σ Hi { s' with heap := s'.heap.update kS (Obj.mapSeq fun _ => (#[] : Array Value)) } :=
        (unpin Ii).turned (t' := s'.toks) (fun b o hb z => (s1.2 b hb).trans z) pk.2.1 fK.1 fK.2.2.1 fK.2.2.2.1 fK.2.2.2.2
      have J2 : L2.Inv X pins σ Hi { s' with heap := (s'.heap.update kS (Obj.mapSeq fun _ => (#[] : Array Value))).update D (Obj.mapSeq fun _ => (arrOf st).map (·.2)) } :=
        J1.turned (t' := s'.toks) (fun b o hb z => (s2.2 b hb).trans z) pd.2.1 fD.1 fD.2.2.1 fD.2.2.2.1 fD.2.2.2.2
      have lenY : ys.length ≤ sizeLine := by rw [py.length_eq]; exact hz
      have J3 : L2.Inv X pins σ (upd Hi D (.lst ys)) { s' with heap := (s'.heap.update kS (Obj.mapSeq fun _ => (#[] : Array Value))).update D (Obj.mapSeq fun _ => (arrOf st).map (·.2)) } :=
        adopt J2 ⟨pd.2.1, fD⟩ ⟨lenY, ((arrOf st).map (·.2)).toList, c2, vy, by rw [Array.toArray_toList]; exact hc2⟩
      exact wpAny_pure ⟨_, rfl, wpAny_pure ⟨_, rfl, V.ref D, _, J3, rfl, q Hi ys D si py pd.2.1⟩⟩
    by_cases h2 : its.toArray.size < 2
    · rw [if_pos h2, if_pos h2]
      refine wpAny_bind (wpAny_pure ?_)
      rw [StateT.run_pure]
      refine wpAny_bind (wpAny_pure ?_)
      exact fin (SortSt.mk' general' (kA.zip its.toArray) #[] 7 none) (List.Perm.refl _) rfl
    · rw [if_neg h2, if_neg h2]
      rw [List.size_toArray] at h2
      have hu : X.A.in1.in1.units + 64 < cLine := (hr.in1.in1).units
      have ek : kA = kA.toList.toArray := by rw [Array.toArray_toList]
      have kind := kind3 (A := X.A.in1.in1) (E := X.xe) (Q := fun κ s2 => κ = tuples' true ∧ s2 = s') Ii vi ki (by have h3 : kA.toList.length = kA.size := Array.length_toList; omega) ⟨rfl, rfl⟩
      rw [← ek] at kind
      refine wpAny_bind (wpAny_mono kind (fun κ s2 hκ => ?_) fun _ _ z => z)
      obtain ⟨rfl, rfl⟩ := hκ
      have hall : SrtO.AllL (fun p : Keyed => ∃ j, KeyU Hi p.1 j) (kA.zip its.toArray).toList := fun p hm => by
        rw [ksk_zip] at hm
        obtain ⟨i, hi, ei⟩ := List.mem_iff_getElem.mp (List.of_mem_zip hm).1
        have hix : i < kxs.length := by rw [vi.length]; exact hi
        obtain ⟨w', hw', rw'⟩ := Vals.get vi (List.getElem?_eq_getElem hix)
        rw [List.getElem?_eq_getElem hi] at hw'
        cases hw'
        obtain ⟨j, kv⟩ := ki kxs[i] (List.getElem_mem hix)
        exact ⟨j, kxs[i], by rw [← ei]; exact rw', kv⟩
      refine wpAny_bind (wpAny_mono (SrtO.wpS_sortO (st0 := SortSt.mk' (tuples' true) (kA.zip its.toArray) #[] 7 none)
        (Q := fun _ st' => (arrOf st').toList.Perm (kA.zip its.toArray).toList ∧ failedOf st' = none) (swo3 fun p : Keyed => keyU Hi p.1) (cmp3 Ii hu) rfl hall rfl rfl fun st' _ a2 a3 => ⟨a2.perm, a3⟩) ?_ fun _ _ z => z)
      rintro ⟨⟨⟩, st'⟩ s3 ⟨rfl, hp, hf⟩
      exact fin st' hp hf
end
end K43
set_option Elab.async false
set_option linter.all false
set_option maxRecDepth 100000
set_option maxHeartbeats 4000000
/-! set(xs) of a list of whole numbers, as a rule. -/
namespace K43
open PySem PySem.Spec PyProof.Rows L2

section
variable {prog : Program} {w : World} {A : Around} {E : Value → Shared → Prop} {s : Shared}
/-- a built-in class called: its new, then its init, whose argument check is a premise -/
theorem type_call {T newId initId : String} {Bi : Builtin} {args : List Value} {Q Q1 : Value → Shared → Prop} (ft : TypeCalled T newId initId) (hct : checkTypeCall T ⟨args, []⟩ = pure ()) (entryI : entryFor table initId = some Bi)
    (hnew : codeAny (model prog w) A.in1 (.call (.builtin newId) ⟨.type T :: args, []⟩) (wants Q1 E) s)
    (hnext : ∀ obj s1, Q1 obj s1 → s1.TypeIs obj T ∧ ∀ {M : Model} {A2 : Around} {E2 : Value → Shared → Prop} {Q2 : Unit → Shared → Prop}, Q2 () s1 → wpAny M A2 (checkBuiltinCall initId ⟨obj :: args, []⟩) Q2 E2 s1)
    (hrun : ∀ obj s1, Q1 obj s1 → wpAny (model prog w) A.in1.in1 (Bi ⟨obj :: args, []⟩)
        (fun fin s' => match fin with | .done f => wants (fun r s2 => r = .none ∧ Q obj s2) E (.ok f) s' | .again c' => c'.quiet = true ∧ codeAny (model prog w) A.in1 c' (wants (fun r s2 => r = .none ∧ Q obj s2) E) s')
        (fun e s' => wants (fun r s2 => r = .none ∧ Q obj s2) E (.error e) s') s1) : wpAny (model prog w) A (call (.type T) args) Q E s := by
  obtain ⟨c, tl, hmro⟩ := ft.mro
  have m1 := ft.made
  have m2 := ft.sub
  refine wpAny_call (codeAny_of_tree ?_)
  show wpAny _ _ (callAny (.type T) _) _ _ _
  refine wpAny_pure ⟨Code.quiet_builtin _ (by decide +kernel), codeAny_builtin F.entry_type_call ?_⟩
  rw [Around.under_plain (weight_type_call_type T args []) rfl]
  have m3 := ft.notType
  have m4 := ft.canCreate
  repeat (any_goals (first | assumption | wp_step))
  refine codeAny_mono hnew fun r s1 hr => ?_
  cases r with
  | error e => exact hr
  | ok fl =>
    cases fl with
    | ret obj =>
      obtain ⟨hT, hck⟩ := hnext _ _ hr
      have hsi := hrun _ _ hr
      have m5 := ft.init.lookup
      have m6 := ft.init.bind obj
      repeat (any_goals (first | assumption | wp_step))
      refine codeAny_mono (codeAny_call_builtin ft.init.plain entryI (hck hsi)) fun r2 s2 hr2 => ?_
      cases r2 with
      | error e => exact hr2
      | ok fl2 =>
        cases fl2 with
        | ret r =>
          obtain ⟨rfl, hq⟩ := hr2
          repeat (any_goals (first | assumption | wp_step))
        | _ => exact hr2.elim
    | _ => exact hr.elim
end
/-- the new set at the heap's end -/
abbrev freshSet (w : World) : Obj := { cls := .type "set", dict := none, data := .set #[] 0 (.fresh 0 0 (!w.params.followText "set-order")) }
section
variable {P : Program} {w : World} {A : Around} {E : Value → Shared → Prop} {s : Shared}
theorem set_of_ints {l : Addr} {items : Array Value} (ns : List Int) {Q : Value → Shared → Prop} (hh : A.handled = none) (hl : s.heap.IsList l items) (hit : IntsAre items.toList ns) (hb : ns.length + 1 < scanBound)
    (h : ∀ (h' : Heap) (tk c : Nat), SetR w h' s.heap.objs.size (fun j => decide (j ∈ ns)) c → c ≤ ns.length → (∀ b o, s.heap.get? b = some o → h'.get? b = some o) →
      Q (.ref s.heap.objs.size) { s with heap := h', toks := tk }) : wpAny (model P w) A (call (.type "set") [.ref l]) Q E s := by
  have hsz : items.size = ns.length := by
    have q := IntsAre.length hit
    have q2 : items.toList.length = items.size := Array.length_toList
    omega
  have hS : (s.heap.push (freshSet w)).get? s.heap.objs.size = some (freshSet w) := Heap.get?_push_size _ rfl
  refine type_call (Q1 := fun obj s1 => obj = .ref s.heap.objs.size ∧ s1 = { s with heap := s.heap.push (freshSet w) }) F.called_set (F.typeCall_set_1 _) F.entry_set_init (code_set_led1 (.ref l) ⟨rfl, rfl⟩)
    (by rintro obj s1 ⟨rfl, rfl⟩; exact ⟨⟨_, hS, rfl⟩, fun hq => check_set_init_1 ⟨_, hS, rfl⟩ hq⟩) ?_
  rintro obj s1 ⟨rfl, rfl⟩
  obtain ⟨⟨oc, od, odat, osl⟩, hol, hcl, nl, hdl⟩ := hl
  simp only at hcl hdl
  subst hcl hdl
  have hlS : l < s.heap.objs.size := Heap.lt_size hol
  have hol' : (s.heap.push (freshSet w)).get? l = some { cls := .type "list", dict := od, data := .seq items nl, slots := osl } := Heap.get?_push_of_some _ hol
  have hT : Shared.TypeIs { s with heap := s.heap.push (freshSet w) } (.ref s.heap.objs.size) "set" := ⟨_, hS, rfl⟩
  have a1 := F.sub_list_set
  have a2 := F.sub_list_frozenset
  have a3 : (Value.type "list" == Value.type "dict") = false := by decide
  have hl1 : (s.heap.push (freshSet w)).IsList l items := ⟨_, hol', rfl, nl, rfl⟩
  unfold Builtin.«set.__init__» noKeywords Builtin.Frozenset.updateFrom
  generalize hPI : pyIter = PI
  wp_walk
  subst hPI
  refine wpAny_pyIter_list hl1 ?_
  refine wpAny_bind (wpAny_runValue ?_)
  have neI : l ≠ (s.heap.push (freshSet w)).objs.size := by
    rw [Heap.size_push]; exact Nat.ne_of_lt (Nat.lt_succ_of_lt hlS)
  have nmem : s.heap.objs.size ∉ [(s.heap.push (freshSet w)).objs.size, l] := by
    rw [Heap.size_push]
    intro z
    rcases List.mem_cons.mp z with z | z
    · exact absurd z (Nat.ne_of_lt (Nat.lt_succ_self _))
    · exact absurd (List.mem_singleton.mp z) (Nat.ne_of_gt hlS)
  have hval : ∀ (i : Nat) (v : Value), items[i]? = some v → ∃ k t, ns[i]? = some k ∧ v = .int k t := fun i v hv => by
    have hi : i < ns.length := by rw [← hsz]; exact (Array.getElem?_eq_some_iff.mp hv).1
    obtain ⟨t, e⟩ := PyProof.Rows.IntsAre.int_at hit i v (by rw [Array.getElem?_toList]; exact hv)
    refine ⟨ns[i], t, List.getElem?_eq_getElem hi, ?_⟩
    rw [e, List.getD_eq_getElem?_getD, List.getElem?_eq_getElem hi] <;> rfl
  refine set_update_ints ((Walks.list (by simp [hh]) _ l neI items).toS) s.heap.objs.size nmem ns hsz hb hval (items.size - 0) 0 _ (by omega) (Nat.zero_le _)
    ⟨⟨_, Heap.get?_push_size _ rfl, rfl, rfl⟩, hl1.push _⟩ ⟨0, Nat.le_refl 0, setR_new_at (Heap.get?_push_of_some _ hS)⟩ fun s2 c hm hc hR => ?_
  obtain ⟨h2, g2, d2, t2, os2⟩ := s2
  have eg : g2 = s.gens := hm.gens
  have ed : d2 = s.drawn := hm.drawn
  have eo : os2 = s.os := hm.os
  subst eg ed eo
  refine wpAny_pure ?_
  show wpAny _ _ (ret Value.none) _ _ _
  rw [hsz] at hc
  refine wpAny_pure ⟨rfl, h h2 t2 c hR hc fun b o e => ?_⟩
  have hb0 : b < s.heap.objs.size := Heap.lt_size e
  refine hm.heap b o (fun z => ?_) (Heap.get?_push_of_some _ (Heap.get?_push_of_some _ e))
  rcases List.mem_cons.mp z with z | z
  · exact absurd z (Nat.ne_of_lt hb0)
  · have z2 := List.mem_singleton.mp z
    rw [Heap.size_push] at z2
    exact absurd z2 (Nat.ne_of_lt (Nat.lt_succ_of_lt hb0))
end
section
variable {X : Cx}
def rSetL (K : PySem.W.Frag) (w : World) : List V → Hp → VK → Prop := fun vs H Q => ∃ (a : Addr) (ns : List Int), vs = [V.ref a] ∧ SqL K H a (ns.map V.int) ∧ ns.length ≤ 1000 ∧
  ∀ (p : Addr) (c : Nat), H p = none → c ≤ ns.length → Q (.ref p) (upd H p (SetO w p (fun j => decide (j ∈ ns)) c))
theorem cr_setL (hc : X.calm = true) : CallR X (.type "set") (rSetL X.K X.w) := by
  intro pins s σ H vs us Q I r h
  obtain ⟨a, ns, rfl, hs, hn, q⟩ := h
  obtain rfl := Vals.ref1 r
  obtain ⟨its, rv, hl, hz⟩ := I.list hs
  refine set_of_ints ns (I.ok.hd hc) hl.isList (by simpa using rv.ints) (by unfold scanBound; omega) fun h' tk c R hc' k => ?_
  exact ⟨.ref s.heap.objs.size, _, I.laid (t' := tk) k (Nat.le_refl _) (setO_new R), rfl, q _ c (I.hok.fresh (Nat.le_refl _)) hc'⟩
end
end K43
set_option Elab.async false
set_option linter.all false
set_option maxRecDepth 100000
set_option maxHeartbeats 4000000
/-! {k: v}, k a tuple of numbers or texts: a written dict of one pair. -/
namespace K43
open PySem PySem.Spec PyProof.Rows L2
def tDispT1 (tk tv : TE) : TE := fun σ H Q => ∀ p, H p = none → tk σ (upd H p (.dT [])) fun x H1 => tv σ H1 fun y H2 => H2 p = some (.dT []) ∧
  ∃ (b : Addr) (ks : List L2.Key), x = .ref b ∧ H2 b = some (.tup (ks.map kV)) ∧ Q (.ref p) (upd H2 p (.dT [(ks, y)]))
section
variable {X : Cx} {k v : Expr} {pos : Pos} {tk tv : TE}
theorem pe_dispT1 (hu : X.A.units + 1 < cLine) (hk : PE X k tk) (hv : PE X v tv) : PE X (.Dict [some k] [v] pos) (tDispT1 tk tv) := by
  refine ⟨fun pins s σ H Q I q => ?_⟩
  have hn := I.hok.fresh (Nat.le_refl s.heap.objs.size)
  have I1 := I.laid (a := s.heap.objs.size) (o := .dT []) (h' := s.heap.push { cls := .type "dict", data := .dict #[] }) (t' := s.toks) (fun _ _ z => Heap.get?_push_of_some _ z) (Nat.le_refl _) (dt_empty s.heap I.big)
  rw [arm_eval_Dict, zip_pairTrees [some k] [v] X.env pos rfl rfl, dictDisplay_pairs (pairTrees [some k] [v] X.env pos) (by simp [pairTrees]) (by simp [pairTrees])]
  refine wpAny_bind (wpAny_standAt (wpAny_bind (wpAny_subDictH (knd := tupleKind (mixKind X.prog X.w)) (Q := fun d s' => wpAny (model X.prog X.w) X.A (pure (Value.ref d)) (EP X pins σ Q) X.xe s') (show X.A.units < cLine from Nat.lt_trans (Nat.lt_succ_self _) hu) (by simp [pairTrees]) ?_)))
  refine pairTrees_cons_walk (thn (hk.run pins _ σ _ _ I1 (q _ hn)) fun u s1 ⟨x, H1, J1, rx, q1⟩ => thn (hv.run pins s1 σ H1 _ J1 q1) fun w2 s2 h2 => pairTrees_nil_walk ?_)
  obtain ⟨y, H2, J2, ry, e, b, ks, ex, eb, q2⟩ := h2
  subst ex
  obtain rfl : u = Value.ref b := rx
  obtain ⟨z, hd, xs0, r0, dd⟩ := dt_of J2.hok e
  cases r0
  refine ⟨[(ks, b, w2)], ⟨rfl, rfl, key_of J2.hok eb, trivial⟩, dd, fun h' tk dd' hs => wpAny_pure ⟨.ref s.heap.objs.size, _, ?_, rfl, q2⟩⟩
  obtain ⟨o, es, ep, hq, hx, hdt, he, _, hnd⟩ := dd'
  refine d_write J2 (by rw [e]; exact True.intro) hs ⟨o, hq⟩ ⟨by show 1 ≤ sizeLine; decide, hd, [(ks, b, w2)], .cons ⟨rfl, ?_, ry⟩ .nil, o, es, ep, hq, hx, hdt, he, hnd⟩
  show upd H2 s.heap.objs.size _ b = _
  rw [upd_ne (ne_of eb e (fun z => nomatch z))]
  exact eb
end
end K43
set_option Elab.async false
set_option linter.all false
set_option maxRecDepth 100000
set_option maxHeartbeats 4000000
/-! The text by places, and the facts that the head is asked. -/
namespace K43
open PySem PySem.Spec PyProof.Rows L2
def top (i : Nat) : Stmt := PySem.Challenge.pw_tariffgate_k43_looked.main.body.getD i (.Pass ⟨0, 0, 0, 0⟩)
abbrev s_is_whole : Stmt := top 7
abbrev s_is_name : Stmt := top 13
abbrev s_is_prefix : Stmt := top 14
abbrev s_is_number : Stmt := top 15
abbrev s_is_kind : Stmt := top 18
abbrev s_kinds_of : Stmt := top 19
abbrev s_look_of : Stmt := top 21
abbrev s_key_of : Stmt := top 22
abbrev s_all_rows : Stmt := top 23
abbrev s_all_looks : Stmt := top 24
abbrev s_first_at : Stmt := top 27
abbrev s_rank_of : Stmt := top 28
abbrev s_Anything_claims : Stmt := inClass (top 30) 0
abbrev s_Made_init : Stmt := inClass (top 31) 0
abbrev s_Made_claims : Stmt := inClass (top 31) 1
abbrev s_Used_init : Stmt := inClass (top 32) 0
abbrev s_Used_claims : Stmt := inClass (top 32) 1
abbrev s_Chief_init : Stmt := inClass (top 33) 0
abbrev s_Chief_claims : Stmt := inClass (top 33) 1
abbrev s_Over_init : Stmt := inClass (top 34) 0
abbrev s_Over_claims : Stmt := inClass (top 34) 1
abbrev s_Both_init : Stmt := inClass (top 35) 0
abbrev s_Both_claims : Stmt := inClass (top 35) 1
abbrev s_Either_init : Stmt := inClass (top 36) 0
abbrev s_Either_claims : Stmt := inClass (top 36) 1
abbrev s_But_init : Stmt := inClass (top 37) 0
abbrev s_But_claims : Stmt := inClass (top 37) 1
abbrev s_is_pair : Stmt := top 38
abbrev s_plain_of : Stmt := top 39
abbrev s_made_at : Stmt := top 40
abbrev s_note_of : Stmt := top 41
abbrev s_is_row : Stmt := top 46
abbrev s_rows_by_number : Stmt := top 47
abbrev s_Tree_init : Stmt := inClass (top 48) 0
abbrev s_Tree_claims : Stmt := inClass (top 48) 5
abbrev s_Tree_looked : Stmt := inClass (top 48) 6
abbrev s__law_cell_at : Stmt := top 50
abbrev s__law_names : Stmt := top 51
abbrev s__law_kinds : Stmt := top 52
abbrev s__law_there : Stmt := top 53
abbrev s__law_rank : Stmt := top 54
abbrev s__law_claims : Stmt := top 55
abbrev s__law_plain : Stmt := top 56
abbrev s__law_note : Stmt := top 57
abbrev s__law_rows : Stmt := top 58
abbrev s__law_turned : Stmt := top 59
abbrev s__law_count : Stmt := top 62
abbrev s__law_depth : Stmt := top 63
abbrev s__law_otherwise : Stmt := top 64
abbrev s__law_is : Stmt := top 65
abbrev s_law : Stmt := top 66
def d_is_whole : He.DefD := ⟨("is_whole", none), "is_whole", "is_whole", defArgs s_is_whole, defBody s_is_whole, defScope s_is_whole, [], []⟩
def d_is_name : He.DefD := ⟨("is_name", none), "is_name", "is_name", defArgs s_is_name, defBody s_is_name, defScope s_is_name, [], []⟩
def d_is_prefix : He.DefD := ⟨("is_prefix", none), "is_prefix", "is_prefix", defArgs s_is_prefix, defBody s_is_prefix, defScope s_is_prefix, [], []⟩
def d_is_number : He.DefD := ⟨("is_number", none), "is_number", "is_number", defArgs s_is_number, defBody s_is_number, defScope s_is_number, [], []⟩
def d_is_kind : He.DefD := ⟨("is_kind", none), "is_kind", "is_kind", defArgs s_is_kind, defBody s_is_kind, defScope s_is_kind, [], []⟩
def d_kinds_of : He.DefD := ⟨("kinds_of", none), "kinds_of", "kinds_of", defArgs s_kinds_of, defBody s_kinds_of, defScope s_kinds_of, [], []⟩
def d_look_of : He.DefD := ⟨("look_of", none), "look_of", "look_of", defArgs s_look_of, defBody s_look_of, defScope s_look_of, [], []⟩
def d_key_of : He.DefD := ⟨("key_of", none), "key_of", "key_of", defArgs s_key_of, defBody s_key_of, defScope s_key_of, [], []⟩
def d_all_rows : He.DefD := ⟨("all_rows", none), "all_rows", "all_rows", defArgs s_all_rows, defBody s_all_rows, defScope s_all_rows, [], []⟩
def d_all_looks : He.DefD := ⟨("all_looks", none), "all_looks", "all_looks", defArgs s_all_looks, defBody s_all_looks, defScope s_all_looks, [], []⟩
def d_first_at : He.DefD := ⟨("first_at", none), "first_at", "first_at", defArgs s_first_at, defBody s_first_at, defScope s_first_at, [], []⟩
def d_rank_of : He.DefD := ⟨("rank_of", none), "rank_of", "rank_of", defArgs s_rank_of, defBody s_rank_of, defScope s_rank_of, [], []⟩
def d_Anything_claims : He.DefD := ⟨("Anything", some "claims"), "claims", "Anything.claims", defArgs s_Anything_claims, defBody s_Anything_claims, defScope s_Anything_claims, [], []⟩
def d_Made_init : He.DefD := ⟨("Made", some "__init__"), "__init__", "Made.__init__", defArgs s_Made_init, defBody s_Made_init, defScope s_Made_init, [], []⟩
def d_Made_claims : He.DefD := ⟨("Made", some "claims"), "claims", "Made.claims", defArgs s_Made_claims, defBody s_Made_claims, defScope s_Made_claims, [], []⟩
def d_Used_init : He.DefD := ⟨("Used", some "__init__"), "__init__", "Used.__init__", defArgs s_Used_init, defBody s_Used_init, defScope s_Used_init, [], []⟩
def d_Used_claims : He.DefD := ⟨("Used", some "claims"), "claims", "Used.claims", defArgs s_Used_claims, defBody s_Used_claims, defScope s_Used_claims, [], []⟩
def d_Chief_init : He.DefD := ⟨("Chief", some "__init__"), "__init__", "Chief.__init__", defArgs s_Chief_init, defBody s_Chief_init, defScope s_Chief_init, [], []⟩
def d_Chief_claims : He.DefD := ⟨("Chief", some "claims"), "claims", "Chief.claims", defArgs s_Chief_claims, defBody s_Chief_claims, defScope s_Chief_claims, [], []⟩
def d_Over_init : He.DefD := ⟨("Over", some "__init__"), "__init__", "Over.__init__", defArgs s_Over_init, defBody s_Over_init, defScope s_Over_init, [], []⟩
def d_Over_claims : He.DefD := ⟨("Over", some "claims"), "claims", "Over.claims", defArgs s_Over_claims, defBody s_Over_claims, defScope s_Over_claims, [], []⟩
def d_Both_init : He.DefD := ⟨("Both", some "__init__"), "__init__", "Both.__init__", defArgs s_Both_init, defBody s_Both_init, defScope s_Both_init, [], []⟩
def d_Both_claims : He.DefD := ⟨("Both", some "claims"), "claims", "Both.claims", defArgs s_Both_claims, defBody s_Both_claims, defScope s_Both_claims, [], []⟩
def d_Either_init : He.DefD := ⟨("Either", some "__init__"), "__init__", "Either.__init__", defArgs s_Either_init, defBody s_Either_init, defScope s_Either_init, [], []⟩
def d_Either_claims : He.DefD := ⟨("Either", some "claims"), "claims", "Either.claims", defArgs s_Either_claims, defBody s_Either_claims, defScope s_Either_claims, [], []⟩
def d_But_init : He.DefD := ⟨("But", some "__init__"), "__init__", "But.__init__", defArgs s_But_init, defBody s_But_init, defScope s_But_init, [], []⟩
def d_But_claims : He.DefD := ⟨("But", some "claims"), "claims", "But.claims", defArgs s_But_claims, defBody s_But_claims, defScope s_But_claims, [], []⟩
def d_is_pair : He.DefD := ⟨("is_pair", none), "is_pair", "is_pair", defArgs s_is_pair, defBody s_is_pair, defScope s_is_pair, [], []⟩
def d_plain_of : He.DefD := ⟨("plain_of", none), "plain_of", "plain_of", defArgs s_plain_of, defBody s_plain_of, defScope s_plain_of, [], []⟩
def d_made_at : He.DefD := ⟨("made_at", none), "made_at", "made_at", defArgs s_made_at, defBody s_made_at, defScope s_made_at, [], []⟩
def d_note_of : He.DefD := ⟨("note_of", none), "note_of", "note_of", defArgs s_note_of, defBody s_note_of, defScope s_note_of, [], []⟩
def d_is_row : He.DefD := ⟨("is_row", none), "is_row", "is_row", defArgs s_is_row, defBody s_is_row, defScope s_is_row, [], []⟩
def d_rows_by_number : He.DefD := ⟨("rows_by_number", none), "rows_by_number", "rows_by_number", defArgs s_rows_by_number, defBody s_rows_by_number, defScope s_rows_by_number, [], []⟩
def d_Tree_init : He.DefD := ⟨("Tree", some "__init__"), "__init__", "Tree.__init__", defArgs s_Tree_init, defBody s_Tree_init, defScope s_Tree_init, [], []⟩
def d_Tree_claims : He.DefD := ⟨("Tree", some "claims"), "claims", "Tree.claims", defArgs s_Tree_claims, defBody s_Tree_claims, defScope s_Tree_claims, [], []⟩
def d_Tree_looked : He.DefD := ⟨("Tree", some "looked"), "looked", "Tree.looked", defArgs s_Tree_looked, defBody s_Tree_looked, defScope s_Tree_looked, [], []⟩
def d__law_cell_at : He.DefD := ⟨("_law_cell_at", none), "_law_cell_at", "_law_cell_at", defArgs s__law_cell_at, defBody s__law_cell_at, defScope s__law_cell_at, [], []⟩
def d__law_names : He.DefD := ⟨("_law_names", none), "_law_names", "_law_names", defArgs s__law_names, defBody s__law_names, defScope s__law_names, [], []⟩
def d__law_kinds : He.DefD := ⟨("_law_kinds", none), "_law_kinds", "_law_kinds", defArgs s__law_kinds, defBody s__law_kinds, defScope s__law_kinds, [], []⟩
def d__law_there : He.DefD := ⟨("_law_there", none), "_law_there", "_law_there", defArgs s__law_there, defBody s__law_there, defScope s__law_there, [], []⟩
def d__law_rank : He.DefD := ⟨("_law_rank", none), "_law_rank", "_law_rank", defArgs s__law_rank, defBody s__law_rank, defScope s__law_rank, [], []⟩
def d__law_claims : He.DefD := ⟨("_law_claims", none), "_law_claims", "_law_claims", defArgs s__law_claims, defBody s__law_claims, defScope s__law_claims, [], []⟩
def d__law_plain : He.DefD := ⟨("_law_plain", none), "_law_plain", "_law_plain", defArgs s__law_plain, defBody s__law_plain, defScope s__law_plain, [], []⟩
def d__law_note : He.DefD := ⟨("_law_note", none), "_law_note", "_law_note", defArgs s__law_note, defBody s__law_note, defScope s__law_note, [], []⟩
def d__law_rows : He.DefD := ⟨("_law_rows", none), "_law_rows", "_law_rows", defArgs s__law_rows, defBody s__law_rows, defScope s__law_rows, [], []⟩
def d__law_turned : He.DefD := ⟨("_law_turned", none), "_law_turned", "_law_turned", defArgs s__law_turned, defBody s__law_turned, defScope s__law_turned, [], []⟩
def d__law_count : He.DefD := ⟨("_law_count", none), "_law_count", "_law_count", defArgs s__law_count, defBody s__law_count, defScope s__law_count, [], []⟩
def d__law_depth : He.DefD := ⟨("_law_depth", none), "_law_depth", "_law_depth", defArgs s__law_depth, defBody s__law_depth, defScope s__law_depth, [], []⟩
def d__law_otherwise : He.DefD := ⟨("_law_otherwise", none), "_law_otherwise", "_law_otherwise", defArgs s__law_otherwise, defBody s__law_otherwise, defScope s__law_otherwise, [], []⟩
def d__law_is : He.DefD := ⟨("_law_is", none), "_law_is", "_law_is", defArgs s__law_is, defBody s__law_is, defScope s__law_is, [], []⟩
def d_law : He.DefD := ⟨("law", none), "law", "law", defArgs s_law, defBody s_law, defScope s_law, [], []⟩
def fn0 : List He.DefD := [d_is_whole, d_is_name, d_is_prefix, d_is_number, d_is_kind, d_kinds_of, d_look_of, d_key_of, d_all_rows, d_all_looks, d_first_at, d_rank_of, d_Anything_claims, d_Made_init, d_Made_claims, d_Used_init, d_Used_claims, d_Chief_init, d_Chief_claims, d_Over_init, d_Over_claims, d_Both_init, d_Both_claims, d_Either_init, d_Either_claims]
def fn1 : List He.DefD := [d_But_init, d_But_claims, d_is_pair, d_plain_of, d_made_at, d_note_of, d_is_row, d_rows_by_number, d_Tree_init, d_Tree_claims, d_Tree_looked, d__law_cell_at, d__law_names, d__law_kinds, d__law_there, d__law_rank, d__law_claims, d__law_plain, d__law_note, d__law_rows, d__law_turned, d__law_count, d__law_depth, d__law_otherwise, d__law_is]
def fn2 : List He.DefD := [d_law]
def fn : List He.DefD := fn0 ++ fn1 ++ fn2
def fa0 : List He.Fa := [.glo "is_whole", .glo "is_name", .glo "is_prefix", .glo "is_number", .glo "is_kind", .glo "kinds_of", .glo "look_of", .glo "key_of", .glo "all_rows", .glo "all_looks", .glo "first_at", .glo "rank_of", .glo "is_pair", .glo "plain_of", .glo "made_at", .glo "note_of", .glo "is_row", .glo "rows_by_number", .glo "_law_cell_at", .glo "_law_names", .glo "_law_kinds", .glo "_law_there", .glo "_law_rank", .glo "_law_claims", .glo "_law_plain"]
def fa1 : List He.Fa := [.glo "_law_note", .glo "_law_rows", .glo "_law_turned", .glo "_law_count", .glo "_law_depth", .glo "_law_otherwise", .glo "_law_is", .glo "law", .glo "Anything", .glo "Made", .glo "Used", .glo "Chief", .glo "Over", .glo "Both", .glo "Either", .glo "But", .glo "Tree", .free "len", .free "isinstance", .free "tuple", .free "str", .free "list", .free "int", .free "bool", .free "sorted"]
def fa2 : List He.Fa := [.free "set", .free "range", .free "max", .int "SIGNS" 8, .int "PARTS" 4, .int "MOST" 99, .int "KINDS" 4, .int "DEEP" 5, .int "ROWS" 24, .str "LETTERS" "abcdefghijklmnopqrstuvwxyz", .str "ONE" "one", .str "NEAR" "near", .cls "Anything", .cls "Made", .cls "Used", .cls "Chief", .cls "Over", .cls "Both", .cls "Either", .cls "But", .cls "Tree", .noat "Made" "stuff", .noat "Used" "use", .noat "Chief" "stuff", .noat "Over" "one"]
def fa3 : List He.Fa := [.noat "Over" "other", .noat "Both" "one", .noat "Both" "other", .noat "Either" "one", .noat "Either" "other", .noat "But" "one", .noat "But" "other", .noat "Tree" "order", .noat "Tree" "rules", .noat "Tree" "noted", .noat "Tree" "counted", .meth "Anything" "claims", .meth "Made" "claims", .meth "Used" "claims", .meth "Chief" "claims", .meth "Over" "claims", .meth "Both" "claims", .meth "Either" "claims", .meth "But" "claims", .meth "Tree" "claims", .meth "Tree" "looked", .mkr "Made", .mkr "Used", .mkr "Chief", .mkr "Over"]
def fa4 : List He.Fa := [.mkr "Both", .mkr "Either", .mkr "But", .mkr "Tree"]
def fa : List He.Fa := fa0 ++ fa1 ++ fa2 ++ fa3 ++ fa4
def ex (K : PySem.W.Frag) : Bool := PySem.W.makesIn K (He.ga K "Anything") && (He.eqO (PySem.W.findIn K (.ref (He.ga K "Anything")) "__init__") (some (some (.builtin "object.__init__"))) && PySem.W.keepIn K (.ref (He.ga K "Anything")))
def nm0 : List PySem.Str := ["_wall", "__name__", "TariffError", "NoKinds", "NoNote", "NoTree", "is_whole", "LETTERS", "SIGNS", "PARTS", "MOST", "is_name", "is_prefix", "is_number", "KINDS", "is_kind", "kinds_of", "look_of", "key_of", "all_rows", "all_looks", "DEEP", "first_at", "rank_of", "Note", "Anything", "Made", "Used", "Chief", "Over"]
def nm1 : List PySem.Str := ["Both", "Either", "But", "is_pair", "plain_of", "made_at", "note_of", "ROWS", "ONE", "NEAR", "is_row", "rows_by_number", "Tree", "_law_cell_at", "_law_names", "_law_kinds", "_law_there", "_law_rank", "_law_claims", "_law_plain", "_law_note", "_law_rows", "_law_turned", "_law_beneath", "_law_row_of", "_law_count", "_law_depth", "_law_otherwise", "_law_is"]
def nm : List PySem.Str := nm0 ++ nm1
/-- what the proofs of the defs lean on -/
structure Txt (K : PySem.W.Frag) (mg : Str → Option Value) : Prop where
  says : He.SaysD fa fn K
  more : ex K = true
  at_ : ∀ (x : Str) (o : Option Value), PySem.W.nsIn K mainGlobals x = some o → mg x = o
/-- a def of the text at its place -/
abbrev At (K : PySem.W.Frag) (d : He.DefD) (fd : FuncData) : Prop := FunD K d.name d.qual d.params d.body d.scope (d.dvs K) (d.kws K) (He.fAd K d.at_) fd
section
variable {K : PySem.W.Frag} {mg : Str → Option Value}
theorem int_of {x : Str} {i : Int} (T : Txt K mg) (c : (He.Fa.int x i).ok K = true) : ∃ t, mg x = some (.int i t) := by
  have c2 : (match PySem.W.nsIn K mainGlobals x with | some (some (.int j _)) => decide (j = i) | _ => false) = true := c
  cases e : PySem.W.nsIn K mainGlobals x with
  | none => rw [e] at c2; cases c2
  | some o =>
    rw [e] at c2
    cases o with
    | none => cases c2
    | some v =>
      cases v with
      | int j t =>
        have ej : j = i := of_decide_eq_true c2
        exact ⟨t, by rw [T.at_ _ _ e, ej]⟩
      | _ => cases c2
theorem str_of {x z : Str} (T : Txt K mg) (c : (He.Fa.str x z).ok K = true) : ∃ t, mg x = some (.str z t) := by
  have c2 : (match PySem.W.nsIn K mainGlobals x with | some (some (.str y _)) => decide (y = z) | _ => false) = true := c
  cases e : PySem.W.nsIn K mainGlobals x with
  | none => rw [e] at c2; cases c2
  | some o =>
    rw [e] at c2
    cases o with
    | none => cases c2
    | some v =>
      cases v with
      | str y t =>
        have ej : y = z := of_decide_eq_true c2
        exact ⟨t, by rw [T.at_ _ _ e, ej]⟩
      | _ => cases c2
theorem ex_of (T : Txt K mg) : PySem.W.makesIn K (He.ga K "Anything") = true ∧ PySem.W.findIn K (.ref (He.ga K "Anything")) "__init__" = some (some (.builtin "object.__init__")) ∧ PySem.W.keepIn K (.ref (He.ga K "Anything")) = true := by
  have c := T.more
  unfold ex at c
  obtain ⟨c1, c⟩ := He.ba c
  obtain ⟨c2, c3⟩ := He.ba c
  exact ⟨c1, He.eqO_ok c2, c3⟩
theorem Txt.mg_is_whole (T : Txt K mg) : mg "is_whole" = some (.ref (He.ga K "is_whole")) := T.at_ _ _ (He.eqO_ok (T.says.fact 0 (f := .glo "is_whole") rfl))
theorem Txt.mg_is_name (T : Txt K mg) : mg "is_name" = some (.ref (He.ga K "is_name")) := T.at_ _ _ (He.eqO_ok (T.says.fact 1 (f := .glo "is_name") rfl))
theorem Txt.mg_is_prefix (T : Txt K mg) : mg "is_prefix" = some (.ref (He.ga K "is_prefix")) := T.at_ _ _ (He.eqO_ok (T.says.fact 2 (f := .glo "is_prefix") rfl))
theorem Txt.mg_is_number (T : Txt K mg) : mg "is_number" = some (.ref (He.ga K "is_number")) := T.at_ _ _ (He.eqO_ok (T.says.fact 3 (f := .glo "is_number") rfl))
theorem Txt.mg_is_kind (T : Txt K mg) : mg "is_kind" = some (.ref (He.ga K "is_kind")) := T.at_ _ _ (He.eqO_ok (T.says.fact 4 (f := .glo "is_kind") rfl))
theorem Txt.mg_kinds_of (T : Txt K mg) : mg "kinds_of" = some (.ref (He.ga K "kinds_of")) := T.at_ _ _ (He.eqO_ok (T.says.fact 5 (f := .glo "kinds_of") rfl))
theorem Txt.mg_look_of (T : Txt K mg) : mg "look_of" = some (.ref (He.ga K "look_of")) := T.at_ _ _ (He.eqO_ok (T.says.fact 6 (f := .glo "look_of") rfl))
theorem Txt.mg_key_of (T : Txt K mg) : mg "key_of" = some (.ref (He.ga K "key_of")) := T.at_ _ _ (He.eqO_ok (T.says.fact 7 (f := .glo "key_of") rfl))
theorem Txt.mg_all_rows (T : Txt K mg) : mg "all_rows" = some (.ref (He.ga K "all_rows")) := T.at_ _ _ (He.eqO_ok (T.says.fact 8 (f := .glo "all_rows") rfl))
theorem Txt.mg_all_looks (T : Txt K mg) : mg "all_looks" = some (.ref (He.ga K "all_looks")) := T.at_ _ _ (He.eqO_ok (T.says.fact 9 (f := .glo "all_looks") rfl))
theorem Txt.mg_first_at (T : Txt K mg) : mg "first_at" = some (.ref (He.ga K "first_at")) := T.at_ _ _ (He.eqO_ok (T.says.fact 10 (f := .glo "first_at") rfl))
theorem Txt.mg_rank_of (T : Txt K mg) : mg "rank_of" = some (.ref (He.ga K "rank_of")) := T.at_ _ _ (He.eqO_ok (T.says.fact 11 (f := .glo "rank_of") rfl))
theorem Txt.mg_is_pair (T : Txt K mg) : mg "is_pair" = some (.ref (He.ga K "is_pair")) := T.at_ _ _ (He.eqO_ok (T.says.fact 12 (f := .glo "is_pair") rfl))
theorem Txt.mg_plain_of (T : Txt K mg) : mg "plain_of" = some (.ref (He.ga K "plain_of")) := T.at_ _ _ (He.eqO_ok (T.says.fact 13 (f := .glo "plain_of") rfl))
theorem Txt.mg_made_at (T : Txt K mg) : mg "made_at" = some (.ref (He.ga K "made_at")) := T.at_ _ _ (He.eqO_ok (T.says.fact 14 (f := .glo "made_at") rfl))
theorem Txt.mg_note_of (T : Txt K mg) : mg "note_of" = some (.ref (He.ga K "note_of")) := T.at_ _ _ (He.eqO_ok (T.says.fact 15 (f := .glo "note_of") rfl))
theorem Txt.mg_is_row (T : Txt K mg) : mg "is_row" = some (.ref (He.ga K "is_row")) := T.at_ _ _ (He.eqO_ok (T.says.fact 16 (f := .glo "is_row") rfl))
theorem Txt.mg_rows_by_number (T : Txt K mg) : mg "rows_by_number" = some (.ref (He.ga K "rows_by_number")) := T.at_ _ _ (He.eqO_ok (T.says.fact 17 (f := .glo "rows_by_number") rfl))
theorem Txt.mg__law_cell_at (T : Txt K mg) : mg "_law_cell_at" = some (.ref (He.ga K "_law_cell_at")) := T.at_ _ _ (He.eqO_ok (T.says.fact 18 (f := .glo "_law_cell_at") rfl))
theorem Txt.mg__law_names (T : Txt K mg) : mg "_law_names" = some (.ref (He.ga K "_law_names")) := T.at_ _ _ (He.eqO_ok (T.says.fact 19 (f := .glo "_law_names") rfl))
theorem Txt.mg__law_kinds (T : Txt K mg) : mg "_law_kinds" = some (.ref (He.ga K "_law_kinds")) := T.at_ _ _ (He.eqO_ok (T.says.fact 20 (f := .glo "_law_kinds") rfl))
theorem Txt.mg__law_there (T : Txt K mg) : mg "_law_there" = some (.ref (He.ga K "_law_there")) := T.at_ _ _ (He.eqO_ok (T.says.fact 21 (f := .glo "_law_there") rfl))
theorem Txt.mg__law_rank (T : Txt K mg) : mg "_law_rank" = some (.ref (He.ga K "_law_rank")) := T.at_ _ _ (He.eqO_ok (T.says.fact 22 (f := .glo "_law_rank") rfl))
theorem Txt.mg__law_claims (T : Txt K mg) : mg "_law_claims" = some (.ref (He.ga K "_law_claims")) := T.at_ _ _ (He.eqO_ok (T.says.fact 23 (f := .glo "_law_claims") rfl))
theorem Txt.mg__law_plain (T : Txt K mg) : mg "_law_plain" = some (.ref (He.ga K "_law_plain")) := T.at_ _ _ (He.eqO_ok (T.says.fact 24 (f := .glo "_law_plain") rfl))
theorem Txt.mg__law_note (T : Txt K mg) : mg "_law_note" = some (.ref (He.ga K "_law_note")) := T.at_ _ _ (He.eqO_ok (T.says.fact 25 (f := .glo "_law_note") rfl))
theorem Txt.mg__law_rows (T : Txt K mg) : mg "_law_rows" = some (.ref (He.ga K "_law_rows")) := T.at_ _ _ (He.eqO_ok (T.says.fact 26 (f := .glo "_law_rows") rfl))
theorem Txt.mg__law_turned (T : Txt K mg) : mg "_law_turned" = some (.ref (He.ga K "_law_turned")) := T.at_ _ _ (He.eqO_ok (T.says.fact 27 (f := .glo "_law_turned") rfl))
theorem Txt.mg__law_count (T : Txt K mg) : mg "_law_count" = some (.ref (He.ga K "_law_count")) := T.at_ _ _ (He.eqO_ok (T.says.fact 28 (f := .glo "_law_count") rfl))
theorem Txt.mg__law_depth (T : Txt K mg) : mg "_law_depth" = some (.ref (He.ga K "_law_depth")) := T.at_ _ _ (He.eqO_ok (T.says.fact 29 (f := .glo "_law_depth") rfl))
theorem Txt.mg__law_otherwise (T : Txt K mg) : mg "_law_otherwise" = some (.ref (He.ga K "_law_otherwise")) := T.at_ _ _ (He.eqO_ok (T.says.fact 30 (f := .glo "_law_otherwise") rfl))
theorem Txt.mg__law_is (T : Txt K mg) : mg "_law_is" = some (.ref (He.ga K "_law_is")) := T.at_ _ _ (He.eqO_ok (T.says.fact 31 (f := .glo "_law_is") rfl))
theorem Txt.mg_law (T : Txt K mg) : mg "law" = some (.ref (He.ga K "law")) := T.at_ _ _ (He.eqO_ok (T.says.fact 32 (f := .glo "law") rfl))
theorem Txt.mg_Anything (T : Txt K mg) : mg "Anything" = some (.ref (He.ga K "Anything")) := T.at_ _ _ (He.eqO_ok (T.says.fact 33 (f := .glo "Anything") rfl))
theorem Txt.mg_Made (T : Txt K mg) : mg "Made" = some (.ref (He.ga K "Made")) := T.at_ _ _ (He.eqO_ok (T.says.fact 34 (f := .glo "Made") rfl))
theorem Txt.mg_Used (T : Txt K mg) : mg "Used" = some (.ref (He.ga K "Used")) := T.at_ _ _ (He.eqO_ok (T.says.fact 35 (f := .glo "Used") rfl))
theorem Txt.mg_Chief (T : Txt K mg) : mg "Chief" = some (.ref (He.ga K "Chief")) := T.at_ _ _ (He.eqO_ok (T.says.fact 36 (f := .glo "Chief") rfl))
theorem Txt.mg_Over (T : Txt K mg) : mg "Over" = some (.ref (He.ga K "Over")) := T.at_ _ _ (He.eqO_ok (T.says.fact 37 (f := .glo "Over") rfl))
theorem Txt.mg_Both (T : Txt K mg) : mg "Both" = some (.ref (He.ga K "Both")) := T.at_ _ _ (He.eqO_ok (T.says.fact 38 (f := .glo "Both") rfl))
theorem Txt.mg_Either (T : Txt K mg) : mg "Either" = some (.ref (He.ga K "Either")) := T.at_ _ _ (He.eqO_ok (T.says.fact 39 (f := .glo "Either") rfl))
theorem Txt.mg_But (T : Txt K mg) : mg "But" = some (.ref (He.ga K "But")) := T.at_ _ _ (He.eqO_ok (T.says.fact 40 (f := .glo "But") rfl))
theorem Txt.mg_Tree (T : Txt K mg) : mg "Tree" = some (.ref (He.ga K "Tree")) := T.at_ _ _ (He.eqO_ok (T.says.fact 41 (f := .glo "Tree") rfl))
theorem Txt.no_len (T : Txt K mg) : mg "len" = none := T.at_ _ _ (He.eqO_ok (T.says.fact 42 (f := .free "len") rfl))
theorem Txt.no_isinstance (T : Txt K mg) : mg "isinstance" = none := T.at_ _ _ (He.eqO_ok (T.says.fact 43 (f := .free "isinstance") rfl))
theorem Txt.no_tuple (T : Txt K mg) : mg "tuple" = none := T.at_ _ _ (He.eqO_ok (T.says.fact 44 (f := .free "tuple") rfl))
theorem Txt.no_str (T : Txt K mg) : mg "str" = none := T.at_ _ _ (He.eqO_ok (T.says.fact 45 (f := .free "str") rfl))
theorem Txt.no_list (T : Txt K mg) : mg "list" = none := T.at_ _ _ (He.eqO_ok (T.says.fact 46 (f := .free "list") rfl))
theorem Txt.no_int (T : Txt K mg) : mg "int" = none := T.at_ _ _ (He.eqO_ok (T.says.fact 47 (f := .free "int") rfl))
theorem Txt.no_bool (T : Txt K mg) : mg "bool" = none := T.at_ _ _ (He.eqO_ok (T.says.fact 48 (f := .free "bool") rfl))
theorem Txt.no_sorted (T : Txt K mg) : mg "sorted" = none := T.at_ _ _ (He.eqO_ok (T.says.fact 49 (f := .free "sorted") rfl))
theorem Txt.no_set (T : Txt K mg) : mg "set" = none := T.at_ _ _ (He.eqO_ok (T.says.fact 50 (f := .free "set") rfl))
theorem Txt.no_range (T : Txt K mg) : mg "range" = none := T.at_ _ _ (He.eqO_ok (T.says.fact 51 (f := .free "range") rfl))
theorem Txt.no_max (T : Txt K mg) : mg "max" = none := T.at_ _ _ (He.eqO_ok (T.says.fact 52 (f := .free "max") rfl))
theorem Txt.int_SIGNS (T : Txt K mg) : ∃ t, mg "SIGNS" = some (.int 8 t) := int_of T (T.says.fact 53 (f := .int "SIGNS" 8) rfl)
theorem Txt.int_PARTS (T : Txt K mg) : ∃ t, mg "PARTS" = some (.int 4 t) := int_of T (T.says.fact 54 (f := .int "PARTS" 4) rfl)
theorem Txt.int_MOST (T : Txt K mg) : ∃ t, mg "MOST" = some (.int 99 t) := int_of T (T.says.fact 55 (f := .int "MOST" 99) rfl)
theorem Txt.int_KINDS (T : Txt K mg) : ∃ t, mg "KINDS" = some (.int 4 t) := int_of T (T.says.fact 56 (f := .int "KINDS" 4) rfl)
theorem Txt.int_DEEP (T : Txt K mg) : ∃ t, mg "DEEP" = some (.int 5 t) := int_of T (T.says.fact 57 (f := .int "DEEP" 5) rfl)
theorem Txt.int_ROWS (T : Txt K mg) : ∃ t, mg "ROWS" = some (.int 24 t) := int_of T (T.says.fact 58 (f := .int "ROWS" 24) rfl)
theorem Txt.str_LETTERS (T : Txt K mg) : ∃ t, mg "LETTERS" = some (.str "abcdefghijklmnopqrstuvwxyz" t) := str_of T (T.says.fact 59 (f := .str "LETTERS" "abcdefghijklmnopqrstuvwxyz") rfl)
theorem Txt.str_ONE (T : Txt K mg) : ∃ t, mg "ONE" = some (.str "one" t) := str_of T (T.says.fact 60 (f := .str "ONE" "one") rfl)
theorem Txt.str_NEAR (T : Txt K mg) : ∃ t, mg "NEAR" = some (.str "near" t) := str_of T (T.says.fact 61 (f := .str "NEAR" "near") rfl)
theorem Txt.cls_Anything (T : Txt K mg) : Cls K (He.ga K "Anything") := He.cls_ok (T.says.fact 62 (f := .cls "Anything") rfl)
theorem Txt.cls_Made (T : Txt K mg) : Cls K (He.ga K "Made") := He.cls_ok (T.says.fact 63 (f := .cls "Made") rfl)
theorem Txt.cls_Used (T : Txt K mg) : Cls K (He.ga K "Used") := He.cls_ok (T.says.fact 64 (f := .cls "Used") rfl)
theorem Txt.cls_Chief (T : Txt K mg) : Cls K (He.ga K "Chief") := He.cls_ok (T.says.fact 65 (f := .cls "Chief") rfl)
theorem Txt.cls_Over (T : Txt K mg) : Cls K (He.ga K "Over") := He.cls_ok (T.says.fact 66 (f := .cls "Over") rfl)
theorem Txt.cls_Both (T : Txt K mg) : Cls K (He.ga K "Both") := He.cls_ok (T.says.fact 67 (f := .cls "Both") rfl)
theorem Txt.cls_Either (T : Txt K mg) : Cls K (He.ga K "Either") := He.cls_ok (T.says.fact 68 (f := .cls "Either") rfl)
theorem Txt.cls_But (T : Txt K mg) : Cls K (He.ga K "But") := He.cls_ok (T.says.fact 69 (f := .cls "But") rfl)
theorem Txt.cls_Tree (T : Txt K mg) : Cls K (He.ga K "Tree") := He.cls_ok (T.says.fact 70 (f := .cls "Tree") rfl)
theorem Txt.na_Made_stuff (T : Txt K mg) : NoAttr K (He.ga K "Made") "stuff" := He.noat_ok (T.says.fact 71 (f := .noat "Made" "stuff") rfl)
theorem Txt.na_Used_use (T : Txt K mg) : NoAttr K (He.ga K "Used") "use" := He.noat_ok (T.says.fact 72 (f := .noat "Used" "use") rfl)
theorem Txt.na_Chief_stuff (T : Txt K mg) : NoAttr K (He.ga K "Chief") "stuff" := He.noat_ok (T.says.fact 73 (f := .noat "Chief" "stuff") rfl)
theorem Txt.na_Over_one (T : Txt K mg) : NoAttr K (He.ga K "Over") "one" := He.noat_ok (T.says.fact 74 (f := .noat "Over" "one") rfl)
theorem Txt.na_Over_other (T : Txt K mg) : NoAttr K (He.ga K "Over") "other" := He.noat_ok (T.says.fact 75 (f := .noat "Over" "other") rfl)
theorem Txt.na_Both_one (T : Txt K mg) : NoAttr K (He.ga K "Both") "one" := He.noat_ok (T.says.fact 76 (f := .noat "Both" "one") rfl)
theorem Txt.na_Both_other (T : Txt K mg) : NoAttr K (He.ga K "Both") "other" := He.noat_ok (T.says.fact 77 (f := .noat "Both" "other") rfl)
theorem Txt.na_Either_one (T : Txt K mg) : NoAttr K (He.ga K "Either") "one" := He.noat_ok (T.says.fact 78 (f := .noat "Either" "one") rfl)
theorem Txt.na_Either_other (T : Txt K mg) : NoAttr K (He.ga K "Either") "other" := He.noat_ok (T.says.fact 79 (f := .noat "Either" "other") rfl)
theorem Txt.na_But_one (T : Txt K mg) : NoAttr K (He.ga K "But") "one" := He.noat_ok (T.says.fact 80 (f := .noat "But" "one") rfl)
theorem Txt.na_But_other (T : Txt K mg) : NoAttr K (He.ga K "But") "other" := He.noat_ok (T.says.fact 81 (f := .noat "But" "other") rfl)
theorem Txt.na_Tree_order (T : Txt K mg) : NoAttr K (He.ga K "Tree") "order" := He.noat_ok (T.says.fact 82 (f := .noat "Tree" "order") rfl)
theorem Txt.na_Tree_rules (T : Txt K mg) : NoAttr K (He.ga K "Tree") "rules" := He.noat_ok (T.says.fact 83 (f := .noat "Tree" "rules") rfl)
theorem Txt.na_Tree_noted (T : Txt K mg) : NoAttr K (He.ga K "Tree") "noted" := He.noat_ok (T.says.fact 84 (f := .noat "Tree" "noted") rfl)
theorem Txt.na_Tree_counted (T : Txt K mg) : NoAttr K (He.ga K "Tree") "counted" := He.noat_ok (T.says.fact 85 (f := .noat "Tree" "counted") rfl)
theorem Txt.me_Anything_claims (T : Txt K mg) : Meth K (He.ga K "Anything") "claims" (He.ma K (He.ga K "Anything") "claims") := He.meth_ok (T.says.fact 86 (f := .meth "Anything" "claims") rfl)
theorem Txt.me_Made_claims (T : Txt K mg) : Meth K (He.ga K "Made") "claims" (He.ma K (He.ga K "Made") "claims") := He.meth_ok (T.says.fact 87 (f := .meth "Made" "claims") rfl)
theorem Txt.me_Used_claims (T : Txt K mg) : Meth K (He.ga K "Used") "claims" (He.ma K (He.ga K "Used") "claims") := He.meth_ok (T.says.fact 88 (f := .meth "Used" "claims") rfl)
theorem Txt.me_Chief_claims (T : Txt K mg) : Meth K (He.ga K "Chief") "claims" (He.ma K (He.ga K "Chief") "claims") := He.meth_ok (T.says.fact 89 (f := .meth "Chief" "claims") rfl)
theorem Txt.me_Over_claims (T : Txt K mg) : Meth K (He.ga K "Over") "claims" (He.ma K (He.ga K "Over") "claims") := He.meth_ok (T.says.fact 90 (f := .meth "Over" "claims") rfl)
theorem Txt.me_Both_claims (T : Txt K mg) : Meth K (He.ga K "Both") "claims" (He.ma K (He.ga K "Both") "claims") := He.meth_ok (T.says.fact 91 (f := .meth "Both" "claims") rfl)
theorem Txt.me_Either_claims (T : Txt K mg) : Meth K (He.ga K "Either") "claims" (He.ma K (He.ga K "Either") "claims") := He.meth_ok (T.says.fact 92 (f := .meth "Either" "claims") rfl)
theorem Txt.me_But_claims (T : Txt K mg) : Meth K (He.ga K "But") "claims" (He.ma K (He.ga K "But") "claims") := He.meth_ok (T.says.fact 93 (f := .meth "But" "claims") rfl)
theorem Txt.me_Tree_claims (T : Txt K mg) : Meth K (He.ga K "Tree") "claims" (He.ma K (He.ga K "Tree") "claims") := He.meth_ok (T.says.fact 94 (f := .meth "Tree" "claims") rfl)
theorem Txt.me_Tree_looked (T : Txt K mg) : Meth K (He.ga K "Tree") "looked" (He.ma K (He.ga K "Tree") "looked") := He.meth_ok (T.says.fact 95 (f := .meth "Tree" "looked") rfl)
theorem Txt.mk_Made (T : Txt K mg) : Mk K (He.ga K "Made") (He.ma K (He.ga K "Made") "__init__") := He.mkr_ok (T.says.fact 96 (f := .mkr "Made") rfl)
theorem Txt.mk_Used (T : Txt K mg) : Mk K (He.ga K "Used") (He.ma K (He.ga K "Used") "__init__") := He.mkr_ok (T.says.fact 97 (f := .mkr "Used") rfl)
theorem Txt.mk_Chief (T : Txt K mg) : Mk K (He.ga K "Chief") (He.ma K (He.ga K "Chief") "__init__") := He.mkr_ok (T.says.fact 98 (f := .mkr "Chief") rfl)
theorem Txt.mk_Over (T : Txt K mg) : Mk K (He.ga K "Over") (He.ma K (He.ga K "Over") "__init__") := He.mkr_ok (T.says.fact 99 (f := .mkr "Over") rfl)
theorem Txt.mk_Both (T : Txt K mg) : Mk K (He.ga K "Both") (He.ma K (He.ga K "Both") "__init__") := He.mkr_ok (T.says.fact 100 (f := .mkr "Both") rfl)
theorem Txt.mk_Either (T : Txt K mg) : Mk K (He.ga K "Either") (He.ma K (He.ga K "Either") "__init__") := He.mkr_ok (T.says.fact 101 (f := .mkr "Either") rfl)
theorem Txt.mk_But (T : Txt K mg) : Mk K (He.ga K "But") (He.ma K (He.ga K "But") "__init__") := He.mkr_ok (T.says.fact 102 (f := .mkr "But") rfl)
theorem Txt.mk_Tree (T : Txt K mg) : Mk K (He.ga K "Tree") (He.ma K (He.ga K "Tree") "__init__") := He.mkr_ok (T.says.fact 103 (f := .mkr "Tree") rfl)
abbrev n_is_whole : List Str := ["thing"]
theorem sc_is_whole : FnScope n_is_whole ["thing"] (defScope s_is_whole) := ⟨rfl, rfl, rfl, by decide +kernel, rfl, by decide +kernel, by decide +kernel⟩
theorem Txt.f_is_whole (T : Txt K mg) : ∃ fd, FunD K "is_whole" "is_whole" (defArgs s_is_whole) (defBody s_is_whole) (defScope s_is_whole) [] [] (He.ga K "is_whole") fd := T.says.def_ 0 (d := d_is_whole) rfl
theorem def_is_whole {P : Program} {w : World} {base : Heap} {k : Nat} {sp : Sp} (T : Txt K mg) (len : ∀ vs H Q E, sp vs H Q E → vs.length = 1)
    (body : ∀ (cdv : Value) (A : Around) (outer : List Env) (s : Shared) (H : Hp) (vs : List V) (Q : VK) (E : XK), Room k (A.deeper (envOfC "is_whole" (defScope s_is_whole) s.heap.objs.size (He.ga K "is_whole") cdv)) → sp vs H Q E →
      ∃ t, PSs (cxOf CX0 P w K mg base n_is_whole "is_whole" (defScope s_is_whole) (He.ga K "is_whole") cdv A outer s H E).nox (defBody s_is_whole) t ∧ t { nx := fun _ H' => Q .non H', rt := Q } (start n_is_whole vs) H) :
    Ok P w K mg base (k + 1) (He.ga K "is_whole") ["thing"] sp :=
  def_ok (T.f_is_whole) sc_is_whole (fun _ _ _ _ _ _ us hl => match us, hl with | [_], _ => rfl) len body
abbrev n_is_name : List Str := ["thing", "sign"]
theorem sc_is_name : FnScope n_is_name ["thing"] (defScope s_is_name) := ⟨rfl, rfl, rfl, by decide +kernel, rfl, by decide +kernel, by decide +kernel⟩
theorem Txt.f_is_name (T : Txt K mg) : ∃ fd, FunD K "is_name" "is_name" (defArgs s_is_name) (defBody s_is_name) (defScope s_is_name) [] [] (He.ga K "is_name") fd := T.says.def_ 1 (d := d_is_name) rfl
theorem def_is_name {P : Program} {w : World} {base : Heap} {k : Nat} {sp : Sp} (T : Txt K mg) (len : ∀ vs H Q E, sp vs H Q E → vs.length = 1)
    (body : ∀ (cdv : Value) (A : Around) (outer : List Env) (s : Shared) (H : Hp) (vs : List V) (Q : VK) (E : XK), Room k (A.deeper (envOfC "is_name" (defScope s_is_name) s.heap.objs.size (He.ga K "is_name") cdv)) → sp vs H Q E →
      ∃ t, PSs (cxOf CX0 P w K mg base n_is_name "is_name" (defScope s_is_name) (He.ga K "is_name") cdv A outer s H E).nox (defBody s_is_name) t ∧ t { nx := fun _ H' => Q .non H', rt := Q } (start n_is_name vs) H) :
    Ok P w K mg base (k + 1) (He.ga K "is_name") ["thing"] sp :=
  def_ok (T.f_is_name) sc_is_name (fun _ _ _ _ _ _ us hl => match us, hl with | [_], _ => rfl) len body
abbrev n_is_prefix : List Str := ["thing", "part"]
theorem sc_is_prefix : FnScope n_is_prefix ["thing"] (defScope s_is_prefix) := ⟨rfl, rfl, rfl, by decide +kernel, rfl, by decide +kernel, by decide +kernel⟩
theorem Txt.f_is_prefix (T : Txt K mg) : ∃ fd, FunD K "is_prefix" "is_prefix" (defArgs s_is_prefix) (defBody s_is_prefix) (defScope s_is_prefix) [] [] (He.ga K "is_prefix") fd := T.says.def_ 2 (d := d_is_prefix) rfl
theorem def_is_prefix {P : Program} {w : World} {base : Heap} {k : Nat} {sp : Sp} (T : Txt K mg) (len : ∀ vs H Q E, sp vs H Q E → vs.length = 1)
    (body : ∀ (cdv : Value) (A : Around) (outer : List Env) (s : Shared) (H : Hp) (vs : List V) (Q : VK) (E : XK), Room k (A.deeper (envOfC "is_prefix" (defScope s_is_prefix) s.heap.objs.size (He.ga K "is_prefix") cdv)) → sp vs H Q E →
      ∃ t, PSs (cxOf CX0 P w K mg base n_is_prefix "is_prefix" (defScope s_is_prefix) (He.ga K "is_prefix") cdv A outer s H E).nox (defBody s_is_prefix) t ∧ t { nx := fun _ H' => Q .non H', rt := Q } (start n_is_prefix vs) H) :
    Ok P w K mg base (k + 1) (He.ga K "is_prefix") ["thing"] sp :=
  def_ok (T.f_is_prefix) sc_is_prefix (fun _ _ _ _ _ _ us hl => match us, hl with | [_], _ => rfl) len body
abbrev n_is_number : List Str := ["thing"]
theorem sc_is_number : FnScope n_is_number ["thing"] (defScope s_is_number) := ⟨rfl, rfl, rfl, by decide +kernel, rfl, by decide +kernel, by decide +kernel⟩
theorem Txt.f_is_number (T : Txt K mg) : ∃ fd, FunD K "is_number" "is_number" (defArgs s_is_number) (defBody s_is_number) (defScope s_is_number) [] [] (He.ga K "is_number") fd := T.says.def_ 3 (d := d_is_number) rfl
theorem def_is_number {P : Program} {w : World} {base : Heap} {k : Nat} {sp : Sp} (T : Txt K mg) (len : ∀ vs H Q E, sp vs H Q E → vs.length = 1)
    (body : ∀ (cdv : Value) (A : Around) (outer : List Env) (s : Shared) (H : Hp) (vs : List V) (Q : VK) (E : XK), Room k (A.deeper (envOfC "is_number" (defScope s_is_number) s.heap.objs.size (He.ga K "is_number") cdv)) → sp vs H Q E →
      ∃ t, PSs (cxOf CX0 P w K mg base n_is_number "is_number" (defScope s_is_number) (He.ga K "is_number") cdv A outer s H E).nox (defBody s_is_number) t ∧ t { nx := fun _ H' => Q .non H', rt := Q } (start n_is_number vs) H) :
    Ok P w K mg base (k + 1) (He.ga K "is_number") ["thing"] sp :=
  def_ok (T.f_is_number) sc_is_number (fun _ _ _ _ _ _ us hl => match us, hl with | [_], _ => rfl) len body
abbrev n_is_kind : List Str := ["thing"]
theorem sc_is_kind : FnScope n_is_kind ["thing"] (defScope s_is_kind) := ⟨rfl, rfl, rfl, by decide +kernel, rfl, by decide +kernel, by decide +kernel⟩
theorem Txt.f_is_kind (T : Txt K mg) : ∃ fd, FunD K "is_kind" "is_kind" (defArgs s_is_kind) (defBody s_is_kind) (defScope s_is_kind) [] [] (He.ga K "is_kind") fd := T.says.def_ 4 (d := d_is_kind) rfl
theorem def_is_kind {P : Program} {w : World} {base : Heap} {k : Nat} {sp : Sp} (T : Txt K mg) (len : ∀ vs H Q E, sp vs H Q E → vs.length = 1)
    (body : ∀ (cdv : Value) (A : Around) (outer : List Env) (s : Shared) (H : Hp) (vs : List V) (Q : VK) (E : XK), Room k (A.deeper (envOfC "is_kind" (defScope s_is_kind) s.heap.objs.size (He.ga K "is_kind") cdv)) → sp vs H Q E →
      ∃ t, PSs (cxOf CX0 P w K mg base n_is_kind "is_kind" (defScope s_is_kind) (He.ga K "is_kind") cdv A outer s H E).nox (defBody s_is_kind) t ∧ t { nx := fun _ H' => Q .non H', rt := Q } (start n_is_kind vs) H) :
    Ok P w K mg base (k + 1) (He.ga K "is_kind") ["thing"] sp :=
  def_ok (T.f_is_kind) sc_is_kind (fun _ _ _ _ _ _ us hl => match us, hl with | [_], _ => rfl) len body
abbrev n_kinds_of : List Str := ["some", "known", "kind"]
theorem sc_kinds_of : FnScope n_kinds_of ["some"] (defScope s_kinds_of) := ⟨rfl, rfl, rfl, by decide +kernel, rfl, by decide +kernel, by decide +kernel⟩
theorem Txt.f_kinds_of (T : Txt K mg) : ∃ fd, FunD K "kinds_of" "kinds_of" (defArgs s_kinds_of) (defBody s_kinds_of) (defScope s_kinds_of) [] [] (He.ga K "kinds_of") fd := T.says.def_ 5 (d := d_kinds_of) rfl
theorem def_kinds_of {P : Program} {w : World} {base : Heap} {k : Nat} {sp : Sp} (T : Txt K mg) (len : ∀ vs H Q E, sp vs H Q E → vs.length = 1)
    (body : ∀ (cdv : Value) (A : Around) (outer : List Env) (s : Shared) (H : Hp) (vs : List V) (Q : VK) (E : XK), Room k (A.deeper (envOfC "kinds_of" (defScope s_kinds_of) s.heap.objs.size (He.ga K "kinds_of") cdv)) → sp vs H Q E →
      ∃ t, PSs (cxOf CX0 P w K mg base n_kinds_of "kinds_of" (defScope s_kinds_of) (He.ga K "kinds_of") cdv A outer s H E).nox (defBody s_kinds_of) t ∧ t { nx := fun _ H' => Q .non H', rt := Q } (start n_kinds_of vs) H) :
    Ok P w K mg base (k + 1) (He.ga K "kinds_of") ["some"] sp :=
  def_ok (T.f_kinds_of) sc_kinds_of (fun _ _ _ _ _ _ us hl => match us, hl with | [_], _ => rfl) len body
abbrev n_look_of : List Str := ["weights", "weight", "steps", "look"]
theorem sc_look_of : FnScope n_look_of ["weights"] (defScope s_look_of) := ⟨rfl, rfl, rfl, by decide +kernel, rfl, by decide +kernel, by decide +kernel⟩
theorem Txt.f_look_of (T : Txt K mg) : ∃ fd, FunD K "look_of" "look_of" (defArgs s_look_of) (defBody s_look_of) (defScope s_look_of) [] [] (He.ga K "look_of") fd := T.says.def_ 6 (d := d_look_of) rfl
theorem def_look_of {P : Program} {w : World} {base : Heap} {k : Nat} {sp : Sp} (T : Txt K mg) (len : ∀ vs H Q E, sp vs H Q E → vs.length = 1)
    (body : ∀ (cdv : Value) (A : Around) (outer : List Env) (s : Shared) (H : Hp) (vs : List V) (Q : VK) (E : XK), Room k (A.deeper (envOfC "look_of" (defScope s_look_of) s.heap.objs.size (He.ga K "look_of") cdv)) → sp vs H Q E →
      ∃ t, PSs (cxOf CX0 P w K mg base n_look_of "look_of" (defScope s_look_of) (He.ga K "look_of") cdv A outer s H E).nox (defBody s_look_of) t ∧ t { nx := fun _ H' => Q .non H', rt := Q } (start n_look_of vs) H) :
    Ok P w K mg base (k + 1) (He.ga K "look_of") ["weights"] sp :=
  def_ok (T.f_look_of) sc_look_of (fun _ _ _ _ _ _ us hl => match us, hl with | [_], _ => rfl) len body
abbrev n_key_of : List Str := ["weights", "places", "k"]
theorem sc_key_of : FnScope n_key_of ["weights"] (defScope s_key_of) := ⟨rfl, rfl, rfl, by decide +kernel, rfl, by decide +kernel, by decide +kernel⟩
theorem Txt.f_key_of (T : Txt K mg) : ∃ fd, FunD K "key_of" "key_of" (defArgs s_key_of) (defBody s_key_of) (defScope s_key_of) [] [] (He.ga K "key_of") fd := T.says.def_ 7 (d := d_key_of) rfl
theorem def_key_of {P : Program} {w : World} {base : Heap} {k : Nat} {sp : Sp} (T : Txt K mg) (len : ∀ vs H Q E, sp vs H Q E → vs.length = 1)
    (body : ∀ (cdv : Value) (A : Around) (outer : List Env) (s : Shared) (H : Hp) (vs : List V) (Q : VK) (E : XK), Room k (A.deeper (envOfC "key_of" (defScope s_key_of) s.heap.objs.size (He.ga K "key_of") cdv)) → sp vs H Q E →
      ∃ t, PSs (cxOf CX0 P w K mg base n_key_of "key_of" (defScope s_key_of) (He.ga K "key_of") cdv A outer s H E).nox (defBody s_key_of) t ∧ t { nx := fun _ H' => Q .non H', rt := Q } (start n_key_of vs) H) :
    Ok P w K mg base (k + 1) (He.ga K "key_of") ["weights"] sp :=
  def_ok (T.f_key_of) sc_key_of (fun _ _ _ _ _ _ us hl => match us, hl with | [_], _ => rfl) len body
abbrev n_all_rows : List Str := ["many", "rows", "k", "longer", "row", "number"]
theorem sc_all_rows : FnScope n_all_rows ["many"] (defScope s_all_rows) := ⟨rfl, rfl, rfl, by decide +kernel, rfl, by decide +kernel, by decide +kernel⟩
theorem Txt.f_all_rows (T : Txt K mg) : ∃ fd, FunD K "all_rows" "all_rows" (defArgs s_all_rows) (defBody s_all_rows) (defScope s_all_rows) [] [] (He.ga K "all_rows") fd := T.says.def_ 8 (d := d_all_rows) rfl
theorem def_all_rows {P : Program} {w : World} {base : Heap} {k : Nat} {sp : Sp} (T : Txt K mg) (len : ∀ vs H Q E, sp vs H Q E → vs.length = 1)
    (body : ∀ (cdv : Value) (A : Around) (outer : List Env) (s : Shared) (H : Hp) (vs : List V) (Q : VK) (E : XK), Room k (A.deeper (envOfC "all_rows" (defScope s_all_rows) s.heap.objs.size (He.ga K "all_rows") cdv)) → sp vs H Q E →
      ∃ t, PSs (cxOf CX0 P w K mg base n_all_rows "all_rows" (defScope s_all_rows) (He.ga K "all_rows") cdv A outer s H E).nox (defBody s_all_rows) t ∧ t { nx := fun _ H' => Q .non H', rt := Q } (start n_all_rows vs) H) :
    Ok P w K mg base (k + 1) (He.ga K "all_rows") ["many"] sp :=
  def_ok (T.f_all_rows) sc_all_rows (fun _ _ _ _ _ _ us hl => match us, hl with | [_], _ => rfl) len body
abbrev n_all_looks : List Str := ["many", "looks", "row"]
theorem sc_all_looks : FnScope n_all_looks ["many"] (defScope s_all_looks) := ⟨rfl, rfl, rfl, by decide +kernel, rfl, by decide +kernel, by decide +kernel⟩
theorem Txt.f_all_looks (T : Txt K mg) : ∃ fd, FunD K "all_looks" "all_looks" (defArgs s_all_looks) (defBody s_all_looks) (defScope s_all_looks) [] [] (He.ga K "all_looks") fd := T.says.def_ 9 (d := d_all_looks) rfl
theorem def_all_looks {P : Program} {w : World} {base : Heap} {k : Nat} {sp : Sp} (T : Txt K mg) (len : ∀ vs H Q E, sp vs H Q E → vs.length = 1)
    (body : ∀ (cdv : Value) (A : Around) (outer : List Env) (s : Shared) (H : Hp) (vs : List V) (Q : VK) (E : XK), Room k (A.deeper (envOfC "all_looks" (defScope s_all_looks) s.heap.objs.size (He.ga K "all_looks") cdv)) → sp vs H Q E →
      ∃ t, PSs (cxOf CX0 P w K mg base n_all_looks "all_looks" (defScope s_all_looks) (He.ga K "all_looks") cdv A outer s H E).nox (defBody s_all_looks) t ∧ t { nx := fun _ H' => Q .non H', rt := Q } (start n_all_looks vs) H) :
    Ok P w K mg base (k + 1) (He.ga K "all_looks") ["many"] sp :=
  def_ok (T.f_all_looks) sc_all_looks (fun _ _ _ _ _ _ us hl => match us, hl with | [_], _ => rfl) len body
abbrev n_first_at : List Str := ["kinds", "look", "side", "name", "least", "k"]
theorem sc_first_at : FnScope n_first_at ["kinds", "look", "side", "name", "least"] (defScope s_first_at) := ⟨rfl, rfl, rfl, by decide +kernel, rfl, by decide +kernel, by decide +kernel⟩
theorem Txt.f_first_at (T : Txt K mg) : ∃ fd, FunD K "first_at" "first_at" (defArgs s_first_at) (defBody s_first_at) (defScope s_first_at) [] [] (He.ga K "first_at") fd := T.says.def_ 10 (d := d_first_at) rfl
theorem def_first_at {P : Program} {w : World} {base : Heap} {k : Nat} {sp : Sp} (T : Txt K mg) (len : ∀ vs H Q E, sp vs H Q E → vs.length = 5)
    (body : ∀ (cdv : Value) (A : Around) (outer : List Env) (s : Shared) (H : Hp) (vs : List V) (Q : VK) (E : XK), Room k (A.deeper (envOfC "first_at" (defScope s_first_at) s.heap.objs.size (He.ga K "first_at") cdv)) → sp vs H Q E →
      ∃ t, PSs (cxOf CX0 P w K mg base n_first_at "first_at" (defScope s_first_at) (He.ga K "first_at") cdv A outer s H E).nox (defBody s_first_at) t ∧ t { nx := fun _ H' => Q .non H', rt := Q } (start n_first_at vs) H) :
    Ok P w K mg base (k + 1) (He.ga K "first_at") ["kinds", "look", "side", "name", "least"] sp :=
  def_ok (T.f_first_at) sc_first_at (fun _ _ _ _ _ _ us hl => match us, hl with | [_, _, _, _, _], _ => rfl) len body
abbrev n_rank_of : List Str := ["kinds", "look", "kind", "k"]
theorem sc_rank_of : FnScope n_rank_of ["kinds", "look", "kind"] (defScope s_rank_of) := ⟨rfl, rfl, rfl, by decide +kernel, rfl, by decide +kernel, by decide +kernel⟩
theorem Txt.f_rank_of (T : Txt K mg) : ∃ fd, FunD K "rank_of" "rank_of" (defArgs s_rank_of) (defBody s_rank_of) (defScope s_rank_of) [] [] (He.ga K "rank_of") fd := T.says.def_ 11 (d := d_rank_of) rfl
theorem def_rank_of {P : Program} {w : World} {base : Heap} {k : Nat} {sp : Sp} (T : Txt K mg) (len : ∀ vs H Q E, sp vs H Q E → vs.length = 3)
    (body : ∀ (cdv : Value) (A : Around) (outer : List Env) (s : Shared) (H : Hp) (vs : List V) (Q : VK) (E : XK), Room k (A.deeper (envOfC "rank_of" (defScope s_rank_of) s.heap.objs.size (He.ga K "rank_of") cdv)) → sp vs H Q E →
      ∃ t, PSs (cxOf CX0 P w K mg base n_rank_of "rank_of" (defScope s_rank_of) (He.ga K "rank_of") cdv A outer s H E).nox (defBody s_rank_of) t ∧ t { nx := fun _ H' => Q .non H', rt := Q } (start n_rank_of vs) H) :
    Ok P w K mg base (k + 1) (He.ga K "rank_of") ["kinds", "look", "kind"] sp :=
  def_ok (T.f_rank_of) sc_rank_of (fun _ _ _ _ _ _ us hl => match us, hl with | [_, _, _], _ => rfl) len body
abbrev n_Anything_claims : List Str := ["self", "kinds", "look"]
theorem sc_Anything_claims : FnScope n_Anything_claims ["self", "kinds", "look"] (defScope s_Anything_claims) := ⟨rfl, rfl, rfl, by decide +kernel, rfl, by decide +kernel, by decide +kernel⟩
theorem Txt.f_Anything_claims (T : Txt K mg) : ∃ fd, FunD K "claims" "Anything.claims" (defArgs s_Anything_claims) (defBody s_Anything_claims) (defScope s_Anything_claims) [] [] (He.ma K (He.ga K "Anything") "claims") fd := T.says.def_ 12 (d := d_Anything_claims) rfl
theorem def_Anything_claims {P : Program} {w : World} {base : Heap} {k : Nat} {sp : Sp} (T : Txt K mg) (len : ∀ vs H Q E, sp vs H Q E → vs.length = 3)
    (body : ∀ (cdv : Value) (A : Around) (outer : List Env) (s : Shared) (H : Hp) (vs : List V) (Q : VK) (E : XK), Room k (A.deeper (envOfC "Anything.claims" (defScope s_Anything_claims) s.heap.objs.size (He.ma K (He.ga K "Anything") "claims") cdv)) → sp vs H Q E →
      ∃ t, PSs (cxOf CX0 P w K mg base n_Anything_claims "Anything.claims" (defScope s_Anything_claims) (He.ma K (He.ga K "Anything") "claims") cdv A outer s H E).nox (defBody s_Anything_claims) t ∧ t { nx := fun _ H' => Q .non H', rt := Q } (start n_Anything_claims vs) H) :
    Ok P w K mg base (k + 1) (He.ma K (He.ga K "Anything") "claims") ["self", "kinds", "look"] sp :=
  def_ok (T.f_Anything_claims) sc_Anything_claims (fun _ _ _ _ _ _ us hl => match us, hl with | [_, _, _], _ => rfl) len body
abbrev n_Made_init : List Str := ["self", "stuff"]
theorem sc_Made_init : FnScope n_Made_init ["self", "stuff"] (defScope s_Made_init) := ⟨rfl, rfl, rfl, by decide +kernel, rfl, by decide +kernel, by decide +kernel⟩
theorem Txt.f_Made_init (T : Txt K mg) : ∃ fd, FunD K "__init__" "Made.__init__" (defArgs s_Made_init) (defBody s_Made_init) (defScope s_Made_init) [] [] (He.ma K (He.ga K "Made") "__init__") fd := T.says.def_ 13 (d := d_Made_init) rfl
theorem def_Made_init {P : Program} {w : World} {base : Heap} {k : Nat} {sp : Sp} (T : Txt K mg) (len : ∀ vs H Q E, sp vs H Q E → vs.length = 2)
    (body : ∀ (cdv : Value) (A : Around) (outer : List Env) (s : Shared) (H : Hp) (vs : List V) (Q : VK) (E : XK), Room k (A.deeper (envOfC "Made.__init__" (defScope s_Made_init) s.heap.objs.size (He.ma K (He.ga K "Made") "__init__") cdv)) → sp vs H Q E →
      ∃ t, PSs (cxOf CX0 P w K mg base n_Made_init "Made.__init__" (defScope s_Made_init) (He.ma K (He.ga K "Made") "__init__") cdv A outer s H E).nox (defBody s_Made_init) t ∧ t { nx := fun _ H' => Q .non H', rt := Q } (start n_Made_init vs) H) :
    Ok P w K mg base (k + 1) (He.ma K (He.ga K "Made") "__init__") ["self", "stuff"] sp :=
  def_ok (T.f_Made_init) sc_Made_init (fun _ _ _ _ _ _ us hl => match us, hl with | [_, _], _ => rfl) len body
abbrev n_Made_claims : List Str := ["self", "kinds", "look"]
theorem sc_Made_claims : FnScope n_Made_claims ["self", "kinds", "look"] (defScope s_Made_claims) := ⟨rfl, rfl, rfl, by decide +kernel, rfl, by decide +kernel, by decide +kernel⟩
theorem Txt.f_Made_claims (T : Txt K mg) : ∃ fd, FunD K "claims" "Made.claims" (defArgs s_Made_claims) (defBody s_Made_claims) (defScope s_Made_claims) [] [] (He.ma K (He.ga K "Made") "claims") fd := T.says.def_ 14 (d := d_Made_claims) rfl
theorem def_Made_claims {P : Program} {w : World} {base : Heap} {k : Nat} {sp : Sp} (T : Txt K mg) (len : ∀ vs H Q E, sp vs H Q E → vs.length = 3)
    (body : ∀ (cdv : Value) (A : Around) (outer : List Env) (s : Shared) (H : Hp) (vs : List V) (Q : VK) (E : XK), Room k (A.deeper (envOfC "Made.claims" (defScope s_Made_claims) s.heap.objs.size (He.ma K (He.ga K "Made") "claims") cdv)) → sp vs H Q E →
      ∃ t, PSs (cxOf CX0 P w K mg base n_Made_claims "Made.claims" (defScope s_Made_claims) (He.ma K (He.ga K "Made") "claims") cdv A outer s H E).nox (defBody s_Made_claims) t ∧ t { nx := fun _ H' => Q .non H', rt := Q } (start n_Made_claims vs) H) :
    Ok P w K mg base (k + 1) (He.ma K (He.ga K "Made") "claims") ["self", "kinds", "look"] sp :=
  def_ok (T.f_Made_claims) sc_Made_claims (fun _ _ _ _ _ _ us hl => match us, hl with | [_, _, _], _ => rfl) len body
abbrev n_Used_init : List Str := ["self", "use"]
theorem sc_Used_init : FnScope n_Used_init ["self", "use"] (defScope s_Used_init) := ⟨rfl, rfl, rfl, by decide +kernel, rfl, by decide +kernel, by decide +kernel⟩
theorem Txt.f_Used_init (T : Txt K mg) : ∃ fd, FunD K "__init__" "Used.__init__" (defArgs s_Used_init) (defBody s_Used_init) (defScope s_Used_init) [] [] (He.ma K (He.ga K "Used") "__init__") fd := T.says.def_ 15 (d := d_Used_init) rfl
theorem def_Used_init {P : Program} {w : World} {base : Heap} {k : Nat} {sp : Sp} (T : Txt K mg) (len : ∀ vs H Q E, sp vs H Q E → vs.length = 2)
    (body : ∀ (cdv : Value) (A : Around) (outer : List Env) (s : Shared) (H : Hp) (vs : List V) (Q : VK) (E : XK), Room k (A.deeper (envOfC "Used.__init__" (defScope s_Used_init) s.heap.objs.size (He.ma K (He.ga K "Used") "__init__") cdv)) → sp vs H Q E →
      ∃ t, PSs (cxOf CX0 P w K mg base n_Used_init "Used.__init__" (defScope s_Used_init) (He.ma K (He.ga K "Used") "__init__") cdv A outer s H E).nox (defBody s_Used_init) t ∧ t { nx := fun _ H' => Q .non H', rt := Q } (start n_Used_init vs) H) :
    Ok P w K mg base (k + 1) (He.ma K (He.ga K "Used") "__init__") ["self", "use"] sp :=
  def_ok (T.f_Used_init) sc_Used_init (fun _ _ _ _ _ _ us hl => match us, hl with | [_, _], _ => rfl) len body
abbrev n_Used_claims : List Str := ["self", "kinds", "look"]
theorem sc_Used_claims : FnScope n_Used_claims ["self", "kinds", "look"] (defScope s_Used_claims) := ⟨rfl, rfl, rfl, by decide +kernel, rfl, by decide +kernel, by decide +kernel⟩
theorem Txt.f_Used_claims (T : Txt K mg) : ∃ fd, FunD K "claims" "Used.claims" (defArgs s_Used_claims) (defBody s_Used_claims) (defScope s_Used_claims) [] [] (He.ma K (He.ga K "Used") "claims") fd := T.says.def_ 16 (d := d_Used_claims) rfl
theorem def_Used_claims {P : Program} {w : World} {base : Heap} {k : Nat} {sp : Sp} (T : Txt K mg) (len : ∀ vs H Q E, sp vs H Q E → vs.length = 3)
    (body : ∀ (cdv : Value) (A : Around) (outer : List Env) (s : Shared) (H : Hp) (vs : List V) (Q : VK) (E : XK), Room k (A.deeper (envOfC "Used.claims" (defScope s_Used_claims) s.heap.objs.size (He.ma K (He.ga K "Used") "claims") cdv)) → sp vs H Q E →
      ∃ t, PSs (cxOf CX0 P w K mg base n_Used_claims "Used.claims" (defScope s_Used_claims) (He.ma K (He.ga K "Used") "claims") cdv A outer s H E).nox (defBody s_Used_claims) t ∧ t { nx := fun _ H' => Q .non H', rt := Q } (start n_Used_claims vs) H) :
    Ok P w K mg base (k + 1) (He.ma K (He.ga K "Used") "claims") ["self", "kinds", "look"] sp :=
  def_ok (T.f_Used_claims) sc_Used_claims (fun _ _ _ _ _ _ us hl => match us, hl with | [_, _, _], _ => rfl) len body
abbrev n_Chief_init : List Str := ["self", "stuff"]
theorem sc_Chief_init : FnScope n_Chief_init ["self", "stuff"] (defScope s_Chief_init) := ⟨rfl, rfl, rfl, by decide +kernel, rfl, by decide +kernel, by decide +kernel⟩
theorem Txt.f_Chief_init (T : Txt K mg) : ∃ fd, FunD K "__init__" "Chief.__init__" (defArgs s_Chief_init) (defBody s_Chief_init) (defScope s_Chief_init) [] [] (He.ma K (He.ga K "Chief") "__init__") fd := T.says.def_ 17 (d := d_Chief_init) rfl
theorem def_Chief_init {P : Program} {w : World} {base : Heap} {k : Nat} {sp : Sp} (T : Txt K mg) (len : ∀ vs H Q E, sp vs H Q E → vs.length = 2)
    (body : ∀ (cdv : Value) (A : Around) (outer : List Env) (s : Shared) (H : Hp) (vs : List V) (Q : VK) (E : XK), Room k (A.deeper (envOfC "Chief.__init__" (defScope s_Chief_init) s.heap.objs.size (He.ma K (He.ga K "Chief") "__init__") cdv)) → sp vs H Q E →
      ∃ t, PSs (cxOf CX0 P w K mg base n_Chief_init "Chief.__init__" (defScope s_Chief_init) (He.ma K (He.ga K "Chief") "__init__") cdv A outer s H E).nox (defBody s_Chief_init) t ∧ t { nx := fun _ H' => Q .non H', rt := Q } (start n_Chief_init vs) H) :
    Ok P w K mg base (k + 1) (He.ma K (He.ga K "Chief") "__init__") ["self", "stuff"] sp :=
  def_ok (T.f_Chief_init) sc_Chief_init (fun _ _ _ _ _ _ us hl => match us, hl with | [_, _], _ => rfl) len body
abbrev n_Chief_claims : List Str := ["self", "kinds", "look"]
theorem sc_Chief_claims : FnScope n_Chief_claims ["self", "kinds", "look"] (defScope s_Chief_claims) := ⟨rfl, rfl, rfl, by decide +kernel, rfl, by decide +kernel, by decide +kernel⟩
theorem Txt.f_Chief_claims (T : Txt K mg) : ∃ fd, FunD K "claims" "Chief.claims" (defArgs s_Chief_claims) (defBody s_Chief_claims) (defScope s_Chief_claims) [] [] (He.ma K (He.ga K "Chief") "claims") fd := T.says.def_ 18 (d := d_Chief_claims) rfl
theorem def_Chief_claims {P : Program} {w : World} {base : Heap} {k : Nat} {sp : Sp} (T : Txt K mg) (len : ∀ vs H Q E, sp vs H Q E → vs.length = 3)
    (body : ∀ (cdv : Value) (A : Around) (outer : List Env) (s : Shared) (H : Hp) (vs : List V) (Q : VK) (E : XK), Room k (A.deeper (envOfC "Chief.claims" (defScope s_Chief_claims) s.heap.objs.size (He.ma K (He.ga K "Chief") "claims") cdv)) → sp vs H Q E →
      ∃ t, PSs (cxOf CX0 P w K mg base n_Chief_claims "Chief.claims" (defScope s_Chief_claims) (He.ma K (He.ga K "Chief") "claims") cdv A outer s H E).nox (defBody s_Chief_claims) t ∧ t { nx := fun _ H' => Q .non H', rt := Q } (start n_Chief_claims vs) H) :
    Ok P w K mg base (k + 1) (He.ma K (He.ga K "Chief") "claims") ["self", "kinds", "look"] sp :=
  def_ok (T.f_Chief_claims) sc_Chief_claims (fun _ _ _ _ _ _ us hl => match us, hl with | [_, _, _], _ => rfl) len body
abbrev n_Over_init : List Str := ["self", "one", "other"]
theorem sc_Over_init : FnScope n_Over_init ["self", "one", "other"] (defScope s_Over_init) := ⟨rfl, rfl, rfl, by decide +kernel, rfl, by decide +kernel, by decide +kernel⟩
theorem Txt.f_Over_init (T : Txt K mg) : ∃ fd, FunD K "__init__" "Over.__init__" (defArgs s_Over_init) (defBody s_Over_init) (defScope s_Over_init) [] [] (He.ma K (He.ga K "Over") "__init__") fd := T.says.def_ 19 (d := d_Over_init) rfl
theorem def_Over_init {P : Program} {w : World} {base : Heap} {k : Nat} {sp : Sp} (T : Txt K mg) (len : ∀ vs H Q E, sp vs H Q E → vs.length = 3)
    (body : ∀ (cdv : Value) (A : Around) (outer : List Env) (s : Shared) (H : Hp) (vs : List V) (Q : VK) (E : XK), Room k (A.deeper (envOfC "Over.__init__" (defScope s_Over_init) s.heap.objs.size (He.ma K (He.ga K "Over") "__init__") cdv)) → sp vs H Q E →
      ∃ t, PSs (cxOf CX0 P w K mg base n_Over_init "Over.__init__" (defScope s_Over_init) (He.ma K (He.ga K "Over") "__init__") cdv A outer s H E).nox (defBody s_Over_init) t ∧ t { nx := fun _ H' => Q .non H', rt := Q } (start n_Over_init vs) H) :
    Ok P w K mg base (k + 1) (He.ma K (He.ga K "Over") "__init__") ["self", "one", "other"] sp :=
  def_ok (T.f_Over_init) sc_Over_init (fun _ _ _ _ _ _ us hl => match us, hl with | [_, _, _], _ => rfl) len body
abbrev n_Over_claims : List Str := ["self", "kinds", "look"]
theorem sc_Over_claims : FnScope n_Over_claims ["self", "kinds", "look"] (defScope s_Over_claims) := ⟨rfl, rfl, rfl, by decide +kernel, rfl, by decide +kernel, by decide +kernel⟩
theorem Txt.f_Over_claims (T : Txt K mg) : ∃ fd, FunD K "claims" "Over.claims" (defArgs s_Over_claims) (defBody s_Over_claims) (defScope s_Over_claims) [] [] (He.ma K (He.ga K "Over") "claims") fd := T.says.def_ 20 (d := d_Over_claims) rfl
theorem def_Over_claims {P : Program} {w : World} {base : Heap} {k : Nat} {sp : Sp} (T : Txt K mg) (len : ∀ vs H Q E, sp vs H Q E → vs.length = 3)
    (body : ∀ (cdv : Value) (A : Around) (outer : List Env) (s : Shared) (H : Hp) (vs : List V) (Q : VK) (E : XK), Room k (A.deeper (envOfC "Over.claims" (defScope s_Over_claims) s.heap.objs.size (He.ma K (He.ga K "Over") "claims") cdv)) → sp vs H Q E →
      ∃ t, PSs (cxOf CX0 P w K mg base n_Over_claims "Over.claims" (defScope s_Over_claims) (He.ma K (He.ga K "Over") "claims") cdv A outer s H E).nox (defBody s_Over_claims) t ∧ t { nx := fun _ H' => Q .non H', rt := Q } (start n_Over_claims vs) H) :
    Ok P w K mg base (k + 1) (He.ma K (He.ga K "Over") "claims") ["self", "kinds", "look"] sp :=
  def_ok (T.f_Over_claims) sc_Over_claims (fun _ _ _ _ _ _ us hl => match us, hl with | [_, _, _], _ => rfl) len body
abbrev n_Both_init : List Str := ["self", "one", "other"]
theorem sc_Both_init : FnScope n_Both_init ["self", "one", "other"] (defScope s_Both_init) := ⟨rfl, rfl, rfl, by decide +kernel, rfl, by decide +kernel, by decide +kernel⟩
theorem Txt.f_Both_init (T : Txt K mg) : ∃ fd, FunD K "__init__" "Both.__init__" (defArgs s_Both_init) (defBody s_Both_init) (defScope s_Both_init) [] [] (He.ma K (He.ga K "Both") "__init__") fd := T.says.def_ 21 (d := d_Both_init) rfl
theorem def_Both_init {P : Program} {w : World} {base : Heap} {k : Nat} {sp : Sp} (T : Txt K mg) (len : ∀ vs H Q E, sp vs H Q E → vs.length = 3)
    (body : ∀ (cdv : Value) (A : Around) (outer : List Env) (s : Shared) (H : Hp) (vs : List V) (Q : VK) (E : XK), Room k (A.deeper (envOfC "Both.__init__" (defScope s_Both_init) s.heap.objs.size (He.ma K (He.ga K "Both") "__init__") cdv)) → sp vs H Q E →
      ∃ t, PSs (cxOf CX0 P w K mg base n_Both_init "Both.__init__" (defScope s_Both_init) (He.ma K (He.ga K "Both") "__init__") cdv A outer s H E).nox (defBody s_Both_init) t ∧ t { nx := fun _ H' => Q .non H', rt := Q } (start n_Both_init vs) H) :
    Ok P w K mg base (k + 1) (He.ma K (He.ga K "Both") "__init__") ["self", "one", "other"] sp :=
  def_ok (T.f_Both_init) sc_Both_init (fun _ _ _ _ _ _ us hl => match us, hl with | [_, _, _], _ => rfl) len body
abbrev n_Both_claims : List Str := ["self", "kinds", "look"]
theorem sc_Both_claims : FnScope n_Both_claims ["self", "kinds", "look"] (defScope s_Both_claims) := ⟨rfl, rfl, rfl, by decide +kernel, rfl, by decide +kernel, by decide +kernel⟩
theorem Txt.f_Both_claims (T : Txt K mg) : ∃ fd, FunD K "claims" "Both.claims" (defArgs s_Both_claims) (defBody s_Both_claims) (defScope s_Both_claims) [] [] (He.ma K (He.ga K "Both") "claims") fd := T.says.def_ 22 (d := d_Both_claims) rfl
theorem def_Both_claims {P : Program} {w : World} {base : Heap} {k : Nat} {sp : Sp} (T : Txt K mg) (len : ∀ vs H Q E, sp vs H Q E → vs.length = 3)
    (body : ∀ (cdv : Value) (A : Around) (outer : List Env) (s : Shared) (H : Hp) (vs : List V) (Q : VK) (E : XK), Room k (A.deeper (envOfC "Both.claims" (defScope s_Both_claims) s.heap.objs.size (He.ma K (He.ga K "Both") "claims") cdv)) → sp vs H Q E →
      ∃ t, PSs (cxOf CX0 P w K mg base n_Both_claims "Both.claims" (defScope s_Both_claims) (He.ma K (He.ga K "Both") "claims") cdv A outer s H E).nox (defBody s_Both_claims) t ∧ t { nx := fun _ H' => Q .non H', rt := Q } (start n_Both_claims vs) H) :
    Ok P w K mg base (k + 1) (He.ma K (He.ga K "Both") "claims") ["self", "kinds", "look"] sp :=
  def_ok (T.f_Both_claims) sc_Both_claims (fun _ _ _ _ _ _ us hl => match us, hl with | [_, _, _], _ => rfl) len body
abbrev n_Either_init : List Str := ["self", "one", "other"]
theorem sc_Either_init : FnScope n_Either_init ["self", "one", "other"] (defScope s_Either_init) := ⟨rfl, rfl, rfl, by decide +kernel, rfl, by decide +kernel, by decide +kernel⟩
theorem Txt.f_Either_init (T : Txt K mg) : ∃ fd, FunD K "__init__" "Either.__init__" (defArgs s_Either_init) (defBody s_Either_init) (defScope s_Either_init) [] [] (He.ma K (He.ga K "Either") "__init__") fd := T.says.def_ 23 (d := d_Either_init) rfl
theorem def_Either_init {P : Program} {w : World} {base : Heap} {k : Nat} {sp : Sp} (T : Txt K mg) (len : ∀ vs H Q E, sp vs H Q E → vs.length = 3)
    (body : ∀ (cdv : Value) (A : Around) (outer : List Env) (s : Shared) (H : Hp) (vs : List V) (Q : VK) (E : XK), Room k (A.deeper (envOfC "Either.__init__" (defScope s_Either_init) s.heap.objs.size (He.ma K (He.ga K "Either") "__init__") cdv)) → sp vs H Q E →
      ∃ t, PSs (cxOf CX0 P w K mg base n_Either_init "Either.__init__" (defScope s_Either_init) (He.ma K (He.ga K "Either") "__init__") cdv A outer s H E).nox (defBody s_Either_init) t ∧ t { nx := fun _ H' => Q .non H', rt := Q } (start n_Either_init vs) H) :
    Ok P w K mg base (k + 1) (He.ma K (He.ga K "Either") "__init__") ["self", "one", "other"] sp :=
  def_ok (T.f_Either_init) sc_Either_init (fun _ _ _ _ _ _ us hl => match us, hl with | [_, _, _], _ => rfl) len body
abbrev n_Either_claims : List Str := ["self", "kinds", "look"]
theorem sc_Either_claims : FnScope n_Either_claims ["self", "kinds", "look"] (defScope s_Either_claims) := ⟨rfl, rfl, rfl, by decide +kernel, rfl, by decide +kernel, by decide +kernel⟩
theorem Txt.f_Either_claims (T : Txt K mg) : ∃ fd, FunD K "claims" "Either.claims" (defArgs s_Either_claims) (defBody s_Either_claims) (defScope s_Either_claims) [] [] (He.ma K (He.ga K "Either") "claims") fd := T.says.def_ 24 (d := d_Either_claims) rfl
theorem def_Either_claims {P : Program} {w : World} {base : Heap} {k : Nat} {sp : Sp} (T : Txt K mg) (len : ∀ vs H Q E, sp vs H Q E → vs.length = 3)
    (body : ∀ (cdv : Value) (A : Around) (outer : List Env) (s : Shared) (H : Hp) (vs : List V) (Q : VK) (E : XK), Room k (A.deeper (envOfC "Either.claims" (defScope s_Either_claims) s.heap.objs.size (He.ma K (He.ga K "Either") "claims") cdv)) → sp vs H Q E →
      ∃ t, PSs (cxOf CX0 P w K mg base n_Either_claims "Either.claims" (defScope s_Either_claims) (He.ma K (He.ga K "Either") "claims") cdv A outer s H E).nox (defBody s_Either_claims) t ∧ t { nx := fun _ H' => Q .non H', rt := Q } (start n_Either_claims vs) H) :
    Ok P w K mg base (k + 1) (He.ma K (He.ga K "Either") "claims") ["self", "kinds", "look"] sp :=
  def_ok (T.f_Either_claims) sc_Either_claims (fun _ _ _ _ _ _ us hl => match us, hl with | [_, _, _], _ => rfl) len body
abbrev n_But_init : List Str := ["self", "one", "other"]
theorem sc_But_init : FnScope n_But_init ["self", "one", "other"] (defScope s_But_init) := ⟨rfl, rfl, rfl, by decide +kernel, rfl, by decide +kernel, by decide +kernel⟩
theorem Txt.f_But_init (T : Txt K mg) : ∃ fd, FunD K "__init__" "But.__init__" (defArgs s_But_init) (defBody s_But_init) (defScope s_But_init) [] [] (He.ma K (He.ga K "But") "__init__") fd := T.says.def_ 25 (d := d_But_init) rfl
theorem def_But_init {P : Program} {w : World} {base : Heap} {k : Nat} {sp : Sp} (T : Txt K mg) (len : ∀ vs H Q E, sp vs H Q E → vs.length = 3)
    (body : ∀ (cdv : Value) (A : Around) (outer : List Env) (s : Shared) (H : Hp) (vs : List V) (Q : VK) (E : XK), Room k (A.deeper (envOfC "But.__init__" (defScope s_But_init) s.heap.objs.size (He.ma K (He.ga K "But") "__init__") cdv)) → sp vs H Q E →
      ∃ t, PSs (cxOf CX0 P w K mg base n_But_init "But.__init__" (defScope s_But_init) (He.ma K (He.ga K "But") "__init__") cdv A outer s H E).nox (defBody s_But_init) t ∧ t { nx := fun _ H' => Q .non H', rt := Q } (start n_But_init vs) H) :
    Ok P w K mg base (k + 1) (He.ma K (He.ga K "But") "__init__") ["self", "one", "other"] sp :=
  def_ok (T.f_But_init) sc_But_init (fun _ _ _ _ _ _ us hl => match us, hl with | [_, _, _], _ => rfl) len body
abbrev n_But_claims : List Str := ["self", "kinds", "look"]
theorem sc_But_claims : FnScope n_But_claims ["self", "kinds", "look"] (defScope s_But_claims) := ⟨rfl, rfl, rfl, by decide +kernel, rfl, by decide +kernel, by decide +kernel⟩
theorem Txt.f_But_claims (T : Txt K mg) : ∃ fd, FunD K "claims" "But.claims" (defArgs s_But_claims) (defBody s_But_claims) (defScope s_But_claims) [] [] (He.ma K (He.ga K "But") "claims") fd := T.says.def_ 26 (d := d_But_claims) rfl
theorem def_But_claims {P : Program} {w : World} {base : Heap} {k : Nat} {sp : Sp} (T : Txt K mg) (len : ∀ vs H Q E, sp vs H Q E → vs.length = 3)
    (body : ∀ (cdv : Value) (A : Around) (outer : List Env) (s : Shared) (H : Hp) (vs : List V) (Q : VK) (E : XK), Room k (A.deeper (envOfC "But.claims" (defScope s_But_claims) s.heap.objs.size (He.ma K (He.ga K "But") "claims") cdv)) → sp vs H Q E →
      ∃ t, PSs (cxOf CX0 P w K mg base n_But_claims "But.claims" (defScope s_But_claims) (He.ma K (He.ga K "But") "claims") cdv A outer s H E).nox (defBody s_But_claims) t ∧ t { nx := fun _ H' => Q .non H', rt := Q } (start n_But_claims vs) H) :
    Ok P w K mg base (k + 1) (He.ma K (He.ga K "But") "claims") ["self", "kinds", "look"] sp :=
  def_ok (T.f_But_claims) sc_But_claims (fun _ _ _ _ _ _ us hl => match us, hl with | [_, _, _], _ => rfl) len body
abbrev n_is_pair : List Str := ["thing"]
theorem sc_is_pair : FnScope n_is_pair ["thing"] (defScope s_is_pair) := ⟨rfl, rfl, rfl, by decide +kernel, rfl, by decide +kernel, by decide +kernel⟩
theorem Txt.f_is_pair (T : Txt K mg) : ∃ fd, FunD K "is_pair" "is_pair" (defArgs s_is_pair) (defBody s_is_pair) (defScope s_is_pair) [] [] (He.ga K "is_pair") fd := T.says.def_ 27 (d := d_is_pair) rfl
theorem def_is_pair {P : Program} {w : World} {base : Heap} {k : Nat} {sp : Sp} (T : Txt K mg) (len : ∀ vs H Q E, sp vs H Q E → vs.length = 1)
    (body : ∀ (cdv : Value) (A : Around) (outer : List Env) (s : Shared) (H : Hp) (vs : List V) (Q : VK) (E : XK), Room k (A.deeper (envOfC "is_pair" (defScope s_is_pair) s.heap.objs.size (He.ga K "is_pair") cdv)) → sp vs H Q E →
      ∃ t, PSs (cxOf CX0 P w K mg base n_is_pair "is_pair" (defScope s_is_pair) (He.ga K "is_pair") cdv A outer s H E).nox (defBody s_is_pair) t ∧ t { nx := fun _ H' => Q .non H', rt := Q } (start n_is_pair vs) H) :
    Ok P w K mg base (k + 1) (He.ga K "is_pair") ["thing"] sp :=
  def_ok (T.f_is_pair) sc_is_pair (fun _ _ _ _ _ _ us hl => match us, hl with | [_], _ => rfl) len body
abbrev n_plain_of : List Str := ["told", "word"]
theorem sc_plain_of : FnScope n_plain_of ["told"] (defScope s_plain_of) := ⟨rfl, rfl, rfl, by decide +kernel, rfl, by decide +kernel, by decide +kernel⟩
theorem Txt.f_plain_of (T : Txt K mg) : ∃ fd, FunD K "plain_of" "plain_of" (defArgs s_plain_of) (defBody s_plain_of) (defScope s_plain_of) [] [] (He.ga K "plain_of") fd := T.says.def_ 28 (d := d_plain_of) rfl
theorem def_plain_of {P : Program} {w : World} {base : Heap} {k : Nat} {sp : Sp} (T : Txt K mg) (len : ∀ vs H Q E, sp vs H Q E → vs.length = 1)
    (body : ∀ (cdv : Value) (A : Around) (outer : List Env) (s : Shared) (H : Hp) (vs : List V) (Q : VK) (E : XK), Room k (A.deeper (envOfC "plain_of" (defScope s_plain_of) s.heap.objs.size (He.ga K "plain_of") cdv)) → sp vs H Q E →
      ∃ t, PSs (cxOf CX0 P w K mg base n_plain_of "plain_of" (defScope s_plain_of) (He.ga K "plain_of") cdv A outer s H E).nox (defBody s_plain_of) t ∧ t { nx := fun _ H' => Q .non H', rt := Q } (start n_plain_of vs) H) :
    Ok P w K mg base (k + 1) (He.ga K "plain_of") ["told"] sp :=
  def_ok (T.f_plain_of) sc_plain_of (fun _ _ _ _ _ _ us hl => match us, hl with | [_], _ => rfl) len body
abbrev n_made_at : List Str := ["told", "deep", "one", "other", "plain"]
theorem sc_made_at : FnScope n_made_at ["told", "deep"] (defScope s_made_at) := ⟨rfl, rfl, rfl, by decide +kernel, rfl, by decide +kernel, by decide +kernel⟩
theorem Txt.f_made_at (T : Txt K mg) : ∃ fd, FunD K "made_at" "made_at" (defArgs s_made_at) (defBody s_made_at) (defScope s_made_at) [] [] (He.ga K "made_at") fd := T.says.def_ 29 (d := d_made_at) rfl
theorem def_made_at {P : Program} {w : World} {base : Heap} {k : Nat} {sp : Sp} (T : Txt K mg) (len : ∀ vs H Q E, sp vs H Q E → vs.length = 2)
    (body : ∀ (cdv : Value) (A : Around) (outer : List Env) (s : Shared) (H : Hp) (vs : List V) (Q : VK) (E : XK), Room k (A.deeper (envOfC "made_at" (defScope s_made_at) s.heap.objs.size (He.ga K "made_at") cdv)) → sp vs H Q E →
      ∃ t, PSs (cxOf CX0 P w K mg base n_made_at "made_at" (defScope s_made_at) (He.ga K "made_at") cdv A outer s H E).nox (defBody s_made_at) t ∧ t { nx := fun _ H' => Q .non H', rt := Q } (start n_made_at vs) H) :
    Ok P w K mg base (k + 1) (He.ga K "made_at") ["told", "deep"] sp :=
  def_ok (T.f_made_at) sc_made_at (fun _ _ _ _ _ _ us hl => match us, hl with | [_, _], _ => rfl) len body
abbrev n_note_of : List Str := ["told"]
theorem sc_note_of : FnScope n_note_of ["told"] (defScope s_note_of) := ⟨rfl, rfl, rfl, by decide +kernel, rfl, by decide +kernel, by decide +kernel⟩
theorem Txt.f_note_of (T : Txt K mg) : ∃ fd, FunD K "note_of" "note_of" (defArgs s_note_of) (defBody s_note_of) (defScope s_note_of) [] [] (He.ga K "note_of") fd := T.says.def_ 30 (d := d_note_of) rfl
theorem def_note_of {P : Program} {w : World} {base : Heap} {k : Nat} {sp : Sp} (T : Txt K mg) (len : ∀ vs H Q E, sp vs H Q E → vs.length = 1)
    (body : ∀ (cdv : Value) (A : Around) (outer : List Env) (s : Shared) (H : Hp) (vs : List V) (Q : VK) (E : XK), Room k (A.deeper (envOfC "note_of" (defScope s_note_of) s.heap.objs.size (He.ga K "note_of") cdv)) → sp vs H Q E →
      ∃ t, PSs (cxOf CX0 P w K mg base n_note_of "note_of" (defScope s_note_of) (He.ga K "note_of") cdv A outer s H E).nox (defBody s_note_of) t ∧ t { nx := fun _ H' => Q .non H', rt := Q } (start n_note_of vs) H) :
    Ok P w K mg base (k + 1) (He.ga K "note_of") ["told"] sp :=
  def_ok (T.f_note_of) sc_note_of (fun _ _ _ _ _ _ us hl => match us, hl with | [_], _ => rfl) len body
abbrev n_is_row : List Str := ["row"]
theorem sc_is_row : FnScope n_is_row ["row"] (defScope s_is_row) := ⟨rfl, rfl, rfl, by decide +kernel, rfl, by decide +kernel, by decide +kernel⟩
theorem Txt.f_is_row (T : Txt K mg) : ∃ fd, FunD K "is_row" "is_row" (defArgs s_is_row) (defBody s_is_row) (defScope s_is_row) [] [] (He.ga K "is_row") fd := T.says.def_ 31 (d := d_is_row) rfl
theorem def_is_row {P : Program} {w : World} {base : Heap} {k : Nat} {sp : Sp} (T : Txt K mg) (len : ∀ vs H Q E, sp vs H Q E → vs.length = 1)
    (body : ∀ (cdv : Value) (A : Around) (outer : List Env) (s : Shared) (H : Hp) (vs : List V) (Q : VK) (E : XK), Room k (A.deeper (envOfC "is_row" (defScope s_is_row) s.heap.objs.size (He.ga K "is_row") cdv)) → sp vs H Q E →
      ∃ t, PSs (cxOf CX0 P w K mg base n_is_row "is_row" (defScope s_is_row) (He.ga K "is_row") cdv A outer s H E).nox (defBody s_is_row) t ∧ t { nx := fun _ H' => Q .non H', rt := Q } (start n_is_row vs) H) :
    Ok P w K mg base (k + 1) (He.ga K "is_row") ["row"] sp :=
  def_ok (T.f_is_row) sc_is_row (fun _ _ _ _ _ _ us hl => match us, hl with | [_], _ => rfl) len body
abbrev n_rows_by_number : List Str := ["rule", "rows", "known", "row", "number"]
theorem sc_rows_by_number : FnScope n_rows_by_number ["rule", "rows"] (defScope s_rows_by_number) := ⟨rfl, rfl, rfl, by decide +kernel, rfl, by decide +kernel, by decide +kernel⟩
theorem Txt.f_rows_by_number (T : Txt K mg) : ∃ fd, FunD K "rows_by_number" "rows_by_number" (defArgs s_rows_by_number) (defBody s_rows_by_number) (defScope s_rows_by_number) [] [] (He.ga K "rows_by_number") fd := T.says.def_ 32 (d := d_rows_by_number) rfl
theorem def_rows_by_number {P : Program} {w : World} {base : Heap} {k : Nat} {sp : Sp} (T : Txt K mg) (len : ∀ vs H Q E, sp vs H Q E → vs.length = 2)
    (body : ∀ (cdv : Value) (A : Around) (outer : List Env) (s : Shared) (H : Hp) (vs : List V) (Q : VK) (E : XK), Room k (A.deeper (envOfC "rows_by_number" (defScope s_rows_by_number) s.heap.objs.size (He.ga K "rows_by_number") cdv)) → sp vs H Q E →
      ∃ t, PSs (cxOf CX0 P w K mg base n_rows_by_number "rows_by_number" (defScope s_rows_by_number) (He.ga K "rows_by_number") cdv A outer s H E).nox (defBody s_rows_by_number) t ∧ t { nx := fun _ H' => Q .non H', rt := Q } (start n_rows_by_number vs) H) :
    Ok P w K mg base (k + 1) (He.ga K "rows_by_number") ["rule", "rows"] sp :=
  def_ok (T.f_rows_by_number) sc_rows_by_number (fun _ _ _ _ _ _ us hl => match us, hl with | [_, _], _ => rfl) len body
abbrev n_Tree_init : List Str := ["self", "kinds", "rule", "rows", "known", "number", "looks", "look"]
theorem sc_Tree_init : FnScope n_Tree_init ["self", "kinds", "rule", "rows"] (defScope s_Tree_init) := ⟨rfl, rfl, rfl, by decide +kernel, rfl, by decide +kernel, by decide +kernel⟩
theorem Txt.f_Tree_init (T : Txt K mg) : ∃ fd, FunD K "__init__" "Tree.__init__" (defArgs s_Tree_init) (defBody s_Tree_init) (defScope s_Tree_init) [] [] (He.ma K (He.ga K "Tree") "__init__") fd := T.says.def_ 33 (d := d_Tree_init) rfl
theorem def_Tree_init {P : Program} {w : World} {base : Heap} {k : Nat} {sp : Sp} (T : Txt K mg) (len : ∀ vs H Q E, sp vs H Q E → vs.length = 4)
    (body : ∀ (cdv : Value) (A : Around) (outer : List Env) (s : Shared) (H : Hp) (vs : List V) (Q : VK) (E : XK), Room k (A.deeper (envOfC "Tree.__init__" (defScope s_Tree_init) s.heap.objs.size (He.ma K (He.ga K "Tree") "__init__") cdv)) → sp vs H Q E →
      ∃ t, PSs (cxOf CX0 P w K mg base n_Tree_init "Tree.__init__" (defScope s_Tree_init) (He.ma K (He.ga K "Tree") "__init__") cdv A outer s H E).nox (defBody s_Tree_init) t ∧ t { nx := fun _ H' => Q .non H', rt := Q } (start n_Tree_init vs) H) :
    Ok P w K mg base (k + 1) (He.ma K (He.ga K "Tree") "__init__") ["self", "kinds", "rule", "rows"] sp :=
  def_ok (T.f_Tree_init) sc_Tree_init (fun _ _ _ _ _ _ us hl => match us, hl with | [_, _, _, _], _ => rfl) len body
abbrev n_Tree_claims : List Str := ["self", "number", "look"]
theorem sc_Tree_claims : FnScope n_Tree_claims ["self", "number", "look"] (defScope s_Tree_claims) := ⟨rfl, rfl, rfl, by decide +kernel, rfl, by decide +kernel, by decide +kernel⟩
theorem Txt.f_Tree_claims (T : Txt K mg) : ∃ fd, FunD K "claims" "Tree.claims" (defArgs s_Tree_claims) (defBody s_Tree_claims) (defScope s_Tree_claims) [] [] (He.ma K (He.ga K "Tree") "claims") fd := T.says.def_ 34 (d := d_Tree_claims) rfl
theorem def_Tree_claims {P : Program} {w : World} {base : Heap} {k : Nat} {sp : Sp} (T : Txt K mg) (len : ∀ vs H Q E, sp vs H Q E → vs.length = 3)
    (body : ∀ (cdv : Value) (A : Around) (outer : List Env) (s : Shared) (H : Hp) (vs : List V) (Q : VK) (E : XK), Room k (A.deeper (envOfC "Tree.claims" (defScope s_Tree_claims) s.heap.objs.size (He.ma K (He.ga K "Tree") "claims") cdv)) → sp vs H Q E →
      ∃ t, PSs (cxOf CX0 P w K mg base n_Tree_claims "Tree.claims" (defScope s_Tree_claims) (He.ma K (He.ga K "Tree") "claims") cdv A outer s H E).nox (defBody s_Tree_claims) t ∧ t { nx := fun _ H' => Q .non H', rt := Q } (start n_Tree_claims vs) H) :
    Ok P w K mg base (k + 1) (He.ma K (He.ga K "Tree") "claims") ["self", "number", "look"] sp :=
  def_ok (T.f_Tree_claims) sc_Tree_claims (fun _ _ _ _ _ _ us hl => match us, hl with | [_, _, _], _ => rfl) len body
abbrev n_Tree_looked : List Str := ["self", "number"]
theorem sc_Tree_looked : FnScope n_Tree_looked ["self", "number"] (defScope s_Tree_looked) := ⟨rfl, rfl, rfl, by decide +kernel, rfl, by decide +kernel, by decide +kernel⟩
theorem Txt.f_Tree_looked (T : Txt K mg) : ∃ fd, FunD K "looked" "Tree.looked" (defArgs s_Tree_looked) (defBody s_Tree_looked) (defScope s_Tree_looked) [] [] (He.ma K (He.ga K "Tree") "looked") fd := T.says.def_ 35 (d := d_Tree_looked) rfl
theorem def_Tree_looked {P : Program} {w : World} {base : Heap} {k : Nat} {sp : Sp} (T : Txt K mg) (len : ∀ vs H Q E, sp vs H Q E → vs.length = 2)
    (body : ∀ (cdv : Value) (A : Around) (outer : List Env) (s : Shared) (H : Hp) (vs : List V) (Q : VK) (E : XK), Room k (A.deeper (envOfC "Tree.looked" (defScope s_Tree_looked) s.heap.objs.size (He.ma K (He.ga K "Tree") "looked") cdv)) → sp vs H Q E →
      ∃ t, PSs (cxOf CX0 P w K mg base n_Tree_looked "Tree.looked" (defScope s_Tree_looked) (He.ma K (He.ga K "Tree") "looked") cdv A outer s H E).nox (defBody s_Tree_looked) t ∧ t { nx := fun _ H' => Q .non H', rt := Q } (start n_Tree_looked vs) H) :
    Ok P w K mg base (k + 1) (He.ma K (He.ga K "Tree") "looked") ["self", "number"] sp :=
  def_ok (T.f_Tree_looked) sc_Tree_looked (fun _ _ _ _ _ _ us hl => match us, hl with | [_, _], _ => rfl) len body
abbrev n__law_cell_at : List Str := ["_law_script", "_law_k"]
theorem sc__law_cell_at : FnScope n__law_cell_at ["_law_script", "_law_k"] (defScope s__law_cell_at) := ⟨rfl, rfl, rfl, by decide +kernel, rfl, by decide +kernel, by decide +kernel⟩
theorem Txt.f__law_cell_at (T : Txt K mg) : ∃ fd, FunD K "_law_cell_at" "_law_cell_at" (defArgs s__law_cell_at) (defBody s__law_cell_at) (defScope s__law_cell_at) [] [] (He.ga K "_law_cell_at") fd := T.says.def_ 36 (d := d__law_cell_at) rfl
theorem def__law_cell_at {P : Program} {w : World} {base : Heap} {k : Nat} {sp : Sp} (T : Txt K mg) (len : ∀ vs H Q E, sp vs H Q E → vs.length = 2)
    (body : ∀ (cdv : Value) (A : Around) (outer : List Env) (s : Shared) (H : Hp) (vs : List V) (Q : VK) (E : XK), Room k (A.deeper (envOfC "_law_cell_at" (defScope s__law_cell_at) s.heap.objs.size (He.ga K "_law_cell_at") cdv)) → sp vs H Q E →
      ∃ t, PSs (cxOf CX0 P w K mg base n__law_cell_at "_law_cell_at" (defScope s__law_cell_at) (He.ga K "_law_cell_at") cdv A outer s H E).nox (defBody s__law_cell_at) t ∧ t { nx := fun _ H' => Q .non H', rt := Q } (start n__law_cell_at vs) H) :
    Ok P w K mg base (k + 1) (He.ga K "_law_cell_at") ["_law_script", "_law_k"] sp :=
  def_ok (T.f__law_cell_at) sc__law_cell_at (fun _ _ _ _ _ _ us hl => match us, hl with | [_, _], _ => rfl) len body
abbrev n__law_names : List Str := ["_law_cell", "_law_more", "_law_letters", "_law_primes", "_law_some", "_law_k", "_law_signs", "_law_size", "_law_j", "_law_sign"]
theorem sc__law_names : FnScope n__law_names ["_law_cell", "_law_more"] (defScope s__law_names) := ⟨rfl, rfl, rfl, by decide +kernel, rfl, by decide +kernel, by decide +kernel⟩
theorem Txt.f__law_names (T : Txt K mg) : ∃ fd, FunD K "_law_names" "_law_names" (defArgs s__law_names) (defBody s__law_names) (defScope s__law_names) [] [] (He.ga K "_law_names") fd := T.says.def_ 37 (d := d__law_names) rfl
theorem def__law_names {P : Program} {w : World} {base : Heap} {k : Nat} {sp : Sp} (T : Txt K mg) (len : ∀ vs H Q E, sp vs H Q E → vs.length = 2)
    (body : ∀ (cdv : Value) (A : Around) (outer : List Env) (s : Shared) (H : Hp) (vs : List V) (Q : VK) (E : XK), Room k (A.deeper (envOfC "_law_names" (defScope s__law_names) s.heap.objs.size (He.ga K "_law_names") cdv)) → sp vs H Q E →
      ∃ t, PSs (cxOf CX0 P w K mg base n__law_names "_law_names" (defScope s__law_names) (He.ga K "_law_names") cdv A outer s H E).nox (defBody s__law_names) t ∧ t { nx := fun _ H' => Q .non H', rt := Q } (start n__law_names vs) H) :
    Ok P w K mg base (k + 1) (He.ga K "_law_names") ["_law_cell", "_law_more"] sp :=
  def_ok (T.f__law_names) sc__law_names (fun _ _ _ _ _ _ us hl => match us, hl with | [_, _], _ => rfl) len body
abbrev n__law_kinds : List Str := ["_law_script", "_law_cell", "_law_stuffs", "_law_uses", "_law_many", "_law_step", "_law_some", "_law_k", "_law_spot"]
theorem sc__law_kinds : FnScope n__law_kinds ["_law_script"] (defScope s__law_kinds) := ⟨rfl, rfl, rfl, by decide +kernel, rfl, by decide +kernel, by decide +kernel⟩
theorem Txt.f__law_kinds (T : Txt K mg) : ∃ fd, FunD K "_law_kinds" "_law_kinds" (defArgs s__law_kinds) (defBody s__law_kinds) (defScope s__law_kinds) [] [] (He.ga K "_law_kinds") fd := T.says.def_ 38 (d := d__law_kinds) rfl
theorem def__law_kinds {P : Program} {w : World} {base : Heap} {k : Nat} {sp : Sp} (T : Txt K mg) (len : ∀ vs H Q E, sp vs H Q E → vs.length = 1)
    (body : ∀ (cdv : Value) (A : Around) (outer : List Env) (s : Shared) (H : Hp) (vs : List V) (Q : VK) (E : XK), Room k (A.deeper (envOfC "_law_kinds" (defScope s__law_kinds) s.heap.objs.size (He.ga K "_law_kinds") cdv)) → sp vs H Q E →
      ∃ t, PSs (cxOf CX0 P w K mg base n__law_kinds "_law_kinds" (defScope s__law_kinds) (He.ga K "_law_kinds") cdv A outer s H E).nox (defBody s__law_kinds) t ∧ t { nx := fun _ H' => Q .non H', rt := Q } (start n__law_kinds vs) H) :
    Ok P w K mg base (k + 1) (He.ga K "_law_kinds") ["_law_script"] sp :=
  def_ok (T.f__law_kinds) sc__law_kinds (fun _ _ _ _ _ _ us hl => match us, hl with | [_], _ => rfl) len body
abbrev n__law_there : List Str := ["_law_kinds_here", "_law_look", "_law_side", "_law_name", "_law_least", "_law_k"]
theorem sc__law_there : FnScope n__law_there ["_law_kinds_here", "_law_look", "_law_side", "_law_name", "_law_least"] (defScope s__law_there) := ⟨rfl, rfl, rfl, by decide +kernel, rfl, by decide +kernel, by decide +kernel⟩
theorem Txt.f__law_there (T : Txt K mg) : ∃ fd, FunD K "_law_there" "_law_there" (defArgs s__law_there) (defBody s__law_there) (defScope s__law_there) [] [] (He.ga K "_law_there") fd := T.says.def_ 39 (d := d__law_there) rfl
theorem def__law_there {P : Program} {w : World} {base : Heap} {k : Nat} {sp : Sp} (T : Txt K mg) (len : ∀ vs H Q E, sp vs H Q E → vs.length = 5)
    (body : ∀ (cdv : Value) (A : Around) (outer : List Env) (s : Shared) (H : Hp) (vs : List V) (Q : VK) (E : XK), Room k (A.deeper (envOfC "_law_there" (defScope s__law_there) s.heap.objs.size (He.ga K "_law_there") cdv)) → sp vs H Q E →
      ∃ t, PSs (cxOf CX0 P w K mg base n__law_there "_law_there" (defScope s__law_there) (He.ga K "_law_there") cdv A outer s H E).nox (defBody s__law_there) t ∧ t { nx := fun _ H' => Q .non H', rt := Q } (start n__law_there vs) H) :
    Ok P w K mg base (k + 1) (He.ga K "_law_there") ["_law_kinds_here", "_law_look", "_law_side", "_law_name", "_law_least"] sp :=
  def_ok (T.f__law_there) sc__law_there (fun _ _ _ _ _ _ us hl => match us, hl with | [_, _, _, _, _], _ => rfl) len body
abbrev n__law_rank : List Str := ["_law_kinds_here", "_law_look", "_law_kind"]
theorem sc__law_rank : FnScope n__law_rank ["_law_kinds_here", "_law_look", "_law_kind"] (defScope s__law_rank) := ⟨rfl, rfl, rfl, by decide +kernel, rfl, by decide +kernel, by decide +kernel⟩
theorem Txt.f__law_rank (T : Txt K mg) : ∃ fd, FunD K "_law_rank" "_law_rank" (defArgs s__law_rank) (defBody s__law_rank) (defScope s__law_rank) [] [] (He.ga K "_law_rank") fd := T.says.def_ 40 (d := d__law_rank) rfl
theorem def__law_rank {P : Program} {w : World} {base : Heap} {k : Nat} {sp : Sp} (T : Txt K mg) (len : ∀ vs H Q E, sp vs H Q E → vs.length = 3)
    (body : ∀ (cdv : Value) (A : Around) (outer : List Env) (s : Shared) (H : Hp) (vs : List V) (Q : VK) (E : XK), Room k (A.deeper (envOfC "_law_rank" (defScope s__law_rank) s.heap.objs.size (He.ga K "_law_rank") cdv)) → sp vs H Q E →
      ∃ t, PSs (cxOf CX0 P w K mg base n__law_rank "_law_rank" (defScope s__law_rank) (He.ga K "_law_rank") cdv A outer s H E).nox (defBody s__law_rank) t ∧ t { nx := fun _ H' => Q .non H', rt := Q } (start n__law_rank vs) H) :
    Ok P w K mg base (k + 1) (He.ga K "_law_rank") ["_law_kinds_here", "_law_look", "_law_kind"] sp :=
  def_ok (T.f__law_rank) sc__law_rank (fun _ _ _ _ _ _ us hl => match us, hl with | [_, _, _], _ => rfl) len body
abbrev n__law_claims : List Str := ["_law_note_here", "_law_kinds_here", "_law_look", "_law_word"]
theorem sc__law_claims : FnScope n__law_claims ["_law_note_here", "_law_kinds_here", "_law_look"] (defScope s__law_claims) := ⟨rfl, rfl, rfl, by decide +kernel, rfl, by decide +kernel, by decide +kernel⟩
theorem Txt.f__law_claims (T : Txt K mg) : ∃ fd, FunD K "_law_claims" "_law_claims" (defArgs s__law_claims) (defBody s__law_claims) (defScope s__law_claims) [] [] (He.ga K "_law_claims") fd := T.says.def_ 41 (d := d__law_claims) rfl
theorem def__law_claims {P : Program} {w : World} {base : Heap} {k : Nat} {sp : Sp} (T : Txt K mg) (len : ∀ vs H Q E, sp vs H Q E → vs.length = 3)
    (body : ∀ (cdv : Value) (A : Around) (outer : List Env) (s : Shared) (H : Hp) (vs : List V) (Q : VK) (E : XK), Room k (A.deeper (envOfC "_law_claims" (defScope s__law_claims) s.heap.objs.size (He.ga K "_law_claims") cdv)) → sp vs H Q E →
      ∃ t, PSs (cxOf CX0 P w K mg base n__law_claims "_law_claims" (defScope s__law_claims) (He.ga K "_law_claims") cdv A outer s H E).nox (defBody s__law_claims) t ∧ t { nx := fun _ H' => Q .non H', rt := Q } (start n__law_claims vs) H) :
    Ok P w K mg base (k + 1) (He.ga K "_law_claims") ["_law_note_here", "_law_kinds_here", "_law_look"] sp :=
  def_ok (T.f__law_claims) sc__law_claims (fun _ _ _ _ _ _ us hl => match us, hl with | [_, _, _], _ => rfl) len body
abbrev n__law_plain : List Str := ["_law_cell", "_law_kinds_here", "_law_one", "_law_other"]
theorem sc__law_plain : FnScope n__law_plain ["_law_cell", "_law_kinds_here"] (defScope s__law_plain) := ⟨rfl, rfl, rfl, by decide +kernel, rfl, by decide +kernel, by decide +kernel⟩
theorem Txt.f__law_plain (T : Txt K mg) : ∃ fd, FunD K "_law_plain" "_law_plain" (defArgs s__law_plain) (defBody s__law_plain) (defScope s__law_plain) [] [] (He.ga K "_law_plain") fd := T.says.def_ 42 (d := d__law_plain) rfl
theorem def__law_plain {P : Program} {w : World} {base : Heap} {k : Nat} {sp : Sp} (T : Txt K mg) (len : ∀ vs H Q E, sp vs H Q E → vs.length = 2)
    (body : ∀ (cdv : Value) (A : Around) (outer : List Env) (s : Shared) (H : Hp) (vs : List V) (Q : VK) (E : XK), Room k (A.deeper (envOfC "_law_plain" (defScope s__law_plain) s.heap.objs.size (He.ga K "_law_plain") cdv)) → sp vs H Q E →
      ∃ t, PSs (cxOf CX0 P w K mg base n__law_plain "_law_plain" (defScope s__law_plain) (He.ga K "_law_plain") cdv A outer s H E).nox (defBody s__law_plain) t ∧ t { nx := fun _ H' => Q .non H', rt := Q } (start n__law_plain vs) H) :
    Ok P w K mg base (k + 1) (He.ga K "_law_plain") ["_law_cell", "_law_kinds_here"] sp :=
  def_ok (T.f__law_plain) sc__law_plain (fun _ _ _ _ _ _ us hl => match us, hl with | [_, _], _ => rfl) len body
abbrev n__law_note : List Str := ["_law_cell", "_law_kinds_here", "_law_deep", "_law_one", "_law_other"]
theorem sc__law_note : FnScope n__law_note ["_law_cell", "_law_kinds_here", "_law_deep"] (defScope s__law_note) := ⟨rfl, rfl, rfl, by decide +kernel, rfl, by decide +kernel, by decide +kernel⟩
theorem Txt.f__law_note (T : Txt K mg) : ∃ fd, FunD K "_law_note" "_law_note" (defArgs s__law_note) (defBody s__law_note) (defScope s__law_note) [] [] (He.ga K "_law_note") fd := T.says.def_ 43 (d := d__law_note) rfl
theorem def__law_note {P : Program} {w : World} {base : Heap} {k : Nat} {sp : Sp} (T : Txt K mg) (len : ∀ vs H Q E, sp vs H Q E → vs.length = 3)
    (body : ∀ (cdv : Value) (A : Around) (outer : List Env) (s : Shared) (H : Hp) (vs : List V) (Q : VK) (E : XK), Room k (A.deeper (envOfC "_law_note" (defScope s__law_note) s.heap.objs.size (He.ga K "_law_note") cdv)) → sp vs H Q E →
      ∃ t, PSs (cxOf CX0 P w K mg base n__law_note "_law_note" (defScope s__law_note) (He.ga K "_law_note") cdv A outer s H E).nox (defBody s__law_note) t ∧ t { nx := fun _ H' => Q .non H', rt := Q } (start n__law_note vs) H) :
    Ok P w K mg base (k + 1) (He.ga K "_law_note") ["_law_cell", "_law_kinds_here", "_law_deep"] sp :=
  def_ok (T.f__law_note) sc__law_note (fun _ _ _ _ _ _ us hl => match us, hl with | [_, _, _], _ => rfl) len body
abbrev n__law_rows : List Str := ["_law_script", "_law_kinds_here", "_law_cell", "_law_rows_here", "_law_k", "_law_more", "_law_at", "_law_elder", "_law_note_here", "_law_number", "_law_row"]
theorem sc__law_rows : FnScope n__law_rows ["_law_script", "_law_kinds_here"] (defScope s__law_rows) := ⟨rfl, rfl, rfl, by decide +kernel, rfl, by decide +kernel, by decide +kernel⟩
theorem Txt.f__law_rows (T : Txt K mg) : ∃ fd, FunD K "_law_rows" "_law_rows" (defArgs s__law_rows) (defBody s__law_rows) (defScope s__law_rows) [] [] (He.ga K "_law_rows") fd := T.says.def_ 44 (d := d__law_rows) rfl
theorem def__law_rows {P : Program} {w : World} {base : Heap} {k : Nat} {sp : Sp} (T : Txt K mg) (len : ∀ vs H Q E, sp vs H Q E → vs.length = 2)
    (body : ∀ (cdv : Value) (A : Around) (outer : List Env) (s : Shared) (H : Hp) (vs : List V) (Q : VK) (E : XK), Room k (A.deeper (envOfC "_law_rows" (defScope s__law_rows) s.heap.objs.size (He.ga K "_law_rows") cdv)) → sp vs H Q E →
      ∃ t, PSs (cxOf CX0 P w K mg base n__law_rows "_law_rows" (defScope s__law_rows) (He.ga K "_law_rows") cdv A outer s H E).nox (defBody s__law_rows) t ∧ t { nx := fun _ H' => Q .non H', rt := Q } (start n__law_rows vs) H) :
    Ok P w K mg base (k + 1) (He.ga K "_law_rows") ["_law_script", "_law_kinds_here"] sp :=
  def_ok (T.f__law_rows) sc__law_rows (fun _ _ _ _ _ _ us hl => match us, hl with | [_, _], _ => rfl) len body
abbrev n__law_turned : List Str := ["_law_rows_here", "_law_cell", "_law_at", "_law_row"]
theorem sc__law_turned : FnScope n__law_turned ["_law_rows_here", "_law_cell"] (defScope s__law_turned) := ⟨rfl, rfl, rfl, by decide +kernel, rfl, by decide +kernel, by decide +kernel⟩
theorem Txt.f__law_turned (T : Txt K mg) : ∃ fd, FunD K "_law_turned" "_law_turned" (defArgs s__law_turned) (defBody s__law_turned) (defScope s__law_turned) [] [] (He.ga K "_law_turned") fd := T.says.def_ 45 (d := d__law_turned) rfl
theorem def__law_turned {P : Program} {w : World} {base : Heap} {k : Nat} {sp : Sp} (T : Txt K mg) (len : ∀ vs H Q E, sp vs H Q E → vs.length = 2)
    (body : ∀ (cdv : Value) (A : Around) (outer : List Env) (s : Shared) (H : Hp) (vs : List V) (Q : VK) (E : XK), Room k (A.deeper (envOfC "_law_turned" (defScope s__law_turned) s.heap.objs.size (He.ga K "_law_turned") cdv)) → sp vs H Q E →
      ∃ t, PSs (cxOf CX0 P w K mg base n__law_turned "_law_turned" (defScope s__law_turned) (He.ga K "_law_turned") cdv A outer s H E).nox (defBody s__law_turned) t ∧ t { nx := fun _ H' => Q .non H', rt := Q } (start n__law_turned vs) H) :
    Ok P w K mg base (k + 1) (He.ga K "_law_turned") ["_law_rows_here", "_law_cell"] sp :=
  def_ok (T.f__law_turned) sc__law_turned (fun _ _ _ _ _ _ us hl => match us, hl with | [_, _], _ => rfl) len body
abbrev n__law_count : List Str := ["_law_note_here", "_law_kinds_here", "_law_looks", "_law_many", "_law_look"]
theorem sc__law_count : FnScope n__law_count ["_law_note_here", "_law_kinds_here", "_law_looks"] (defScope s__law_count) := ⟨rfl, rfl, rfl, by decide +kernel, rfl, by decide +kernel, by decide +kernel⟩
theorem Txt.f__law_count (T : Txt K mg) : ∃ fd, FunD K "_law_count" "_law_count" (defArgs s__law_count) (defBody s__law_count) (defScope s__law_count) [] [] (He.ga K "_law_count") fd := T.says.def_ 46 (d := d__law_count) rfl
theorem def__law_count {P : Program} {w : World} {base : Heap} {k : Nat} {sp : Sp} (T : Txt K mg) (len : ∀ vs H Q E, sp vs H Q E → vs.length = 3)
    (body : ∀ (cdv : Value) (A : Around) (outer : List Env) (s : Shared) (H : Hp) (vs : List V) (Q : VK) (E : XK), Room k (A.deeper (envOfC "_law_count" (defScope s__law_count) s.heap.objs.size (He.ga K "_law_count") cdv)) → sp vs H Q E →
      ∃ t, PSs (cxOf CX0 P w K mg base n__law_count "_law_count" (defScope s__law_count) (He.ga K "_law_count") cdv A outer s H E).nox (defBody s__law_count) t ∧ t { nx := fun _ H' => Q .non H', rt := Q } (start n__law_count vs) H) :
    Ok P w K mg base (k + 1) (He.ga K "_law_count") ["_law_note_here", "_law_kinds_here", "_law_looks"] sp :=
  def_ok (T.f__law_count) sc__law_count (fun _ _ _ _ _ _ us hl => match us, hl with | [_, _, _], _ => rfl) len body
abbrev n__law_depth : List Str := ["_law_note_here"]
theorem sc__law_depth : FnScope n__law_depth ["_law_note_here"] (defScope s__law_depth) := ⟨rfl, rfl, rfl, by decide +kernel, rfl, by decide +kernel, by decide +kernel⟩
theorem Txt.f__law_depth (T : Txt K mg) : ∃ fd, FunD K "_law_depth" "_law_depth" (defArgs s__law_depth) (defBody s__law_depth) (defScope s__law_depth) [] [] (He.ga K "_law_depth") fd := T.says.def_ 47 (d := d__law_depth) rfl
theorem def__law_depth {P : Program} {w : World} {base : Heap} {k : Nat} {sp : Sp} (T : Txt K mg) (len : ∀ vs H Q E, sp vs H Q E → vs.length = 1)
    (body : ∀ (cdv : Value) (A : Around) (outer : List Env) (s : Shared) (H : Hp) (vs : List V) (Q : VK) (E : XK), Room k (A.deeper (envOfC "_law_depth" (defScope s__law_depth) s.heap.objs.size (He.ga K "_law_depth") cdv)) → sp vs H Q E →
      ∃ t, PSs (cxOf CX0 P w K mg base n__law_depth "_law_depth" (defScope s__law_depth) (He.ga K "_law_depth") cdv A outer s H E).nox (defBody s__law_depth) t ∧ t { nx := fun _ H' => Q .non H', rt := Q } (start n__law_depth vs) H) :
    Ok P w K mg base (k + 1) (He.ga K "_law_depth") ["_law_note_here"] sp :=
  def_ok (T.f__law_depth) sc__law_depth (fun _ _ _ _ _ _ us hl => match us, hl with | [_], _ => rfl) len body
abbrev n__law_otherwise : List Str := ["_law_note_here", "_law_other", "_law_cell", "_law_some"]
theorem sc__law_otherwise : FnScope n__law_otherwise ["_law_note_here", "_law_other", "_law_cell"] (defScope s__law_otherwise) := ⟨rfl, rfl, rfl, by decide +kernel, rfl, by decide +kernel, by decide +kernel⟩
theorem Txt.f__law_otherwise (T : Txt K mg) : ∃ fd, FunD K "_law_otherwise" "_law_otherwise" (defArgs s__law_otherwise) (defBody s__law_otherwise) (defScope s__law_otherwise) [] [] (He.ga K "_law_otherwise") fd := T.says.def_ 48 (d := d__law_otherwise) rfl
theorem def__law_otherwise {P : Program} {w : World} {base : Heap} {k : Nat} {sp : Sp} (T : Txt K mg) (len : ∀ vs H Q E, sp vs H Q E → vs.length = 3)
    (body : ∀ (cdv : Value) (A : Around) (outer : List Env) (s : Shared) (H : Hp) (vs : List V) (Q : VK) (E : XK), Room k (A.deeper (envOfC "_law_otherwise" (defScope s__law_otherwise) s.heap.objs.size (He.ga K "_law_otherwise") cdv)) → sp vs H Q E →
      ∃ t, PSs (cxOf CX0 P w K mg base n__law_otherwise "_law_otherwise" (defScope s__law_otherwise) (He.ga K "_law_otherwise") cdv A outer s H E).nox (defBody s__law_otherwise) t ∧ t { nx := fun _ H' => Q .non H', rt := Q } (start n__law_otherwise vs) H) :
    Ok P w K mg base (k + 1) (He.ga K "_law_otherwise") ["_law_note_here", "_law_other", "_law_cell"] sp :=
  def_ok (T.f__law_otherwise) sc__law_otherwise (fun _ _ _ _ _ _ us hl => match us, hl with | [_, _, _], _ => rfl) len body
abbrev n__law_is : List Str := ["_law_found", "_law_due"]
theorem sc__law_is : FnScope n__law_is ["_law_found", "_law_due"] (defScope s__law_is) := ⟨rfl, rfl, rfl, by decide +kernel, rfl, by decide +kernel, by decide +kernel⟩
theorem Txt.f__law_is (T : Txt K mg) : ∃ fd, FunD K "_law_is" "_law_is" (defArgs s__law_is) (defBody s__law_is) (defScope s__law_is) [] [] (He.ga K "_law_is") fd := T.says.def_ 49 (d := d__law_is) rfl
theorem def__law_is {P : Program} {w : World} {base : Heap} {k : Nat} {sp : Sp} (T : Txt K mg) (len : ∀ vs H Q E, sp vs H Q E → vs.length = 2)
    (body : ∀ (cdv : Value) (A : Around) (outer : List Env) (s : Shared) (H : Hp) (vs : List V) (Q : VK) (E : XK), Room k (A.deeper (envOfC "_law_is" (defScope s__law_is) s.heap.objs.size (He.ga K "_law_is") cdv)) → sp vs H Q E →
      ∃ t, PSs (cxOf CX0 P w K mg base n__law_is "_law_is" (defScope s__law_is) (He.ga K "_law_is") cdv A outer s H E).nox (defBody s__law_is) t ∧ t { nx := fun _ H' => Q .non H', rt := Q } (start n__law_is vs) H) :
    Ok P w K mg base (k + 1) (He.ga K "_law_is") ["_law_found", "_law_due"] sp :=
  def_ok (T.f__law_is) sc__law_is (fun _ _ _ _ _ _ us hl => match us, hl with | [_, _], _ => rfl) len body
abbrev n_law : List Str := ["_law_script", "_law_kinds_here", "_law_rows_here", "_law_looks", "_law_tree", "_law_number", "_law_note_here", "_law_rule", "_law_other", "_law_some", "_law_beside"]
theorem sc_law : FnScope n_law ["_law_script"] (defScope s_law) := ⟨rfl, rfl, rfl, by decide +kernel, rfl, by decide +kernel, by decide +kernel⟩
theorem Txt.f_law (T : Txt K mg) : ∃ fd, FunD K "law" "law" (defArgs s_law) (defBody s_law) (defScope s_law) [] [] (He.ga K "law") fd := T.says.def_ 50 (d := d_law) rfl
theorem def_law {P : Program} {w : World} {base : Heap} {k : Nat} {sp : Sp} (T : Txt K mg) (len : ∀ vs H Q E, sp vs H Q E → vs.length = 1)
    (body : ∀ (cdv : Value) (A : Around) (outer : List Env) (s : Shared) (H : Hp) (vs : List V) (Q : VK) (E : XK), Room k (A.deeper (envOfC "law" (defScope s_law) s.heap.objs.size (He.ga K "law") cdv)) → sp vs H Q E →
      ∃ t, PSs (cxOf CX0 P w K mg base n_law "law" (defScope s_law) (He.ga K "law") cdv A outer s H E).nox (defBody s_law) t ∧ t { nx := fun _ H' => Q .non H', rt := Q } (start n_law vs) H) :
    Ok P w K mg base (k + 1) (He.ga K "law") ["_law_script"] sp :=
  def_ok (T.f_law) sc_law (fun _ _ _ _ _ _ us hl => match us, hl with | [_], _ => rfl) len body
end
end K43
set_option Elab.async false
set_option linter.all false
set_option maxRecDepth 100000
set_option maxHeartbeats 0
namespace K43
open PySem L2
abbrev R : PySem.W.OpenRow := PySem.W.OpenLaw.row PySem.Challenge.rw_tariffgate_k43_looked
abbrev hk : PySem.W.Hook := He.hookX 6 fa fn [] [] ex
def ob (s : PySem.W.SharedT) : He.AlX := He.obsX 6 fa fn [] [] ex (HandSHeadRun.getT s)
theorem ob_eq (s : PySem.W.SharedT) : ob s = hk.obs s.abs := He.obsX_eq (HandSHeadRun.getT_eq s)
theorem run (w : World) : HandSHeadRun.RunEq R (PySem.W.view R.prog [66]) hk ob 20000 nm w := by
  intro os
  kernel_rfl
end K43
set_option Elab.async false
set_option linter.all false
set_option maxRecDepth 100000
set_option maxHeartbeats 4000000
namespace K43
open PySem PySem.Spec PyProof.Rows L2
section
variable {P : Program} {w : World} {K : PySem.W.Frag} {mg : Str → Option Value} {base : Heap}
/-! ### names -/
def abc : Str := "abcdefghijklmnopqrstuvwxyz"
def NameOk (x : Str) : Prop := 1 ≤ x.length ∧ x.length ≤ 8 ∧ ∀ c ∈ x.cps.toList, c ∈ abc.cps.toList
theorem le_line {n : Nat} (h : n ≤ 1000) : n ≤ sizeLine := by rw [sizeLine_eq]; omega
def spWhole : Sp := fun vs H Q _ => ∃ i : Int, vs = [.int i] ∧ Q (.bl true) H
theorem ok_is_whole (T : Txt K mg) : Ok P w K mg base 1 (He.ga K "is_whole") ["thing"] spWhole := by
  refine def_is_whole T (fun vs H Q E h => ?_) (fun cdv A outer s H vs Q E hr h => ?_)
  · obtain ⟨i, rfl, _⟩ := h; rfl
  · obtain ⟨i, rfl, q⟩ := h
    refine ⟨_, pss_one (ps_ret (pe_and (pe_callB call_isi (by rfl) T.no_isinstance (by decide +kernel) (pa_cons (pv 0) (pa_cons (pe_bltn (v := .ty "int") (by rfl) T.no_int (by decide +kernel) rfl) pa_nil)))
      (pe_one (pe_not (pe_callB call_isi (by rfl) T.no_isinstance (by decide +kernel) (pa_cons (pv 0) (pa_cons (pe_bltn (v := .ty "bool") (by rfl) T.no_bool (by decide +kernel) rfl) pa_nil))))))), ?_⟩
    refine ⟨_, rfl, _, _, _, _, true, rfl, .ty _, .base (.int _), kit_ty (by decide +kernel), _, rfl, iteT ?_⟩
    refine ⟨_, rfl, _, _, _, _, false, rfl, .ty _, .base (.int _), kit_ty (by decide +kernel), _, rfl, ?_⟩
    exact q
def spName : Sp := fun vs H Q _ => ∃ x : Str, vs = [.str x] ∧ NameOk x ∧ Q (.bl true) H
theorem ok_is_name (T : Txt K mg) : Ok P w K mg base 1 (He.ga K "is_name") ["thing"] spName := by
  obtain ⟨t1, hS⟩ := T.int_SIGNS
  obtain ⟨t2, hL⟩ := T.str_LETTERS
  refine def_is_name T (fun vs H Q E h => ?_) (fun cdv A outer s H vs Q E hr h => ?_)
  · obtain ⟨i, rfl, _⟩ := h; rfl
  · obtain ⟨x, rfl, ⟨n1, n2, n3⟩, q⟩ := h
    refine ⟨_, pss_cons (ps_if (PW.pt (pw_or (pt_not (pt_val (pe_callB call_isi (by rfl) T.no_isinstance (by decide +kernel) (pa_cons (pv 0) (pa_cons (pe_bltn (v := .ty "str") (by rfl) T.no_str (by decide +kernel) rfl) pa_nil)))))
        (pw_or1 (pt_not (pt_chain op_le op_le pe_int (pe_callB call_len_str (by rfl) T.no_len PySem.boot_len (pa_cons (pv 0) pa_nil)) (pe_glob (v := .int 8) (by rfl) hS ⟨_, rfl⟩))))))
        (pss_one (ps_ret pe_bl)) pss_nil)
      (pss_cons (ps_for PassesOwn.never rfl (pi_str (pv 0)) (pg_name (i := 1) sc_is_name.nd rfl (.inl rfl))
        (pss_one (ps_if (pt_cmpR op_notIn_sign (pv 1) (pe_glob (v := .str abc) (by rfl) hL ⟨_, rfl⟩) (by rfl)) (pss_one (ps_ret pe_bl)) pss_nil)))
      (pss_one (ps_ret pe_bl))), ?_⟩
    refine ⟨_, rfl, _, _, _, _, true, rfl, .ty _, .base (.str _), kit_ty (by decide +kernel), _, rfl, iteF ?_⟩
    refine ⟨_, rfl, _, rfl, le_line (by omega), _, _, rfl, rfl, _, rfl, ?_⟩
    rw [decide_eq_true (show (1 : Int) ≤ (x.length : Int) by omega)]
    refine iteT ⟨_, _, rfl, rfl, _, rfl, ?_⟩
    rw [decide_eq_true (show (x.length : Int) ≤ 8 by omega)]
    refine iteF ?_
    refine ⟨_, rfl, x, rfl, for_it walk_str (fun i σ' H' => H' = H ∧ ∃ v, σ' = [some (.str x), v]) ⟨rfl, _, rfl⟩ (fun _ _ _ _ _ => trivial) ?_ ?_⟩
    · rintro i v σ' H1 H2 hi ⟨rfl, v', rfl⟩ ⟨rfl, c, hc, rfl⟩
      refine ⟨_, rfl, _, _, rfl, rfl, _, rfl, iteNS (n3 c ?_) ⟨rfl, _, rfl⟩⟩
      exact List.mem_of_getElem? (by rw [Array.getElem?_toList]; exact hc)
    · rintro σ' H1 ⟨rfl, v', rfl⟩
      exact q
end
end K43
set_option Elab.async false
set_option linter.all false
set_option maxRecDepth 100000
set_option maxHeartbeats 4000000
namespace K43
open PySem PySem.Spec PyProof.Rows L2
theorem hu65 {A : Around} {k : Nat} (hr : Room k A) : A.units + 65 < cLine := by have := hr.un; omega
theorem hu64 {A : Around} {k : Nat} (hr : Room k A) : A.units + 64 < cLine := by have := hr.un; omega
theorem iteDT {p A B : Prop} [Decidable p] (hp : p) (h : A) : if decide p = true then A else B := by
  rw [decide_eq_true hp]; exact iteT h
theorem iteDF {p A B : Prop} [Decidable p] (hp : ¬ p) (h : B) : if decide p = true then A else B := by
  rw [decide_eq_false hp]; exact iteF h
theorem same_upd {H0 H1 : Hp} {b : Addr} {o : HO} (s : Same H0 H1) (n : H0 b = none) : Same H0 (upd H1 b o) := fun c u e => by
  rw [upd_ne (ne_of_none e n)]; exact s c u e
theorem same_new {H : Hp} {b : Addr} {o : HO} (n : H b = none) : Same H (upd H b o) := same_upd (Same.refl H) n
abbrev Kd := Str × Str
def KdOk (k : Kd) : Prop := NameOk k.1 ∧ NameOk k.2
def KdAt (H : Hp) (p : Addr) (k : Kd) : Prop := H p = some (.tup [.str k.1, .str k.2])
theorem KdAt.keep {H H' : Hp} {p : Addr} {k : Kd} (h : KdAt H p k) (s : Same H H') : KdAt H' p k := s _ _ h
/-- the kinds in a row -/
abbrev KdsAt (H : Hp) : List Addr → List Kd → Prop := Paired (KdAt H)
theorem KdsAt.keep {H H' : Hp} {ps : List Addr} {ks : List Kd} (h : KdsAt H ps ks) (s : Same H H') : KdsAt H' ps ks := Paired.mapP h fun _ _ r => r.keep s
theorem paired_at {α β : Type} {F : α → β → Prop} {l : List α} {m : List β} (h : Paired F l m) : ∀ {i : Nat} {a : α}, l[i]? = some a → ∃ b, m[i]? = some b ∧ F a b := by
  induction h with
  | nil => intro i a e; simp at e
  | @cons a b l m r t ih =>
    intro i c e
    cases i with
    | zero => simp at e; subst e; exact ⟨b, rfl, r⟩
    | succ i => simp at e ⊢; exact ih e
theorem paired_at' {α β : Type} {F : α → β → Prop} {l : List α} {m : List β} (h : Paired F l m) : ∀ {i : Nat} {b : β}, m[i]? = some b → ∃ a, l[i]? = some a ∧ F a b := by
  induction h with
  | nil => intro i a e; simp at e
  | @cons a b l m r t ih =>
    intro i c e
    cases i with
    | zero => simp at e; subst e; exact ⟨a, rfl, r⟩
    | succ i => simp at e ⊢; exact ih e
theorem paired_take {α β : Type} {F : α → β → Prop} {l : List α} {m : List β} (h : Paired F l m) : ∀ i, Paired F (l.take i) (m.take i) := by
  induction h with
  | nil => intro i; simp; exact .nil
  | @cons a b l m r t ih =>
    intro i
    cases i with
    | zero => simp; exact .nil
    | succ i => simp; exact .cons r (ih i)
theorem map_at {α β : Type} {f : α → β} {l : List α} {i : Nat} {y : β} (h : (l.map f)[i]? = some y) : ∃ x, l[i]? = some x ∧ y = f x := by
  rw [List.getElem?_map] at h
  cases e : l[i]? with
  | none => rw [e] at h; cases h
  | some x => rw [e] at h; exact ⟨x, rfl, (Option.some.inj h).symm⟩
theorem take_next {α : Type} {l : List α} {i : Nat} {x : α} (h : l[i]? = some x) : l.take (i + 1) = l.take i ++ [x] := by
  rw [List.take_add_one, h]; rfl
theorem list_end {α : Type} (l : List α) : l.take l.length = l := List.take_length
/-! ### kinds as data -/
def kD (k : Kd) : PyData := .tuple [.str k.1, .str k.2]
theorem kD_eqv (j k : Kd) : PyData.eqv (kD j) (kD k) = decide (j = k) := by
  obtain ⟨a, b⟩ := j
  obtain ⟨c, d⟩ := k
  have e : PyData.eqv (kD (a, b)) (kD (c, d)) = ((a == c) && ((b == d) && true)) := by simp only [kD, PyData.eqv, PyData.eqvAll]
  rw [e]
  by_cases h1 : a = c
  · subst h1
    by_cases h2 : b = d
    · subst h2; simp
    · simp [h2]
  · simp [h1]
theorem name_lay {x : Str} (h : NameOk x) : PyData.canLay0 (.str x) = true := by
  show PySem.PyData.strOk x = true
  unfold PyData.strOk
  rw [← Array.all_toList]
  rw [List.all_eq_true]
  intro c hc
  have h1 := h.2.2 c hc
  have h2 : ∀ d ∈ abc.cps.toList, d < 0x110000 := by decide +kernel
  exact decide_eq_true (h2 c h1)
theorem kD_lay {k : Kd} (h : KdOk k) : PyData.canLay0 (kD k) = true := by
  show (PyData.canLay0 (.str k.1) && (PyData.canLay0 (.str k.2) && true)) = true
  rw [name_lay h.1, name_lay h.2]; rfl
theorem kD_depth (k : Kd) : (kD k).depth = 1 := by simp [kD, PyData.depth, PyData.depthAll]
theorem kD_shaped {k : Kd} (h : KdOk k) : SeqAt.shaped (kD k) = true := by
  show ((kD k).canLay0 && decide ((kD k).depth ≤ 64)) = true
  rw [kD_lay h, kD_depth]; rfl
theorem kDs_lay : ∀ {ks : List Kd}, (∀ k ∈ ks, KdOk k) → PyData.canLayAll0 (ks.map kD) = true
  | [], _ => rfl
  | k :: ks, h => by
    show (PyData.canLay0 (kD k) && PyData.canLayAll0 (ks.map kD)) = true
    rw [kD_lay (h k List.mem_cons_self), kDs_lay fun j hj => h j (List.mem_cons_of_mem _ hj)]; rfl
theorem kDs_depth : ∀ ks : List Kd, PyData.depthAll (ks.map kD) ≤ 1
  | [] => by simp [PyData.depthAll]
  | k :: ks => by
    have h1 := kDs_depth ks
    have h2 := kD_depth k
    simp only [List.map_cons, PyData.depthAll]
    omega
theorem kDs_shaped {ks : List Kd} (h : ∀ k ∈ ks, KdOk k) : SeqAt.shaped (.list (ks.map kD)) = true := by
  have h1 := kDs_depth ks
  have h2 : PyData.depth (.list (ks.map kD)) ≤ 64 := by
    simp only [PyData.depth]
    omega
  show (PyData.canLay0 (.list (ks.map kD)) && decide (PyData.depth (.list (ks.map kD)) ≤ 64)) = true
  rw [Bool.and_eq_true]
  exact ⟨by simp only [PyData.canLay0]; exact kDs_lay h, decide_eq_true h2⟩
theorem kD_dp {K : PySem.W.Frag} {H : Hp} {p : Addr} {k : Kd} (h : KdAt H p k) : Dp K H (.ref p) (kD k) := .tup (SqT.of h) (.cons (.str _) (.cons (.str _) .nil))
theorem kDs_dp {K : PySem.W.Frag} {H : Hp} {ps : List Addr} {ks : List Kd} (h : KdsAt H ps ks) : DpAll K H (ps.map V.ref) (ks.map kD) := by
  induction h with
  | nil => exact .nil
  | cons r t ih => exact .cons (kD_dp r) ih
theorem kDs_any (ks : List Kd) (k : Kd) : ((ks.map kD).any fun z => PyData.eqv z (kD k)) = decide (k ∈ ks) := by
  induction ks with
  | nil => rfl
  | cons j ks ih =>
    rw [List.map_cons, List.any_cons, ih, kD_eqv]
    by_cases h1 : j = k
    · subst h1; simp
    · have h2 : ¬ k = j := fun z => h1 z.symm
      simp [h1, h2]
section
variable {P : Program} {w : World} {K : PySem.W.Frag} {mg : Str → Option Value} {base : Heap}
/-! ### prefixes, numbers -/
def NumOk (ns : List Int) : Prop := ns.length ≤ 4 ∧ ∀ n ∈ ns, 1 ≤ n ∧ n ≤ 99
def spPrefix : Sp := fun vs H Q _ => ∃ (a : Addr) (ns : List Int), vs = [.ref a] ∧ H a = some (.tup (ns.map V.int)) ∧ NumOk ns ∧ Q (.bl true) H
theorem ok_is_prefix (T : Txt K mg) : Ok P w K mg base 2 (He.ga K "is_prefix") ["thing"] spPrefix := by
  obtain ⟨t1, hP⟩ := T.int_PARTS
  obtain ⟨t2, hM⟩ := T.int_MOST
  refine def_is_prefix T (fun vs H Q E h => ?_) (fun cdv A outer s H vs Q E hr h => ?_)
  · obtain ⟨i, ns, rfl, _⟩ := h; rfl
  · obtain ⟨a, ns, rfl, hA, ⟨n1, n2⟩, q⟩ := h
    refine ⟨_, pss_cons (ps_if (PW.pt (pw_or (pt_not (pt_val (pe_callB call_isi (by rfl) T.no_isinstance (by decide +kernel) (pa_cons (pv 0) (pa_cons (pe_bltn (v := .ty "tuple") (by rfl) T.no_tuple (by decide +kernel) rfl) pa_nil)))))
        (pw_or1 (pt_cmpR op_gt (pe_callB call_len_seq (by rfl) T.no_len PySem.boot_len (pa_cons (pv 0) pa_nil)) (pe_glob (v := .int 4) (by rfl) hP ⟨_, rfl⟩) (nomark _)))))
        (pss_one (ps_ret pe_bl)) pss_nil)
      (pss_cons (ps_for PassesOwn.never rfl (pi_tup (pv 0)) (pg_name (i := 1) sc_is_prefix.nd rfl (.inl rfl))
        (pss_one (ps_if (PW.pt (pw_or (pt_not (pt_val (pe_callO (ok_is_whole T) hr (by rfl) T.mg_is_whole (pa_cons (pv 1) pa_nil))))
          (pw_or1 (pt_not (pt_chain op_le op_le pe_int (pv 1) (pe_glob (v := .int 99) (by rfl) hM ⟨_, rfl⟩)))))) (pss_one (ps_ret pe_bl)) pss_nil)))
      (pss_one (ps_ret pe_bl))), ?_⟩
    refine ⟨_, rfl, _, _, _, _, true, rfl, .ty _, .base (.tup hA), kit_ty (by decide +kernel), _, rfl, iteF ?_⟩
    refine ⟨_, rfl, a, _, rfl, .inr (SqT.of hA), _, _, rfl, rfl, _, rfl, iteDF (by rw [List.length_map]; omega) ?_⟩
    refine ⟨_, rfl, a, rfl, ⟨_, SqT.of hA⟩, for_it (walk_tup (xs := ns.map V.int)) (fun i σ' H' => H' = H ∧ ∃ v, σ' = [some (.ref a), v]) ⟨rfl, _, rfl⟩ ?_ ?_ ?_⟩
    · rintro i σ' H' _ ⟨rfl, _⟩
      exact SqT.of hA
    · rintro i v σ' H1 H2 hi ⟨rfl, v', rfl⟩ ⟨rfl, hv⟩
      obtain ⟨n, hn, rfl⟩ := map_at hv
      obtain ⟨m1, m2⟩ := n2 n (List.mem_of_getElem? hn)
      refine ⟨_, rfl, n, rfl, _, rfl, iteF ?_⟩
      refine ⟨_, rfl, _, _, rfl, rfl, _, rfl, iteDT m1 ⟨_, _, rfl, rfl, _, rfl, ?_⟩⟩
      rw [decide_eq_true m2]
      exact iteF ⟨rfl, _, rfl⟩
    · rintro σ' H1 ⟨rfl, v', rfl⟩
      exact q
theorem ok_is_number (T : Txt K mg) : Ok P w K mg base 3 (He.ga K "is_number") ["thing"] (fun vs H Q _ => ∃ (a : Addr) (ns : List Int), vs = [.ref a] ∧ H a = some (.tup (ns.map V.int)) ∧ NumOk ns ∧ ns ≠ [] ∧ Q (.bl true) H) := by
  refine def_is_number T (fun vs H Q E h => ?_) (fun cdv A outer s H vs Q E hr h => ?_)
  · obtain ⟨i, ns, rfl, _⟩ := h; rfl
  · obtain ⟨a, ns, rfl, hA, hn, h0, q⟩ := h
    refine ⟨_, pss_one (ps_ret (pe_and (pe_callO (ok_is_prefix T) hr (by rfl) T.mg_is_prefix (pa_cons (pv 0) pa_nil))
      (pe_one (pe_cmpR op_gt (pe_callB call_len_seq (by rfl) T.no_len PySem.boot_len (pa_cons (pv 0) pa_nil)) pe_int (nomark _))))), ?_⟩
    refine ⟨_, rfl, a, ns, rfl, hA, hn, _, rfl, iteT ?_⟩
    refine ⟨_, rfl, a, _, rfl, .inr (SqT.of hA), _, _, rfl, rfl, ?_⟩
    have e : decide ((0 : Int) < ((ns.map V.int).length : Int)) = true := decide_eq_true (by
      rw [List.length_map]
      have := List.length_pos_iff.mpr h0
      omega)
    show Q (V.bl (decide ((0 : Int) < ((ns.map V.int).length : Int)))) H
    rw [e]
    exact q
/-! ### kinds -/
def spKind : Sp := fun vs H Q _ => ∃ (a : Addr) (k : Kd), vs = [.ref a] ∧ KdAt H a k ∧ KdOk k ∧ Q (.bl true) H
theorem ok_is_kind (T : Txt K mg) : Ok P w K mg base 2 (He.ga K "is_kind") ["thing"] spKind := by
  refine def_is_kind T (fun vs H Q E h => ?_) (fun cdv A outer s H vs Q E hr h => ?_)
  · obtain ⟨i, ns, rfl, _⟩ := h; rfl
  · obtain ⟨a, k, rfl, hA, hk, q⟩ := h
    refine ⟨_, pss_one (ps_ret (pe_and (pe_callB call_isi (by rfl) T.no_isinstance (by decide +kernel) (pa_cons (pv 0) (pa_cons (pe_bltn (v := .ty "tuple") (by rfl) T.no_tuple (by decide +kernel) rfl) pa_nil)))
      (pe_and (pe_cmpR op_eq (pe_callB call_len_seq (by rfl) T.no_len PySem.boot_len (pa_cons (pv 0) pa_nil)) pe_int (nomark _))
      (pe_and (pe_callO (ok_is_name T) hr (by rfl) T.mg_is_name (pa_cons (pe_ix ix_tup (pv 0) pe_int (fun _ _ => rfl)) pa_nil))
      (pe_one (pe_callO (ok_is_name T) hr (by rfl) T.mg_is_name (pa_cons (pe_ix ix_tup (pv 0) pe_int (fun _ _ => rfl)) pa_nil))))))), ?_⟩
    refine ⟨_, rfl, _, _, _, _, true, rfl, .ty _, .base (.tup hA), kit_ty (by decide +kernel), _, rfl, iteT ?_⟩
    refine ⟨_, rfl, a, _, rfl, .inr (SqT.of hA), rfl, _, rfl, iteDT rfl ?_⟩
    refine ⟨_, rfl, a, _, _, _, rfl, rfl, SqT.of hA, rfl, k.1, rfl, hk.1, _, rfl, iteT ?_⟩
    exact ⟨_, rfl, a, _, _, _, rfl, rfl, SqT.of hA, rfl, k.2, rfl, hk.2, q⟩
theorem ok_is_pair (T : Txt K mg) : Ok P w K mg base 2 (He.ga K "is_pair") ["thing"] spKind := by
  refine def_is_pair T (fun vs H Q E h => ?_) (fun cdv A outer s H vs Q E hr h => ?_)
  · obtain ⟨i, ns, rfl, _⟩ := h; rfl
  · obtain ⟨a, k, rfl, hA, hk, q⟩ := h
    refine ⟨_, pss_one (ps_ret (pe_and (pe_callB call_isi (by rfl) T.no_isinstance (by decide +kernel) (pa_cons (pv 0) (pa_cons (pe_bltn (v := .ty "tuple") (by rfl) T.no_tuple (by decide +kernel) rfl) pa_nil)))
      (pe_and (pe_cmpR op_eq (pe_callB call_len_seq (by rfl) T.no_len PySem.boot_len (pa_cons (pv 0) pa_nil)) pe_int (nomark _))
      (pe_and (pe_callO (ok_is_name T) hr (by rfl) T.mg_is_name (pa_cons (pe_ix ix_tup (pv 0) pe_int (fun _ _ => rfl)) pa_nil))
      (pe_one (pe_callO (ok_is_name T) hr (by rfl) T.mg_is_name (pa_cons (pe_ix ix_tup (pv 0) pe_int (fun _ _ => rfl)) pa_nil))))))), ?_⟩
    refine ⟨_, rfl, _, _, _, _, true, rfl, .ty _, .base (.tup hA), kit_ty (by decide +kernel), _, rfl, iteT ?_⟩
    refine ⟨_, rfl, a, _, rfl, .inr (SqT.of hA), rfl, _, rfl, iteDT rfl ?_⟩
    refine ⟨_, rfl, a, _, _, _, rfl, rfl, SqT.of hA, rfl, k.1, rfl, hk.1, _, rfl, iteT ?_⟩
    exact ⟨_, rfl, a, _, _, _, rfl, rfl, SqT.of hA, rfl, k.2, rfl, hk.2, q⟩
/-- kinds as they are handed about: at a a list of the tuples at ps -/
structure Kds (K : PySem.W.Frag) (H : Hp) (a : Addr) (ps : List Addr) (ks : List Kd) : Prop where
  lst : H a = some (.lst (ps.map V.ref))
  at_ : KdsAt H ps ks
  ok : ∀ k ∈ ks, KdOk k
  nd : ks.Nodup
  lo : 1 ≤ ks.length
  hi : ks.length ≤ 4
theorem Kds.keep {H H' : Hp} {a : Addr} {ps : List Addr} {ks : List Kd} (h : Kds K H a ps ks) (s : Same H H') : Kds K H' a ps ks := ⟨s _ _ h.lst, h.at_.keep s, h.ok, h.nd, h.lo, h.hi⟩
theorem Kds.len {H : Hp} {a : Addr} {ps : List Addr} {ks : List Kd} (h : Kds K H a ps ks) : ps.length = ks.length := Paired.length h.at_
def spKindsOf (K : PySem.W.Frag) : Sp := fun vs H Q _ => ∃ (a : Addr) (ps : List Addr) (ks : List Kd), vs = [.ref a] ∧ Kds K H a ps ks ∧
  ∀ (H' : Hp) (b : Addr), Same H H' → H b = none → Kds K H' b ps ks → Q (.ref b) H'
theorem ok_kinds_of (T : Txt K mg) : Ok P w K mg base 3 (He.ga K "kinds_of") ["some"] (spKindsOf K) := by
  obtain ⟨t1, hP⟩ := T.int_KINDS
  refine def_kinds_of T (fun vs H Q E h => ?_) (fun cdv A outer s H vs Q E hr h => ?_)
  · obtain ⟨i, ns, ks, rfl, _⟩ := h; rfl
  · obtain ⟨a, ps, ks, rfl, D, q⟩ := h
    have hlen := D.len
    have hlo := D.lo
    have hhi := D.hi
    refine ⟨_, pss_cons (ps_if (PW.pt (pw_or (pt_not (pt_val (pe_callB call_isi (by rfl) T.no_isinstance (by decide +kernel) (pa_cons (pv 0) (pa_cons (pe_bltn (v := .ty "list") (by rfl) T.no_list (by decide +kernel) rfl) pa_nil)))))
        (pw_or1 (pt_not (pt_chain op_le op_le pe_int (pe_callB call_len_seq (by rfl) T.no_len PySem.boot_len (pa_cons (pv 0) pa_nil)) (pe_glob (v := .int 4) (by rfl) hP ⟨_, rfl⟩))))))
        (pss_one ps_never) pss_nil)
      (pss_cons (ps_set (i := 1) sc_kinds_of.nd rfl (.inl rfl) (pe_lst pa_nil))
      (pss_cons (ps_for PassesOwn.never rfl (pi_list (pv 0)) (pg_name (i := 2) sc_kinds_of.nd rfl (.inl rfl))
        (pss_cons (ps_if (PW.pt (pw_or (pt_not (pt_val (pe_callO (ok_is_kind T) hr (by rfl) T.mg_is_kind (pa_cons (pv 2) pa_nil))))
          (pw_or1 (pt_cmpR (op_inD (hu65 hr)) (pv 2) (pv 1) (by rfl))))) (pss_one ps_never) pss_nil)
        (pss_one (ps_expr (pe_bm PySem.F.plainAttrs_list PySem.F.slot_list_append PySem.F.type_list_append mt_append (pv 1) (pa_cons (pv 2) pa_nil))))))
      (pss_one (ps_ret (pv 1))))), ?_⟩
    refine ⟨_, rfl, _, _, _, _, true, rfl, .ty _, .base (.lst D.lst), kit_ty (by decide +kernel), _, rfl, iteF ?_⟩
    refine ⟨_, rfl, a, _, rfl, .inl (SqL.of D.lst), _, _, rfl, rfl, _, rfl, iteDT (by rw [List.length_map]; omega) ⟨_, _, rfl, rfl, _, rfl, ?_⟩⟩
    rw [decide_eq_true (show ((ps.map V.ref).length : Int) ≤ 4 by rw [List.length_map]; omega)]
    refine iteF ⟨Nat.zero_le _, fun b hb => ?_⟩
    have nba : a ≠ b := ne_of_none D.lst hb
    refine ⟨_, rfl, a, rfl, ⟨_, SqL.of (by rw [upd_ne nba]; exact D.lst)⟩, for_it (walk_list (xs := ps.map V.ref))
      (fun i σ' H' => Same H H' ∧ H' b = some (.lst ((ps.take i).map V.ref)) ∧ ∃ v, σ' = [some (.ref a), some (.ref b), v]) ⟨same_new hb, upd_same, _, rfl⟩ ?_ ?_ ?_⟩
    · rintro i σ' H' _ ⟨s1, _⟩
      exact SqL.of (s1 _ _ D.lst)
    · rintro i v σ' H1 H2 hi ⟨s1, hB, v', rfl⟩ ⟨rfl, hv⟩
      obtain ⟨p, hp, rfl⟩ := map_at hv
      obtain ⟨k, hk, hpk⟩ := paired_at D.at_ hp
      have ok := D.ok k (List.mem_of_getElem? hk)
      refine ⟨_, rfl, p, k, rfl, hpk.keep s1, ok, _, rfl, iteF ?_⟩
      refine ⟨_, rfl, _, rfl, kD k, (ks.take i).map kD, kD_dp (hpk.keep s1), .lst (SqL.of hB) (kDs_dp (paired_take (D.at_.keep s1) i)), kD_shaped ok, kDs_shaped (fun j hj => D.ok j (List.mem_of_mem_take hj)), _, rfl, ?_⟩
      have nin : ¬ k ∈ ks.take i := fun z => by
        obtain ⟨j, hj, ej⟩ := List.mem_take_iff_getElem.mp z
        have h1 : j < i := by omega
        obtain ⟨hi2, ei⟩ := List.getElem?_eq_some_iff.mp hk
        have := (List.getElem_inj D.nd).mp (ej.trans ei.symm)
        omega
      rw [kDs_any, decide_eq_false nin]
      refine iteF ⟨_, rfl, .inl ⟨rfl, _, SqL.of hB⟩, _, rfl, b, _, _, rfl, rfl, hB, small1000 ?_, ?_⟩
      · rw [List.length_map, List.length_take]; omega
      · refine ⟨same_upd s1 hb, ?_, _, rfl⟩
        rw [upd_same, take_next hp, List.map_append]
        rfl
    · rintro σ' H1 ⟨s1, hB, v', rfl⟩
      rw [List.length_map, list_end] at hB
      exact ⟨_, rfl, q H1 b s1 hb ⟨hB, D.at_.keep s1, D.ok, D.nd, D.lo, D.hi⟩⟩
end
end K43
set_option Elab.async false
set_option linter.all false
set_option maxRecDepth 100000
set_option maxHeartbeats 4000000
namespace K43
open PySem PySem.Spec PyProof.Rows L2
/-! ### rows of numbers -/
def RowV (H : Hp) (v : V) (r : List Int) : Prop := ∃ p, v = .ref p ∧ H p = some (.tup (r.map V.int))
theorem RowV.keep {H H' : Hp} {v : V} {r : List Int} (h : RowV H v r) (s : Same H H') : RowV H' v r := by
  obtain ⟨p, e, h⟩ := h
  exact ⟨p, e, s _ _ h⟩
abbrev RowsV (H : Hp) : List V → List (List Int) → Prop := Paired (RowV H)
theorem RowsV.keep {H H' : Hp} {xs : List V} {rs : List (List Int)} (h : RowsV H xs rs) (s : Same H H') : RowsV H' xs rs := Paired.mapP h fun _ _ r => r.keep s
theorem paired_app {α β : Type} {F : α → β → Prop} {l l' : List α} {m m' : List β} (h : Paired F l m) (h' : Paired F l' m') : Paired F (l ++ l') (m ++ m') := by
  induction h with
  | nil => exact h'
  | cons r _ ih => exact .cons r ih
theorem paired_perm {α β : Type} {F : α → β → Prop} {l l' : List α} (h : l'.Perm l) : ∀ {m : List β}, Paired F l m → ∃ m', Paired F l' m' ∧ m'.Perm m := by
  induction h with
  | nil => intro m r; exact ⟨m, r, List.Perm.refl _⟩
  | cons u _ ih =>
    intro m r
    cases r with
    | cons r1 r =>
      obtain ⟨ys, h1, h2⟩ := ih r
      exact ⟨_ :: ys, .cons r1 h1, h2.cons _⟩
  | swap u v l =>
    intro m r
    cases r with
    | cons r1 r => cases r with
      | cons r2 r => exact ⟨_ :: _ :: _, .cons r2 (.cons r1 r), List.Perm.swap ..⟩
  | trans _ _ ih1 ih2 =>
    intro m r
    obtain ⟨ys, h1, h2⟩ := ih2 r
    obtain ⟨zs, h3, h4⟩ := ih1 h1
    exact ⟨zs, h3, h4.trans h2⟩
/-! ### the steps of a row: its numbers above 0, rising, each once -/
theorem rise_same : ∀ {a b : List Int}, a.Pairwise (· < ·) → b.Pairwise (· < ·) → (∀ k, k ∈ a ↔ k ∈ b) → a = b
  | [], [], _, _, _ => rfl
  | [], y :: ys, _, _, h => absurd ((h y).mpr List.mem_cons_self) (by simp)
  | x :: xs, [], _, _, h => absurd ((h x).mp List.mem_cons_self) (by simp)
  | x :: xs, y :: ys, ha, hb, h => by
    obtain ⟨a1, a2⟩ := List.pairwise_cons.mp ha
    obtain ⟨b1, b2⟩ := List.pairwise_cons.mp hb
    have e : x = y := by
      have h1 := (h x).mp List.mem_cons_self
      have h2 := (h y).mpr List.mem_cons_self
      rcases List.mem_cons.mp h1 with z | z
      · exact z
      · rcases List.mem_cons.mp h2 with z2 | z2
        · exact z2.symm
        · have := b1 x z
          have := a1 y z2
          omega
    subst e
    have e2 : xs = ys := rise_same a2 b2 fun k => by
      constructor
      · intro hk
        rcases List.mem_cons.mp ((h k).mp (List.mem_cons_of_mem _ hk)) with z | z
        · have := a1 k hk; omega
        · exact z
      · intro hk
        rcases List.mem_cons.mp ((h k).mpr (List.mem_cons_of_mem _ hk)) with z | z
        · have := b1 k hk; omega
        · exact z
    rw [e2]
def IsSteps (ns st : List Int) : Prop := st.Pairwise (· < ·) ∧ ∀ k, k ∈ st ↔ (k ∈ ns ∧ 0 < k)
open Classical in
noncomputable def stepsL (ns : List Int) : List Int := if h : ∃ st, IsSteps ns st then h.choose else []
theorem steps_is {ns st : List Int} (h : IsSteps ns st) : stepsL ns = st := by
  have hx : ∃ st, IsSteps ns st := ⟨st, h⟩
  unfold stepsL
  rw [dif_pos hx]
  have q := hx.choose_spec
  exact rise_same q.1 h.1 fun k => (q.2 k).trans (h.2 k).symm
noncomputable def lookAt (st : List Int) (w : Int) : Int := if 0 < w then (st.idxOf w : Int) + 1 else 0
noncomputable def lookL (ns : List Int) : List Int := ns.map (lookAt (stepsL ns))
theorem look_len (ns : List Int) : (lookL ns).length = ns.length := by unfold lookL; rw [List.length_map]
theorem idx_first {st : List Int} {w : Int} (h : w ∈ st) : st[st.idxOf w]? = some w ∧ ∀ m z, m < st.idxOf w → st[m]? = some z → z ≠ w := by
  induction st with
  | nil => simp at h
  | cons x xs ih =>
    by_cases e : x = w
    · subst e
      simp
    · have h2 : w ∈ xs := by
        rcases List.mem_cons.mp h with z | z
        · exact absurd z.symm e
        · exact z
      obtain ⟨i1, i2⟩ := ih h2
      have e3 : (x :: xs).idxOf w = xs.idxOf w + 1 := by
        rw [List.idxOf_cons, show (x == w) = false from beq_eq_false_iff_ne.mpr e]; rfl
      rw [e3]
      refine ⟨by simpa using i1, fun m z hm hz => ?_⟩
      cases m with
      | zero => simp at hz; rw [← hz]; exact e
      | succ m => simp at hz; exact i2 m z (by omega) hz
/-! ### all rows, all looks -/
def rowsL (m : Nat) : Nat → List (List Int)
  | 0 => [[]]
  | k + 1 => (rowsL m k).flatMap fun r => (List.range (m + 1)).map fun n => r ++ [((n : Nat) : Int)]
noncomputable def goodL (r : List Int) : Bool := r.any (fun n => decide (0 < n)) && decide (lookL r = r)
noncomputable def looksL (m : Nat) : List (List Int) := (rowsL m m).filter goodL
theorem rows_width (m : Nat) : ∀ k, ∀ r ∈ rowsL m k, r.length = k
  | 0, r, h => by
    rw [List.mem_singleton.mp (show r ∈ [[]] from h)]; rfl
  | k + 1, r, h => by
    obtain ⟨q, hq, h2⟩ := List.mem_flatMap.mp (show r ∈ (rowsL m k).flatMap _ from h)
    obtain ⟨n, _, rfl⟩ := List.mem_map.mp h2
    rw [List.length_append, rows_width m k q hq]; rfl
theorem rows_count (m : Nat) : ∀ k, (rowsL m k).length = (m + 1) ^ k
  | 0 => rfl
  | k + 1 => by
    show ((rowsL m k).flatMap _).length = _
    rw [List.length_flatMap]
    have h : ((rowsL m k).map fun r => ((List.range (m + 1)).map fun n => r ++ [((n : Nat) : Int)]).length) = (rowsL m k).map fun _ => m + 1 := List.map_congr_left fun r _ => by rw [List.length_map, List.length_range]
    rw [h, List.map_const', List.sum_replicate_nat, rows_count m k, Nat.pow_succ]
theorem looks_width {m : Nat} {r : List Int} (h : r ∈ looksL m) : r.length = m := rows_width m m r (List.mem_filter.mp h).1
theorem rows_few {m k : Nat} (hm : m ≤ 4) (hk : k ≤ 4) : (m + 1) ^ k ≤ 625 := by
  have h1 : (m + 1) ^ k ≤ 5 ^ k := Nat.pow_le_pow_left (by omega) k
  have h2 : 5 ^ k ≤ 5 ^ 4 := Nat.pow_le_pow_right (by omega) hk
  omega
theorem rows_bound {m k : Nat} (hm : m ≤ 4) (hk : k ≤ 4) : (rowsL m k).length ≤ 625 := by
  rw [rows_count]; exact rows_few hm hk
theorem ints_map_eq {a b : List Int} : (a.map V.int = b.map V.int) ↔ a = b := ⟨fun h => List.map_inj_right (fun x y e => by injection e) |>.mp h, fun h => by rw [h]⟩
section
variable {P : Program} {w : World} {K : PySem.W.Frag} {mg : Str → Option Value} {base : Heap}
def spLook : Sp := fun vs H Q _ => ∃ (a : Addr) (ns : List Int), vs = [.ref a] ∧ H a = some (.tup (ns.map V.int)) ∧ ns.length ≤ 4 ∧
  ∀ (H' : Hp) (p : Addr), Same H H' → H' p = some (.tup ((lookL ns).map V.int)) → Q (.ref p) H'
theorem ok_look_of (T : Txt K mg) : Ok P w K mg base 1 (He.ga K "look_of") ["weights"] spLook := by
  refine def_look_of T (fun vs H Q E h => ?_) (fun cdv A outer s H vs Q E hr h => ?_)
  · obtain ⟨i, ns, rfl, _⟩ := h; rfl
  · obtain ⟨a, ns, rfl, hA, hn, q⟩ := h
    refine ⟨_, pss_cons (ps_set (i := 2) sc_look_of.nd rfl (.inl rfl) (pe_callB (cr_sortedSet rfl) (by rfl) T.no_sorted (by decide +kernel) (pa_cons
        (pe_callTy (cr_setL rfl) (by rfl) T.no_set (by decide +kernel) (pa_cons
          (pe_lc (own := [("weight", 1)]) (g := gName 1) rfl sc_look_of.nd (pi_tup (pv 0)) (blkOk_by (N := n_look_of) (sc := defScope s_look_of) (by decide +kernel)) (fun _ _ _ _ _ => pg_name (i := 1) sc_look_of.nd rfl (Or.inl rfl))
            (fun _ _ _ _ _ => pts_one (pt_cmpR op_gt (pv 1) pe_int (nomark _))) (fun _ _ _ _ _ => pv 1)) pa_nil)) pa_nil)))
      (pss_cons (ps_set (i := 3) sc_look_of.nd rfl (.inl rfl) (pe_lst pa_nil))
      (pss_cons (ps_for PassesOwn.never rfl (pi_tup (pv 0)) (pg_name (i := 1) sc_look_of.nd rfl (.inl rfl))
        (pss_one (ps_if (pt_cmpR op_gt (pv 1) pe_int (nomark _))
          (pss_one (ps_expr (pe_bm PySem.F.plainAttrs_list PySem.F.slot_list_append PySem.F.type_list_append mt_append (pv 3) (pa_cons (pe_op op_add (pe_bm PySem.F.plainAttrs_list PySem.F.slot_list_index PySem.F.type_list_index mt_index (pv 2) (pa_cons (pv 1) pa_nil)) pe_int) pa_nil))))
          (pss_one (ps_expr (pe_bm PySem.F.plainAttrs_list PySem.F.slot_list_append PySem.F.type_list_append mt_append (pv 3) (pa_cons pe_int pa_nil)))))))
      (pss_one (ps_ret (pe_callTy call_tuple_of (by rfl) T.no_tuple (by decide +kernel) (pa_cons (pv 3) pa_nil)))))), ?_⟩
    -- the comprehension
    refine ⟨_, rfl, a, rfl, ⟨_, SqT.of hA⟩, fun D hD => lc_it (walk_tup (xs := ns.map V.int)) (fun i H' => Same H H' ∧ ∃ acc : List Int, H' D = some (.lst (acc.map V.int)) ∧ acc.length ≤ i ∧ ∀ k, k ∈ acc ↔ (k ∈ ns.take i ∧ 0 < k))
      ⟨same_new hD, [], upd_same, Nat.le_refl _, fun k => by simp⟩ (fun i H' _ p => SqT.of (p.1 _ _ hA)) ?_ ?_⟩
    · rintro i v H1 H2 hi ⟨s1, acc, hB, ha, hm⟩ ⟨rfl, hv⟩
      obtain ⟨n, hn1, rfl⟩ := map_at hv
      have tk := take_next hn1
      have hi' : i < ns.length := (List.getElem?_eq_some_iff.mp hn1).1
      refine ⟨rfl, _, rfl, _, _, rfl, rfl, _, rfl, ?_⟩
      by_cases h0 : 0 < n
      · rw [decide_eq_true h0]
        refine iteT ⟨_, rfl, acc.map V.int, hB, small1000 (by rw [List.length_map]; omega), same_upd s1 hD, acc ++ [n], ?_, by simp; omega, fun k => ?_⟩
        · rw [upd_same, List.map_append]; rfl
        · rw [tk, List.mem_append, List.mem_append, List.mem_singleton, hm k]
          constructor
          · rintro (⟨h1, h2⟩ | rfl)
            · exact ⟨.inl h1, h2⟩
            · exact ⟨.inr rfl, h0⟩
          · rintro ⟨h1 | rfl, h2⟩
            · exact .inl ⟨h1, h2⟩
            · exact .inr rfl
      · rw [decide_eq_false h0]
        refine iteF ⟨s1, acc, hB, by omega, fun k => ?_⟩
        rw [tk, List.mem_append, List.mem_singleton, hm k]
        constructor
        · rintro ⟨h1, h2⟩
          exact ⟨.inl h1, h2⟩
        · rintro ⟨h1 | rfl, h2⟩
          · exact ⟨h1, h2⟩
          · exact absurd h2 h0
    · rintro H1 ⟨s1, acc, hB, ha, hm⟩
      rw [List.length_map, list_end] at hm
      rw [List.length_map] at ha
      refine ⟨D, acc, rfl, SqL.of hB, by omega, fun p c hp hc => ?_⟩
      refine ⟨p, _, c, rfl, upd_same, by omega, fun st b hst hmem hl hb => ?_⟩
      have isS : IsSteps ns st := ⟨hst, fun k => (hmem k).trans (by rw [decide_eq_true_iff]; exact hm k)⟩
      have eS := steps_is isS
      generalize hH3 : upd (upd H1 p (SetO _ p (fun j => decide (j ∈ acc)) c)) b (.lst (st.map V.int)) = H3
      have s2 : Same H H3 := by rw [← hH3]; exact same_upd (same_upd s1 (s1.free hp)) ((same_upd s1 (s1.free hp)).free hb)
      have hS : H3 b = some (.lst (st.map V.int)) := by rw [← hH3]; exact upd_same
      refine ⟨Nat.zero_le _, fun l hl => ?_⟩
      have nbl : b ≠ l := ne_of_none hS hl
      refine ⟨_, rfl, a, rfl, ⟨_, SqT.of (by rw [upd_ne (ne_of_none (s2 _ _ hA) hl)]; exact s2 _ _ hA)⟩, for_it (walk_tup (xs := ns.map V.int))
        (fun i σ' H' => Same H3 H' ∧ H' l = some (.lst (((ns.take i).map (lookAt st)).map V.int)) ∧ ∃ v, σ' = [some (.ref a), v, some (.ref b), some (.ref l)]) ⟨same_new hl, upd_same, _, rfl⟩ ?_ ?_ ?_⟩
      · rintro i σ' H' _ ⟨s3, _⟩
        exact SqT.of (s3 _ _ (s2 _ _ hA))
      · rintro i v σ' H4 H5 hi ⟨s3, hL, v', rfl⟩ ⟨rfl, hv⟩
        obtain ⟨n, hn1, rfl⟩ := map_at hv
        have tk := take_next hn1
        have hlen : (((ns.take i).map (lookAt st)).map V.int).length ≤ 1000 := by simp; omega
        refine ⟨_, rfl, _, _, rfl, rfl, _, rfl, ?_⟩
        by_cases h0 : 0 < n
        · rw [decide_eq_true h0]
          have hin : n ∈ st := (isS.2 n).mpr ⟨List.mem_of_getElem? hn1, h0⟩
          obtain ⟨f1, f2⟩ := idx_first hin
          refine iteT ⟨_, rfl, .inl ⟨rfl, _, SqL.of hL⟩, _, rfl, .inl ⟨rfl, _, SqL.of (s3 _ _ hS)⟩, _, rfl, b, st.map V.int, _, st.idxOf n, .int n, rfl, rfl, SqL.of (s3 _ _ hS), rfl, ?_, ?_, ?_, ?_, ?_⟩
          · rw [List.all_eq_true]
            intro x hx
            obtain ⟨y, _, rfl⟩ := List.mem_map.mp hx
            rfl
          · rw [List.getElem?_map, f1]; rfl
          · show (n == n) = true
            exact beq_self_eq_true n
          · intro m z' hm' hz'
            obtain ⟨y, hy, rfl⟩ := map_at hz'
            show (y == n) = false
            exact beq_eq_false_iff_ne.mpr (f2 m y hm' hy)
          · refine ⟨_, _, rfl, rfl, l, _, _, rfl, rfl, hL, small1000 hlen, same_upd s3 hl, ?_, _, rfl⟩
            rw [upd_same, tk, List.map_append, List.map_append]
            show some (HO.lst (_ ++ [V.int _])) = some (HO.lst (_ ++ [V.int (lookAt st n)]))
            unfold lookAt
            rw [if_pos h0]
        · rw [decide_eq_false h0]
          refine iteF ⟨_, rfl, .inl ⟨rfl, _, SqL.of hL⟩, l, _, _, rfl, rfl, hL, small1000 hlen, same_upd s3 hl, ?_, _, rfl⟩
          rw [upd_same, tk, List.map_append, List.map_append]
          show some (HO.lst (_ ++ [V.int _])) = some (HO.lst (_ ++ [V.int (lookAt st n)]))
          unfold lookAt
          rw [if_neg h0]
      · rintro σ' H4 ⟨s3, hL, v', rfl⟩
        rw [List.length_map, list_end] at hL
        refine ⟨_, rfl, l, _, rfl, .inl ⟨SqL.of hL, fun p2 hp2 => q _ p2 ((s2.trans s3).trans (same_new hp2)) ?_⟩⟩
        rw [upd_same]
        unfold lookL
        rw [eS]
end
end K43
set_option Elab.async false
set_option linter.all false
set_option maxRecDepth 100000
set_option maxHeartbeats 4000000
namespace K43
open PySem PySem.Spec PyProof.Rows L2
theorem tYes_if {σ : L2.St} {H : Hp} {A B : Hp → Prop} (h : A H) : tYes σ H fun b H1 => if b = true then A H1 else B H1 := by
  show if true = true then A H else B H
  rw [if_pos rfl]; exact h
section
variable {P : Program} {w : World} {K : PySem.W.Frag} {mg : Str → Option Value} {base : Heap}
def spKey : Sp := fun vs H Q _ => ∃ (a : Addr) (ns : List Int), vs = [.ref a] ∧ H a = some (.tup (ns.map V.int)) ∧ ns.length ≤ 4 ∧
  ∀ (H' : Hp) (v : V) (k : Key3), Same H H' → KeyV H' v k → Q v H'
theorem ok_key_of (T : Txt K mg) : Ok P w K mg base 1 (He.ga K "key_of") ["weights"] spKey := by
  refine def_key_of T (fun vs H Q E h => ?_) (fun cdv A outer s H vs Q E hr h => ?_)
  · obtain ⟨i, ns, rfl, _⟩ := h; rfl
  · obtain ⟨a, ns, rfl, hA, hn, q⟩ := h
    refine ⟨_, pss_cons (ps_setLc (i := 1) (own := [("k", 2)]) (g := gName 2) rfl sc_key_of.nd rfl rfl (sw_true rfl rfl rfl (by decide +kernel))
        (pi_range1 (by rfl) T.no_range (pa_cons (pe_callB call_len_seq (by rfl) T.no_len PySem.boot_len (pa_cons (pv 0) pa_nil)) pa_nil))
        (blkOk_by (N := n_key_of) (sc := defScope s_key_of) (by decide +kernel)) (fun _ _ _ _ _ => pg_name (i := 2) sc_key_of.nd rfl (Or.inl rfl))
        (fun _ _ _ _ _ => pts_one (pt_cmpR op_gt (pe_ix (r := rIxT K) ix_tup (pv 0) (pv 2) (fun _ _ => rfl)) pe_int (nomark _))) (fun _ _ _ _ _ => pv 2))
      (pss_one (ps_ret (pe_tup (pa_cons (pe_callB call_len_seq (by rfl) T.no_len PySem.boot_len (pa_cons (pv 1) pa_nil))
        (pa_cons (pe_callTy call_tuple_of (by rfl) T.no_tuple (by decide +kernel) (pa_cons (pv 1) pa_nil))
        (pa_cons (pe_callTy call_tuple_of (by rfl) T.no_tuple (by decide +kernel) (pa_cons
          (pe_lc (own := [("k", 2)]) (g := gName 2) rfl sc_key_of.nd (pi_list (pv 1)) (blkOk_by (N := n_key_of) (sc := defScope s_key_of) (by decide +kernel)) (fun _ _ _ _ _ => pg_name (i := 2) sc_key_of.nd rfl (Or.inl rfl))
            (fun _ _ _ _ _ => pts_nil) (fun _ _ _ _ _ => pe_ix (r := rIxT K) ix_tup (pv 0) (pv 2) (fun _ _ => rfl))) pa_nil)) pa_nil)))))), ?_⟩
    refine ⟨_, rfl, a, _, rfl, .inr (SqT.of hA), _, rfl, by omega, by rw [List.length_map]; omega, fun D hD => lc_it walk_range (fun i H' => Same H H' ∧ ∃ acc : List Int, H' D = some (.lst (acc.map V.int)) ∧ acc.length ≤ i ∧ ∀ k ∈ acc, 0 ≤ k ∧ k < ns.length)
      ⟨same_new hD, [], upd_same, Nat.le_refl _, fun k hk => absurd hk (by simp)⟩ (fun _ _ _ _ => trivial) ?_ ?_⟩
    · rintro i v H1 H2 hi ⟨s1, acc, hB, ha, hm⟩ ⟨rfl, rfl⟩
      have hi' : i < ns.length := by
        have := hi
        rw [List.length_map] at this
        omega
      refine ⟨rfl, _, rfl, _, rfl, a, _, _, .int ns[i], rfl, rfl, SqT.of (s1 _ _ hA), ?_, _, _, rfl, rfl, _, rfl, ?_⟩
      · rw [Int.zero_add]
        exact atI_nat (by simp [hi'])
      · refine ite2 (fun _ => ?_) (fun _ => ?_)
        · refine ⟨_, rfl, acc.map V.int, hB, small1000 (by rw [List.length_map]; omega), same_upd s1 hD, acc ++ [(0 : Int) + (i : Nat)], ?_, by simp; omega, fun k hk => ?_⟩
          · rw [upd_same, List.map_append]; rfl
          · rcases List.mem_append.mp hk with hk | hk
            · exact hm k hk
            · rw [List.mem_singleton.mp hk]; omega
        · exact ⟨s1, acc, hB, by omega, hm⟩
    · rintro H1 ⟨s1, acc, hB, ha, hm⟩
      have ha' : acc.length ≤ 4 := by
        have := ha
        rw [List.length_map] at this
        omega
      refine ⟨_, rfl, D, _, rfl, .inl (SqL.of hB), _, rfl, D, _, rfl, .inl ⟨SqL.of hB, fun p hp => ?_⟩⟩
      have s2 : Same H1 (upd H1 p (.tup (acc.map V.int))) := same_new hp
      refine ⟨_, rfl, D, rfl, ⟨_, SqL.of (s2 _ _ hB)⟩, fun D2 hD2 => lc_it (walk_list (xs := acc.map V.int))
        (fun i H' => Same (upd H1 p (.tup (acc.map V.int))) H' ∧ ∃ bs : List Int, H' D2 = some (.lst (bs.map V.int)) ∧ bs.length ≤ i) ⟨same_new hD2, [], upd_same, Nat.le_refl _⟩ (fun i H' _ h => SqL.of (h.1 _ _ (s2 _ _ hB))) ?_ ?_⟩
      · rintro i v H2 H3 hi ⟨s3, bs, hB2, hb⟩ ⟨rfl, hv⟩
        obtain ⟨k, hk, rfl⟩ := map_at hv
        obtain ⟨k0, k1⟩ := hm k (List.mem_of_getElem? hk)
        obtain ⟨j, rfl⟩ : ∃ j : Nat, k = (j : Int) := ⟨k.toNat, by omega⟩
        have hj : j < ns.length := by omega
        have hi' : i < acc.length := (List.getElem?_eq_some_iff.mp hk).1
        refine ⟨rfl, tYes_if ?_⟩
        refine ⟨_, rfl, _, rfl, a, _, _, .int ns[j], rfl, rfl, SqT.of (s3 _ _ (s2 _ _ (s1 _ _ hA))), atI_nat (by simp [hj]), bs.map V.int, hB2, small1000 (by rw [List.length_map]; omega), same_upd s3 hD2, bs ++ [ns[j]], ?_, by simp; omega⟩
        rw [upd_same, List.map_append]; rfl
      · rintro H2 ⟨s3, bs, hB2, hb⟩
        refine ⟨D2, _, rfl, .inl ⟨SqL.of hB2, fun p2 hp2 => ⟨by show 3 ≤ sizeLine; decide, fun p3 hp3 => ?_⟩⟩⟩
        have s4 : Same H2 (upd H2 p2 (.tup (bs.map V.int))) := same_new hp2
        refine q _ _ ((acc.length : Int), acc, bs) ((((s1.trans s2).trans s3).trans s4).trans (same_new hp3)) ⟨p3, p, p2, rfl, ?_, ?_, ?_⟩
        · rw [upd_same, List.length_map]
        · exact same_new hp3 _ _ (s4 _ _ (s3 _ _ upd_same))
        · exact same_new hp3 _ _ upd_same
theorem row_next (m : Nat) (r : List Int) (n : Nat) : ((List.range (m + 1)).take n).map (fun j => r ++ [((j : Nat) : Int)]) = ((List.range (m + 1)).map fun j => r ++ [((j : Nat) : Int)]).take n := by rw [List.map_take]
def spRows : Sp := fun vs H Q _ => ∃ m : Nat, vs = [.int (m : Int)] ∧ 1 ≤ m ∧ m ≤ 4 ∧
  ∀ (H' : Hp) (b : Addr) (xs : List V), Same H H' → H b = none → H' b = some (.lst xs) → RowsV H' xs (rowsL m m) → Q (.ref b) H'
theorem ok_all_rows (T : Txt K mg) : Ok P w K mg base 1 (He.ga K "all_rows") ["many"] spRows := by
  refine def_all_rows T (fun vs H Q E h => ?_) (fun cdv A outer s H vs Q E hr h => ?_)
  · obtain ⟨m, rfl, _⟩ := h; rfl
  · obtain ⟨m, rfl, m1, m4, q⟩ := h
    refine ⟨_, pss_cons (ps_set (i := 1) sc_all_rows.nd rfl (.inl rfl) (pe_lst (pa_cons (pe_tup pa_nil) pa_nil)))
      (pss_cons (ps_for PassesOwn.never rfl (pi_range1 (by rfl) T.no_range (pa_cons (pv 0) pa_nil)) (pg_name (i := 2) sc_all_rows.nd rfl (.inl rfl))
        (pss_cons (ps_set (i := 3) sc_all_rows.nd rfl (.inl rfl) (pe_lst pa_nil))
        (pss_cons (ps_for PassesOwn.never rfl (pi_list (pv 1)) (pg_name (i := 4) sc_all_rows.nd rfl (.inl rfl))
          (pss_one (ps_for PassesOwn.never rfl (pi_range1 (by rfl) T.no_range (pa_cons (pe_op op_add (pv 0) pe_int) pa_nil)) (pg_name (i := 5) sc_all_rows.nd rfl (.inl rfl))
            (pss_one (ps_expr (pe_bm PySem.F.plainAttrs_list PySem.F.slot_list_append PySem.F.type_list_append mt_append (pv 3) (pa_cons (pe_op op_catA (pv 4) (pe_tup (pa_cons (pv 5) pa_nil))) pa_nil)))))))
        (pss_one (ps_set (i := 1) sc_all_rows.nd rfl (.inl rfl) (pv 3))))))
      (pss_one (ps_ret (pv 1)))), ?_⟩
    refine ⟨Nat.zero_le _, fun e he => ⟨by show 1 ≤ sizeLine; decide, fun l hl => ?_⟩⟩
    have s1 : Same H (upd H e (.tup [])) := same_new he
    refine ⟨_, rfl, _, rfl, by omega, by omega, for_it walk_range
      (fun i σ' H' => Same H H' ∧ ∃ (b : Addr) (xs : List V) (v1 v2 v3 v4 : Option V), H b = none ∧ H' b = some (.lst xs) ∧ RowsV H' xs (rowsL m i) ∧ σ' = [some (.int (m : Int)), some (.ref b), v1, v2, v3, v4])
      ⟨s1.trans (same_new hl), l, _, _, _, _, _, s1.free hl, upd_same, .cons ⟨e, rfl, same_new hl _ _ upd_same⟩ .nil, rfl⟩ (fun _ _ _ _ _ => trivial) ?_ ?_⟩
    · rintro i v σ1 H0 H1 hi ⟨t1, b, xs, v1, v2, v3, v4, hb0, hB, hR, rfl⟩ ⟨rfl, rfl⟩
      have hi' : i < m := by simpa using hi
      refine ⟨Nat.zero_le _, fun c hc => ?_⟩
      have nbc : b ≠ c := ne_of_none hB hc
      have u1 : Same H1 (upd H1 c (.lst [])) := same_new hc
      have hlen : xs.length ≤ 625 := by
        have := Paired.length hR
        have := rows_bound m4 (show i ≤ 4 by omega)
        omega
      refine ⟨_, rfl, b, rfl, ⟨_, SqL.of (u1 _ _ hB)⟩, for_it (walk_list (xs := xs))
        (fun j σ' H' => Same H1 H' ∧ ∃ (ys : List V) (w1 w2 w3 : Option V), H' c = some (.lst ys) ∧ RowsV H' ys (((rowsL m i).take j).flatMap fun r => (List.range (m + 1)).map fun n => r ++ [((n : Nat) : Int)]) ∧
          ys.length = j * (m + 1) ∧ σ' = [some (.int (m : Int)), some (.ref b), w1, some (.ref c), w2, w3])
        ⟨u1, [], _, _, _, upd_same, by simp; exact .nil, by simp, rfl⟩ ?_ ?_ ?_⟩
      · rintro j σ' H' _ ⟨t2, _⟩
        exact SqL.of (t2 _ _ hB)
      · rintro j v σ2 H3 H2 hj ⟨t2, ys, w1, w2, w3, hC, hY, lY, rfl⟩ ⟨rfl, hv⟩
        obtain ⟨r, hr1, p, rfl, hp⟩ := paired_at (hR.keep t2) hv
        have hj' : j < 625 := by omega
        have hbound : (j + 1) * (m + 1) ≤ 4000 := by
          have : (j + 1) * (m + 1) ≤ 625 * 5 := Nat.mul_le_mul (by omega) (by omega)
          omega
        refine ⟨_, rfl, _, _, rfl, rfl, _, rfl, by omega, by omega, for_it walk_range
          (fun n σ' H' => Same H1 H' ∧ ∃ (zs : List V) (w3 : Option V), H' c = some (.lst zs) ∧ RowsV H' zs ((((rowsL m i).take j).flatMap fun r => (List.range (m + 1)).map fun n => r ++ [((n : Nat) : Int)]) ++ (((List.range (m + 1)).take n).map fun n => r ++ [((n : Nat) : Int)])) ∧
            zs.length = j * (m + 1) + n ∧ H' p = some (.tup (r.map V.int)) ∧ σ' = [some (.int (m : Int)), some (.ref b), w1, some (.ref c), some (.ref p), w3])
          ⟨t2, ys, _, hC, by simp; exact hY, by omega, hp, rfl⟩ (fun _ _ _ _ _ => trivial) ?_ ?_⟩
        · rintro n v σ3 H5 H4 hn ⟨t3, zs, w3, hC3, hZ, lZ, hp3, rfl⟩ ⟨rfl, rfl⟩
          have hn' : n < m + 1 := by
            have : n < ((m : Int) + 1).toNat := hn
            omega
          have tk : (List.range (m + 1)).take (n + 1) = (List.range (m + 1)).take n ++ [n] := take_next (by simp [hn'])
          have cl : j * (m + 1) + n < 4000 := by
            have : (j + 1) * (m + 1) = j * (m + 1) + (m + 1) := Nat.succ_mul _ _
            omega
          refine ⟨_, rfl, .inl ⟨rfl, _, SqL.of hC3⟩, _, rfl, _, rfl, by show 1 ≤ sizeLine; decide, fun t ht => ?_⟩
          have x1 : Same H4 (upd H4 t (.tup [V.int ((0 : Int) + (n : Nat))])) := same_new ht
          have e0 : (0 : Int) + ((n : Nat) : Int) = ((n : Nat) : Int) := Int.zero_add _
          have last : ∀ (H6 : Hp) (u : Addr), Same (upd H4 t (.tup [V.int ((0 : Int) + (n : Nat))])) H6 → H6 u = some (.tup ((r ++ [((n : Nat) : Int)]).map V.int)) →
              rAppend (V.ref c) [V.ref u] H6 fun _ H7 => Same H1 H7 ∧ ∃ (zs : List V) (w3' : Option V), H7 c = some (.lst zs) ∧ RowsV H7 zs ((((rowsL m i).take j).flatMap fun r => (List.range (m + 1)).map fun n => r ++ [((n : Nat) : Int)]) ++ (((List.range (m + 1)).take (n + 1)).map fun n => r ++ [((n : Nat) : Int)])) ∧
                zs.length = j * (m + 1) + (n + 1) ∧ H7 p = some (.tup (r.map V.int)) ∧ [some (.int (m : Int)), some (.ref b), w1, some (.ref c), some (.ref p), some (V.int ((0 : Int) + (n : Nat)))] = [some (.int (m : Int)), some (.ref b), w1, some (.ref c), some (.ref p), w3'] := by
            intro H6 u x2 hu
            have x3 := x1.trans x2
            have hc6 : H6 c = some (.lst zs) := x3 _ _ hC3
            have hcup : c ≠ u := ne_of hc6 hu (by intro z; cases z)
            have ncp : p ≠ c := ne_of (x3 _ _ hp3) hc6 (by intro z; cases z)
            refine ⟨c, zs, _, rfl, rfl, hc6, Nat.lt_of_le_of_lt (show zs.length ≤ 4000 by omega) (by decide), ?_, zs ++ [V.ref u], _, upd_same, ?_, by simp [lZ]; omega, ?_, rfl⟩
            · exact same_upd (t3.trans x3) hc
            · rw [tk, List.map_append, ← List.append_assoc]
              refine paired_app (Paired.mapP hZ fun a b rr => ?_) (.cons ⟨u, rfl, by rw [upd_ne hcup.symm]; exact hu⟩ .nil)
              obtain ⟨pp, e, hpp⟩ := rr
              exact ⟨pp, e, by rw [upd_ne (ne_of (x3 _ _ hpp) hc6 (by intro z; cases z))]; exact x3 _ _ hpp⟩
            · rw [upd_ne ncp]; exact x3 _ _ hp3
          refine ⟨p, t, r.map V.int, _, rfl, rfl, SqT.of (x1 _ _ hp3), SqT.of upd_same, ?_, fun hr0 => ?_, fun hr0 hn0 => absurd hn0 (by simp), fun hr0 _ u hu => ?_⟩
          · have := rows_width m i r (List.mem_of_getElem? hr1)
            exact le_line (by simp; omega)
          · refine last _ t (Same.refl _) ?_
            have r0 : r = [] := by simpa using hr0
            rw [upd_same, r0]
            show some (HO.tup [V.int ((0 : Int) + ((n : Nat) : Int))]) = _
            rw [e0]; rfl
          · refine last _ u (same_new hu) ?_
            rw [upd_same, List.map_append]
            show some (HO.tup (_ ++ [V.int ((0 : Int) + ((n : Nat) : Int))])) = _
            rw [e0]; rfl
        · rintro σ3 H4 ⟨t3, zs, w3, hC3, hZ, lZ, hp3, rfl⟩
          have em : ((m : Int) + 1).toNat = m + 1 := by omega
          rw [em] at hZ lZ
          refine ⟨t3, zs, _, _, _, hC3, ?_, by rw [lZ, Nat.succ_mul], rfl⟩
          rw [take_next hr1, List.flatMap_append]
          have e1 : (List.range (m + 1)).take (m + 1) = List.range (m + 1) := List.take_of_length_le (by simp)
          rw [e1] at hZ
          simpa using hZ
      · rintro σ2 H2 ⟨t2, ys, w1, w2, w3, hC, hY, lY, rfl⟩
        have e1 : (rowsL m i).take xs.length = rowsL m i := List.take_of_length_le (by rw [Paired.length hR]; exact Nat.le_refl _)
        rw [e1] at hY
        exact ⟨_, rfl, t1.trans t2, c, ys, _, _, _, _, t1.free hc, hC, hY, rfl⟩
    · rintro σ1 H1 ⟨t1, b, xs, v1, v2, v3, v4, hb0, hB, hR, rfl⟩
      exact ⟨_, rfl, q H1 b xs t1 hb0 hB (by simpa using hR)⟩
end
end K43
set_option Elab.async false
set_option linter.all false
set_option maxRecDepth 100000
set_option maxHeartbeats 4000000
namespace K43
open PySem PySem.Spec PyProof.Rows L2
theorem filter_next {l : List (List Int)} {p : List Int → Bool} {i : Nat} {x : List Int} (h : l[i]? = some x) : (l.take (i + 1)).filter p = (l.take i).filter p ++ (if p x = true then [x] else []) := by
  rw [take_next h, List.filter_append, List.filter_cons]
  rfl
theorem good_no {r : List Int} {mm : Int} (hle : ∀ y ∈ r, y ≤ mm) (h : ¬ 0 < mm) : goodL r = false := by
  unfold goodL
  have e : (r.any fun n => decide (0 < n)) = false := by
    rw [List.any_eq_false]
    intro y hy
    have := hle y hy
    simp only [decide_eq_true_eq]
    omega
  rw [e]; rfl
theorem good_yes {r : List Int} {mm : Int} (hm : mm ∈ r) (h : 0 < mm) : goodL r = decide (lookL r = r) := by
  unfold goodL
  have e : (r.any fun n => decide (0 < n)) = true := List.any_eq_true.mpr ⟨mm, hm, decide_eq_true h⟩
  rw [e]; rfl
/-! ### what a note asks of a look -/
def sideL (sd : Int) (k : Kd) : Str := if sd = 0 then k.1 else k.2
def hasL (ks : List Kd) (lk : List Int) (sd : Int) (nm : Str) (least : Int) : Bool := (ks.zip lk).any fun p => decide (least ≤ p.2) && decide (sideL sd p.1 = nm)
def rankL (ks : List Kd) (lk : List Int) (kd : Kd) : Int := match (ks.zip lk).find? (fun p => decide (p.1 = kd)) with
  | some p => p.2
  | none => 0
theorem zip_at {α β : Type} {l : List α} {m : List β} {i : Nat} {a : α} {b : β} (h1 : l[i]? = some a) (h2 : m[i]? = some b) : (l.zip m)[i]? = some (a, b) := by
  rw [List.getElem?_zip_eq_some]; exact ⟨h1, h2⟩
theorem any_take {α : Type} {l : List α} {p : α → Bool} {i : Nat} {x : α} (h : l[i]? = some x) (h0 : (l.take i).any p = false) (hx : p x = false) : (l.take (i + 1)).any p = false := by
  rw [take_next h, List.any_append, h0, List.any_cons, hx]; rfl
theorem find_take {α : Type} {l : List α} {p : α → Bool} {i : Nat} {x : α} (h : l[i]? = some x) (h0 : (l.take i).any p = false) (hx : p x = true) : l.find? p = some x := by
  obtain ⟨hi, e2⟩ := List.getElem?_eq_some_iff.mp h
  have e : l = l.take i ++ (x :: l.drop (i + 1)) := (List.take_append_drop i l).symm.trans (by rw [List.drop_eq_getElem_cons hi, e2])
  generalize l.drop (i + 1) = d at e
  have e3 : (l.take i).find? p = none := by
    rw [List.find?_eq_none]
    intro y hy
    have := List.any_eq_false.mp h0 y hy
    exact this
  rw [e, List.find?_append, e3, List.find?_cons, hx]; rfl
section
variable {P : Program} {w : World} {K : PySem.W.Frag} {mg : Str → Option Value} {base : Heap}
def spLooks : Sp := fun vs H Q _ => ∃ m : Nat, vs = [.int (m : Int)] ∧ 1 ≤ m ∧ m ≤ 4 ∧
  ∀ (H' : Hp) (b : Addr) (xs : List V) (L : List (List Int)), Same H H' → H b = none → H' b = some (.lst xs) → RowsV H' xs L → L.Perm (looksL m) → Q (.ref b) H'
theorem ok_all_looks (T : Txt K mg) : Ok P w K mg base 4 (He.ga K "all_looks") ["many"] spLooks := by
  refine def_all_looks T (fun vs H Q E h => ?_) (fun cdv A outer s H vs Q E hr h => ?_)
  · obtain ⟨m, rfl, _⟩ := h; rfl
  · obtain ⟨m, rfl, m1, m4, q⟩ := h
    have hr1 : Room 1 _ := hr.mono (by decide)
    refine ⟨_, pss_cons (ps_setLc (i := 1) (own := [("row", 2)]) (g := gName 2) rfl sc_all_looks.nd rfl rfl (sw_true rfl rfl rfl (by decide +kernel))
        (pi_list (pe_callO (ok_all_rows T) hr1 (by rfl) T.mg_all_rows (pa_cons (pv 0) pa_nil)))
        (blkOk_by (N := n_all_looks) (sc := defScope s_all_looks) (by decide +kernel)) (fun _ _ _ _ _ => pg_name (i := 2) sc_all_looks.nd rfl (Or.inl rfl))
        (fun _ _ _ _ _ => pts_one (PW.pt (pw_and (pt_cmpR op_gt (pe_callB (r := rMaxT K) (cr_maxT rfl) (by rfl) T.no_max (by decide +kernel) (pa_cons (pv 2) pa_nil)) pe_int (nomark _))
          (pw_and1 (pt_cmpR (r := rEqD K) (op_eqD (hu64 hr)) (pe_callO (ok_look_of T) hr1 (by rfl) T.mg_look_of (pa_cons (pv 2) pa_nil)) (pv 2) (nomark _)))))) (fun _ _ _ _ _ => pv 2))
      (pss_one (ps_ret (pe_callBK (cr_sortF (ok_key_of T) hr) (by rfl) T.no_sorted (by decide +kernel) (pa_cons (pv 1) pa_nil) (pk_cons (pe_glob (v := .ref (He.ga K "key_of")) (by rfl) T.mg_key_of rfl) pk_nil)))), ?_⟩
    refine ⟨_, rfl, m, rfl, m1, m4, fun H1 b xs s1 hb0 hB hR => ⟨b, rfl, ⟨_, SqL.of hB⟩, fun D hD => lc_it (walk_list (xs := xs))
      (fun i H' => Same H1 H' ∧ ∃ ys, H' D = some (.lst ys) ∧ RowsV H' ys (((rowsL m m).take i).filter goodL)) ⟨same_new hD, [], upd_same, by simp; exact .nil⟩ (fun i H' _ p => SqL.of (p.1 _ _ hB)) ?_ ?_⟩⟩
    · rintro i v H3 H2 hi ⟨s2, ys, hY, hF⟩ ⟨rfl, hv⟩
      obtain ⟨r, hr0, p, rfl, hp⟩ := paired_at (hR.keep s2) hv
      have wid := rows_width m m r (List.mem_of_getElem? hr0)
      have ylen : ys.length ≤ 625 := by
        have h1 := Paired.length hF
        have h2 := List.length_filter_le goodL ((rowsL m m).take i)
        have h3 := rows_bound m4 m4
        rw [List.length_take] at h2
        omega
      refine ⟨rfl, _, rfl, p, r, rfl, SqT.of hp, by omega, fun mm hmm hle => ⟨_, _, rfl, rfl, _, rfl, ?_⟩⟩
      by_cases h0 : 0 < mm
      · rw [decide_eq_true h0]
        refine iteT ⟨_, rfl, p, r, rfl, hp, by omega, fun H5 p5 s5 hp5 => ⟨_, rfl, .tuple ((lookL r).map .int), .tuple (r.map .int), .tup (SqT.of hp5) (dpAll_ints _), .tup (SqT.of (s5 _ _ hp)) (dpAll_ints _), shaped_ints _, shaped_ints _, _, rfl, ?_⟩⟩
        have e : PyData.eqv (.tuple ((lookL r).map .int)) (.tuple (r.map .int)) = goodL r := by
          rw [good_yes hmm h0]
          show PyData.eqvAll ((lookL r).map .int) (r.map .int) = _
          exact eqv_ints _ _
        rw [e]
        refine ite2 (fun hg => ?_) (fun hg => ?_)
        · refine ⟨_, rfl, ys, s5 _ _ hY, Nat.lt_of_le_of_lt ylen (by decide), same_upd (s2.trans s5) hD, ys ++ [.ref p], upd_same, ?_⟩
          rw [filter_next hr0, if_pos hg]
          have nD : p ≠ D := ne_of (s5 _ _ hp) (s5 _ _ hY) (by intro z; cases z)
          refine paired_app (Paired.mapP hF fun a c rr => ?_) (.cons ⟨p, rfl, by rw [upd_ne nD]; exact s5 _ _ hp⟩ .nil)
          obtain ⟨pp, e, hpp⟩ := rr
          exact ⟨pp, e, by rw [upd_ne (ne_of (s5 _ _ hpp) (s5 _ _ hY) (by intro z; cases z))]; exact s5 _ _ hpp⟩
        · refine ⟨s2.trans s5, ys, s5 _ _ hY, ?_⟩
          rw [filter_next hr0, if_neg hg, List.append_nil]
          exact hF.keep s5
      · rw [decide_eq_false h0]
        refine iteF ?_
        refine iteF ⟨s2, ys, hY, ?_⟩
        rw [filter_next hr0, good_no hle h0]
        simpa using hF
    · rintro H2 ⟨s2, ys, hY, hF⟩
      rw [Paired.length hR, list_end] at hF
      refine ⟨_, rfl, D, ys, rfl, rfl, SqL.of hY, fun x hx H5 s5 => ?_, fun H5 zs p s5 perm hp => ?_⟩
      · obtain ⟨i, hi, ei⟩ := List.mem_iff_getElem.mp hx
        obtain ⟨r, hr0, p, e, hpp⟩ := paired_at hF (show ys[i]? = some x by rw [List.getElem?_eq_getElem hi, ei])
        subst e
        have wid := looks_width (List.mem_of_getElem? hr0)
        exact ⟨p, r, rfl, s5 _ _ hpp, by omega, fun H' v k s' hk => ⟨s', k, hk⟩⟩
      · obtain ⟨L, hL, pL⟩ := paired_perm perm (hF.keep s5)
        have s6 : Same H (upd H5 p (.lst zs)) := ((s1.trans s2).trans s5).trans (same_new hp)
        exact q _ p zs L s6 (((s1.trans s2).trans s5).free hp) upd_same (RowsV.keep hL (same_new hp)) pL
def spFirst (K : PySem.W.Frag) : Sp := fun vs H Q _ => ∃ (a l : Addr) (ps : List Addr) (ks : List Kd) (lk : List Int) (sd : Int) (nm : Str) (least : Int),
  vs = [.ref a, .ref l, .int sd, .str nm, .int least] ∧ Kds K H a ps ks ∧ H l = some (.tup (lk.map V.int)) ∧ lk.length = ks.length ∧ (sd = 0 ∨ sd = 1) ∧
  (hasL ks lk sd nm least = true → ∀ k : Int, Q (.int k) H) ∧ (hasL ks lk sd nm least = false → Q .non H)
theorem ok_first_at (T : Txt K mg) : Ok P w K mg base 1 (He.ga K "first_at") ["kinds", "look", "side", "name", "least"] (spFirst K) := by
  refine def_first_at T (fun vs H Q E h => ?_) (fun cdv A outer s H vs Q E hr h => ?_)
  · obtain ⟨a, l, ps, ks, lk, sd, nm, least, rfl, _⟩ := h; rfl
  · obtain ⟨a, l, ps, ks, lk, sd, nm, least, rfl, D, hL, hlen, hsd, q1, q2⟩ := h
    have hpl := D.len
    have hhi := D.hi
    refine ⟨_, pss_cons (ps_for PassesOwn.never rfl (pi_range1 (by rfl) T.no_range (pa_cons (pe_callB call_len_seq (by rfl) T.no_len PySem.boot_len (pa_cons (pv 0) pa_nil)) pa_nil)) (pg_name (i := 5) sc_first_at.nd rfl (.inl rfl))
        (pss_one (ps_if (PW.pt (pw_and (pt_cmpR op_ge (pe_ix ix_tup (pv 1) (pv 5) (fun _ _ => rfl)) (pv 4) (nomark _))
          (pw_and1 (pt_cmpR op_eq (pe_ix ix_tup (pe_ix ix_list (pv 0) (pv 5) (fun _ _ => rfl)) (pv 2) (fun _ _ => rfl)) (pv 3) (nomark _))))) (pss_one (ps_ret (pv 5))) pss_nil)))
      (pss_one (ps_ret pe_non)), ?_⟩
    refine ⟨_, rfl, a, _, rfl, .inl (SqL.of D.lst), _, rfl, by omega, by rw [List.length_map]; omega, for_it walk_range
      (fun i σ' H' => H' = H ∧ ((ks.zip lk).take i).any (fun p => decide (least ≤ p.2) && decide (sideL sd p.1 = nm)) = false ∧ ∃ v, σ' = [some (.ref a), some (.ref l), some (.int sd), some (.str nm), some (.int least), v])
      ⟨rfl, by simp, _, rfl⟩ (fun _ _ _ _ _ => trivial) ?_ ?_⟩
    · rintro i v σ' H2 H1 hi ⟨rfl, hno, v', rfl⟩ ⟨rfl, rfl⟩
      have hi' : i < ks.length := by
        have := hi
        rw [List.length_map] at this
        omega
      have hil : i < lk.length := by omega
      have hip : i < ps.length := by omega
      obtain ⟨k, hk, hpk⟩ := paired_at D.at_ (List.getElem?_eq_getElem hip)
      have hz := zip_at hk (List.getElem?_eq_getElem hil)
      refine ⟨_, rfl, _, rfl, l, _, _, .int lk[i], rfl, rfl, SqT.of hL, ?_, _, rfl, _, _, rfl, rfl, _, rfl, ?_⟩
      · rw [Int.zero_add]; exact atI_nat (by simp [hil])
      · by_cases h0 : least ≤ lk[i]
        · rw [decide_eq_true h0]
          refine iteT ⟨_, rfl, _, rfl, a, _, _, .ref ps[i], rfl, rfl, SqL.of D.lst, ?_, _, rfl, ps[i], _, _, .str (sideL sd k), rfl, rfl, SqT.of hpk, ?_, _, rfl, rfl, _, rfl, ?_⟩
          · rw [Int.zero_add]; exact atI_nat (by simp [hip])
          · rcases hsd with rfl | rfl <;> rfl
          · by_cases h1 : sideL sd k = nm
            · refine iteDT (by rw [h1]) ⟨_, rfl, q1 ?_ _⟩
              exact List.any_eq_true.mpr ⟨_, List.mem_of_getElem? hz, by rw [decide_eq_true h0, decide_eq_true h1]; rfl⟩
            · refine iteDF (fun z => h1 (by injection z)) ⟨rfl, any_take hz hno ?_, _, rfl⟩
              rw [decide_eq_false h1, Bool.and_false]
        · rw [decide_eq_false h0]
          refine iteF ?_
          refine iteF ⟨rfl, any_take hz hno ?_, _, rfl⟩
          rw [decide_eq_false h0, Bool.false_and]
    · rintro σ' H1 ⟨rfl, hno, v', rfl⟩
      refine q2 ?_
      have e : (ks.zip lk).take (((ps.map V.ref).length : Int)).toNat = ks.zip lk := List.take_of_length_le (by rw [List.length_zip, List.length_map]; omega)
      rw [e] at hno
      exact hno
def spRank (K : PySem.W.Frag) : Sp := fun vs H Q _ => ∃ (a l b : Addr) (ps : List Addr) (ks : List Kd) (lk : List Int) (kd : Kd),
  vs = [.ref a, .ref l, .ref b] ∧ Kds K H a ps ks ∧ H l = some (.tup (lk.map V.int)) ∧ lk.length = ks.length ∧ KdAt H b kd ∧ KdOk kd ∧ Q (.int (rankL ks lk kd)) H
theorem ok_rank_of (T : Txt K mg) : Ok P w K mg base 1 (He.ga K "rank_of") ["kinds", "look", "kind"] (spRank K) := by
  refine def_rank_of T (fun vs H Q E h => ?_) (fun cdv A outer s H vs Q E hr h => ?_)
  · obtain ⟨a, l, b, ps, ks, lk, kd, rfl, _⟩ := h; rfl
  · obtain ⟨a, l, b, ps, ks, lk, kd, rfl, D, hL, hlen, hB, hkd, q⟩ := h
    have hpl := D.len
    have hhi := D.hi
    refine ⟨_, pss_cons (ps_for PassesOwn.never rfl (pi_range1 (by rfl) T.no_range (pa_cons (pe_callB call_len_seq (by rfl) T.no_len PySem.boot_len (pa_cons (pv 0) pa_nil)) pa_nil)) (pg_name (i := 3) sc_rank_of.nd rfl (.inl rfl))
        (pss_one (ps_if (pt_cmpR (op_eqD (hu64 hr)) (pe_ix ix_list (pv 0) (pv 3) (fun _ _ => rfl)) (pv 2) (nomark _)) (pss_one (ps_ret (pe_ix ix_tup (pv 1) (pv 3) (fun _ _ => rfl)))) pss_nil)))
      (pss_one (ps_ret pe_int)), ?_⟩
    refine ⟨_, rfl, a, _, rfl, .inl (SqL.of D.lst), _, rfl, by omega, by rw [List.length_map]; omega, for_it walk_range
      (fun i σ' H' => H' = H ∧ ((ks.zip lk).take i).any (fun p => decide (p.1 = kd)) = false ∧ ∃ v, σ' = [some (.ref a), some (.ref l), some (.ref b), v])
      ⟨rfl, by simp, _, rfl⟩ (fun _ _ _ _ _ => trivial) ?_ ?_⟩
    · rintro i v σ' H2 H1 hi ⟨rfl, hno, v', rfl⟩ ⟨rfl, rfl⟩
      have hi' : i < ks.length := by
        have := hi
        rw [List.length_map] at this
        omega
      have hil : i < lk.length := by omega
      have hip : i < ps.length := by omega
      obtain ⟨k, hk, hpk⟩ := paired_at D.at_ (List.getElem?_eq_getElem hip)
      have hz := zip_at hk (List.getElem?_eq_getElem hil)
      refine ⟨_, rfl, _, rfl, a, _, _, .ref ps[i], rfl, rfl, SqL.of D.lst, ?_, _, rfl, kD k, kD kd, kD_dp hpk, kD_dp hB, kD_shaped (D.ok k (List.mem_of_getElem? hk)), kD_shaped hkd, _, rfl, ?_⟩
      · rw [Int.zero_add]; exact atI_nat (by simp [hip])
      · rw [kD_eqv]
        by_cases h1 : k = kd
        · refine iteDT h1 ⟨_, rfl, _, rfl, l, _, _, .int lk[i], rfl, rfl, SqT.of hL, ?_, ?_⟩
          · rw [Int.zero_add]; exact atI_nat (by simp [hil])
          · have e := find_take hz hno (show decide ((k, lk[i]).1 = kd) = true from decide_eq_true h1)
            unfold rankL at q
            rw [e] at q
            exact q
        · refine iteDF h1 ⟨rfl, any_take hz hno (decide_eq_false h1), _, rfl⟩
    · rintro σ' H1 ⟨rfl, hno, v', rfl⟩
      have e : (ks.zip lk).take (((ps.map V.ref).length : Int)).toNat = ks.zip lk := List.take_of_length_le (by rw [List.length_zip, List.length_map]; omega)
      rw [e] at hno
      have e2 : (ks.zip lk).find? (fun p => decide (p.1 = kd)) = none := by
        rw [List.find?_eq_none]
        intro y hy
        exact List.any_eq_false.mp hno y hy
      unfold rankL at q
      rw [e2] at q
      exact q
end
end K43
set_option Elab.async false
set_option linter.all false
set_option maxRecDepth 100000
set_option maxHeartbeats 4000000
namespace K43
open PySem PySem.Spec PyProof.Rows L2
/-! ### notes -/
inductive Nt where
  | any
  | made (s : Str) | used (s : Str) | chief (s : Str)
  | over (a b : Kd)
  | both (m n : Nt) | either (m n : Nt) | but (m n : Nt)
def Nt.depth : Nt → Nat
  | .both m n | .either m n | .but m n => 1 + max m.depth n.depth
  | _ => 1
theorem Nt.depth_pos (n : Nt) : 1 ≤ n.depth := by cases n <;> simp only [Nt.depth] <;> omega
def Nt.cls : Nt → Str
  | .any => "Anything" | .made _ => "Made" | .used _ => "Used" | .chief _ => "Chief" | .over _ _ => "Over" | .both _ _ => "Both" | .either _ _ => "Either" | .but _ _ => "But"
def maxL (lk : List Int) : Int := lk.max?.getD 0
theorem maxL_eq {lk : List Int} {m : Int} (h : m ∈ lk) (hm : ∀ y, y ∈ lk → y ≤ m) : m = maxL lk := by
  unfold maxL
  rw [(List.max?_eq_some_iff (xs := lk) (a := m)).mpr ⟨h, hm⟩]
  rfl
def claimsL (ks : List Kd) (lk : List Int) : Nt → Bool
  | .any => true
  | .made s => hasL ks lk 0 s 1
  | .used s => hasL ks lk 1 s 1
  | .chief s => hasL ks lk 0 s (maxL lk)
  | .over a b => decide (rankL ks lk b < rankL ks lk a)
  | .both m n => claimsL ks lk m && claimsL ks lk n
  | .either m n => claimsL ks lk m || claimsL ks lk n
  | .but m n => claimsL ks lk m && !claimsL ks lk n
/-- a told note -/
def TN (H : Hp) : Nt → Addr → Prop
  | .any, p => H p = some (.tup [.str "any"])
  | .made s, p => H p = some (.tup [.str "made", .str s]) ∧ NameOk s
  | .used s, p => H p = some (.tup [.str "used", .str s]) ∧ NameOk s
  | .chief s, p => H p = some (.tup [.str "chief", .str s]) ∧ NameOk s
  | .over a b, p => ∃ x y : Addr, H p = some (.tup [.str "over", .ref x, .ref y]) ∧ KdAt H x a ∧ KdAt H y b ∧ KdOk a ∧ KdOk b
  | .both m n, p => ∃ x y : Addr, H p = some (.tup [.str "both", .ref x, .ref y]) ∧ TN H m x ∧ TN H n y
  | .either m n, p => ∃ x y : Addr, H p = some (.tup [.str "either", .ref x, .ref y]) ∧ TN H m x ∧ TN H n y
  | .but m n, p => ∃ x y : Addr, H p = some (.tup [.str "but", .ref x, .ref y]) ∧ TN H m x ∧ TN H n y
/-- a note as an object -/
def ON (K : PySem.W.Frag) (H : Hp) : Nt → Addr → Prop
  | .any, p => ∃ dx : Addr, H p = some (.ins (He.ga K "Anything") dx [])
  | .made s, p => ∃ dx : Addr, H p = some (.ins (He.ga K "Made") dx [("stuff", .str s)])
  | .used s, p => ∃ dx : Addr, H p = some (.ins (He.ga K "Used") dx [("use", .str s)])
  | .chief s, p => ∃ dx : Addr, H p = some (.ins (He.ga K "Chief") dx [("stuff", .str s)])
  | .over a b, p => ∃ dx x y : Addr, H p = some (.ins (He.ga K "Over") dx [("one", .ref x), ("other", .ref y)]) ∧ KdAt H x a ∧ KdAt H y b ∧ KdOk a ∧ KdOk b
  | .both m n, p => ∃ dx x y : Addr, H p = some (.ins (He.ga K "Both") dx [("one", .ref x), ("other", .ref y)]) ∧ ON K H m x ∧ ON K H n y
  | .either m n, p => ∃ dx x y : Addr, H p = some (.ins (He.ga K "Either") dx [("one", .ref x), ("other", .ref y)]) ∧ ON K H m x ∧ ON K H n y
  | .but m n, p => ∃ dx x y : Addr, H p = some (.ins (He.ga K "But") dx [("one", .ref x), ("other", .ref y)]) ∧ ON K H m x ∧ ON K H n y
/-- what is no list, no dict and no tree stays -/
def firm : HO → Bool
  | .tup _ => true
  | .ins _ _ fs => (fs.lookup ("order" : Str)).isNone
  | _ => false
def Kept (H H' : Hp) : Prop := ∀ b o, H b = some o → firm o = true → H' b = some o
theorem Kept.refl (H : Hp) : Kept H H := fun _ _ h _ => h
theorem Kept.trans {H H1 H2 : Hp} (a : Kept H H1) (b : Kept H1 H2) : Kept H H2 := fun c o h f => b c o (a c o h f) f
theorem Kept.of {H H' : Hp} (s : Same H H') : Kept H H' := fun b o h _ => s b o h
theorem kept_upd {H0 H1 : Hp} {b : Addr} {o u : HO} (s : Kept H0 H1) (n : H1 b = some u) (f : firm u = false) : Kept H0 (upd H1 b o) := fun c v e fv => by
  have e1 := s c v e fv
  rw [upd_ne (ne_of e1 n (by intro z; rw [z, f] at fv; cases fv))]
  exact e1
theorem KdAt.kept {H H' : Hp} {p : Addr} {k : Kd} (h : KdAt H p k) (s : Kept H H') : KdAt H' p k := s _ _ h rfl
theorem TN.kept {H H' : Hp} (s : Kept H H') : ∀ {n : Nt} {p : Addr}, TN H n p → TN H' n p
  | .any, _, h => s _ _ h rfl
  | .made _, _, h => ⟨s _ _ h.1 rfl, h.2⟩
  | .used _, _, h => ⟨s _ _ h.1 rfl, h.2⟩
  | .chief _, _, h => ⟨s _ _ h.1 rfl, h.2⟩
  | .over _ _, _, ⟨x, y, h, a, b, oa, ob⟩ => ⟨x, y, s _ _ h rfl, a.kept s, b.kept s, oa, ob⟩
  | .both _ _, _, ⟨x, y, h, a, b⟩ => ⟨x, y, s _ _ h rfl, TN.kept s a, TN.kept s b⟩
  | .either _ _, _, ⟨x, y, h, a, b⟩ => ⟨x, y, s _ _ h rfl, TN.kept s a, TN.kept s b⟩
  | .but _ _, _, ⟨x, y, h, a, b⟩ => ⟨x, y, s _ _ h rfl, TN.kept s a, TN.kept s b⟩
theorem ON.kept {K : PySem.W.Frag} {H H' : Hp} (s : Kept H H') : ∀ {n : Nt} {p : Addr}, ON K H n p → ON K H' n p
  | .any, _, ⟨d, h⟩ => ⟨d, s _ _ h rfl⟩
  | .made _, _, ⟨d, h⟩ => ⟨d, s _ _ h rfl⟩
  | .used _, _, ⟨d, h⟩ => ⟨d, s _ _ h rfl⟩
  | .chief _, _, ⟨d, h⟩ => ⟨d, s _ _ h rfl⟩
  | .over _ _, _, ⟨d, x, y, h, a, b, oa, ob⟩ => ⟨d, x, y, s _ _ h rfl, a.kept s, b.kept s, oa, ob⟩
  | .both _ _, _, ⟨d, x, y, h, a, b⟩ => ⟨d, x, y, s _ _ h rfl, ON.kept s a, ON.kept s b⟩
  | .either _ _, _, ⟨d, x, y, h, a, b⟩ => ⟨d, x, y, s _ _ h rfl, ON.kept s a, ON.kept s b⟩
  | .but _ _, _, ⟨d, x, y, h, a, b⟩ => ⟨d, x, y, s _ _ h rfl, ON.kept s a, ON.kept s b⟩
section
variable {P : Program} {w : World} {K : PySem.W.Frag} {mg : Str → Option Value} {base : Heap}
/-! ### the makers -/
def spInit1 (C : Addr) (f : Str) : Sp := fun vs H Q _ => ∃ (x dx : Addr) (v : V), vs = [.ref x, v] ∧ H x = some (.ins C dx []) ∧ Q .non (upd H x (.ins C dx [(f, v)]))
def spInit2 (C : Addr) : Sp := fun vs H Q _ => ∃ (x dx : Addr) (v u : V), vs = [.ref x, v, u] ∧ H x = some (.ins C dx []) ∧ Q .non (upd H x (.ins C dx [("one", v), ("other", u)]))
theorem ok_Made_init (T : Txt K mg) : Ok P w K mg base 1 (He.ma K (He.ga K "Made") "__init__") ["self", "stuff"] (spInit1 (He.ga K "Made") "stuff") := by
  refine def_Made_init T (fun vs H Q E h => ?_) (fun cdv A outer s H vs Q E hr h => ?_)
  · obtain ⟨x, dx, v, rfl, _⟩ := h; rfl
  · obtain ⟨x, dx, v, rfl, hx, q⟩ := h
    exact ⟨_, pss_one (ps_fld (pv 0) (pv 1) (by rfl)), _, rfl, _, rfl, x, _, dx, _, rfl, hx, T.cls_Made, T.na_Made_stuff, by decide, q⟩
theorem ok_Used_init (T : Txt K mg) : Ok P w K mg base 1 (He.ma K (He.ga K "Used") "__init__") ["self", "use"] (spInit1 (He.ga K "Used") "use") := by
  refine def_Used_init T (fun vs H Q E h => ?_) (fun cdv A outer s H vs Q E hr h => ?_)
  · obtain ⟨x, dx, v, rfl, _⟩ := h; rfl
  · obtain ⟨x, dx, v, rfl, hx, q⟩ := h
    exact ⟨_, pss_one (ps_fld (pv 0) (pv 1) (by rfl)), _, rfl, _, rfl, x, _, dx, _, rfl, hx, T.cls_Used, T.na_Used_use, by decide, q⟩
theorem ok_Chief_init (T : Txt K mg) : Ok P w K mg base 1 (He.ma K (He.ga K "Chief") "__init__") ["self", "stuff"] (spInit1 (He.ga K "Chief") "stuff") := by
  refine def_Chief_init T (fun vs H Q E h => ?_) (fun cdv A outer s H vs Q E hr h => ?_)
  · obtain ⟨x, dx, v, rfl, _⟩ := h; rfl
  · obtain ⟨x, dx, v, rfl, hx, q⟩ := h
    exact ⟨_, pss_one (ps_fld (pv 0) (pv 1) (by rfl)), _, rfl, _, rfl, x, _, dx, _, rfl, hx, T.cls_Chief, T.na_Chief_stuff, by decide, q⟩
theorem ok_Over_init (T : Txt K mg) : Ok P w K mg base 1 (He.ma K (He.ga K "Over") "__init__") ["self", "one", "other"] (spInit2 (He.ga K "Over")) := by
  refine def_Over_init T (fun vs H Q E h => ?_) (fun cdv A outer s H vs Q E hr h => ?_)
  · obtain ⟨x, dx, v, u, rfl, _⟩ := h; rfl
  · obtain ⟨x, dx, v, u, rfl, hx, q⟩ := h
    refine ⟨_, pss_cons (ps_fld (pv 0) (pv 1) (by rfl)) (pss_one (ps_fld (pv 0) (pv 2) (by rfl))), ?_⟩
    refine ⟨_, rfl, _, rfl, x, _, dx, _, rfl, hx, T.cls_Over, T.na_Over_one, by show (0 : Nat) < 1000; decide, ?_⟩
    refine ⟨_, rfl, _, rfl, x, _, dx, _, rfl, upd_same, T.cls_Over, T.na_Over_other, by show (1 : Nat) < 1000; decide, ?_⟩
    rw [upd_upd]
    exact q
theorem ok_Both_init (T : Txt K mg) : Ok P w K mg base 1 (He.ma K (He.ga K "Both") "__init__") ["self", "one", "other"] (spInit2 (He.ga K "Both")) := by
  refine def_Both_init T (fun vs H Q E h => ?_) (fun cdv A outer s H vs Q E hr h => ?_)
  · obtain ⟨x, dx, v, u, rfl, _⟩ := h; rfl
  · obtain ⟨x, dx, v, u, rfl, hx, q⟩ := h
    refine ⟨_, pss_cons (ps_fld (pv 0) (pv 1) (by rfl)) (pss_one (ps_fld (pv 0) (pv 2) (by rfl))), ?_⟩
    refine ⟨_, rfl, _, rfl, x, _, dx, _, rfl, hx, T.cls_Both, T.na_Both_one, by show (0 : Nat) < 1000; decide, ?_⟩
    refine ⟨_, rfl, _, rfl, x, _, dx, _, rfl, upd_same, T.cls_Both, T.na_Both_other, by show (1 : Nat) < 1000; decide, ?_⟩
    rw [upd_upd]
    exact q
theorem ok_Either_init (T : Txt K mg) : Ok P w K mg base 1 (He.ma K (He.ga K "Either") "__init__") ["self", "one", "other"] (spInit2 (He.ga K "Either")) := by
  refine def_Either_init T (fun vs H Q E h => ?_) (fun cdv A outer s H vs Q E hr h => ?_)
  · obtain ⟨x, dx, v, u, rfl, _⟩ := h; rfl
  · obtain ⟨x, dx, v, u, rfl, hx, q⟩ := h
    refine ⟨_, pss_cons (ps_fld (pv 0) (pv 1) (by rfl)) (pss_one (ps_fld (pv 0) (pv 2) (by rfl))), ?_⟩
    refine ⟨_, rfl, _, rfl, x, _, dx, _, rfl, hx, T.cls_Either, T.na_Either_one, by show (0 : Nat) < 1000; decide, ?_⟩
    refine ⟨_, rfl, _, rfl, x, _, dx, _, rfl, upd_same, T.cls_Either, T.na_Either_other, by show (1 : Nat) < 1000; decide, ?_⟩
    rw [upd_upd]
    exact q
theorem ok_But_init (T : Txt K mg) : Ok P w K mg base 1 (He.ma K (He.ga K "But") "__init__") ["self", "one", "other"] (spInit2 (He.ga K "But")) := by
  refine def_But_init T (fun vs H Q E h => ?_) (fun cdv A outer s H vs Q E hr h => ?_)
  · obtain ⟨x, dx, v, u, rfl, _⟩ := h; rfl
  · obtain ⟨x, dx, v, u, rfl, hx, q⟩ := h
    refine ⟨_, pss_cons (ps_fld (pv 0) (pv 1) (by rfl)) (pss_one (ps_fld (pv 0) (pv 2) (by rfl))), ?_⟩
    refine ⟨_, rfl, _, rfl, x, _, dx, _, rfl, hx, T.cls_But, T.na_But_one, by show (0 : Nat) < 1000; decide, ?_⟩
    refine ⟨_, rfl, _, rfl, x, _, dx, _, rfl, upd_same, T.cls_But, T.na_But_other, by show (1 : Nat) < 1000; decide, ?_⟩
    rw [upd_upd]
    exact q
end
end K43
set_option Elab.async false
set_option linter.all false
set_option maxRecDepth 100000
set_option maxHeartbeats 4000000
namespace K43
open PySem PySem.Spec PyProof.Rows L2
section
variable {P : Program} {w : World} {K : PySem.W.Frag} {mg : Str → Option Value} {base : Heap}
/-! ### what a note claims -/
def spClaims (K : PySem.W.Frag) (n : Nt) : Sp := fun vs H Q _ => ∃ (p a l : Addr) (ps : List Addr) (ks : List Kd) (lk : List Int),
  vs = [.ref p, .ref a, .ref l] ∧ Kds K H a ps ks ∧ H l = some (.tup (lk.map V.int)) ∧ lk.length = ks.length ∧ ON K H n p ∧ Q (.bl (claimsL ks lk n)) H
theorem ON.ins {H : Hp} (T : Txt K mg) {n : Nt} {p : Addr} (h : ON K H n p) : ∃ (dx : Addr) (fs : List (Str × V)), H p = some (.ins (He.ga K n.cls) dx fs) ∧ Cls K (He.ga K n.cls) ∧ fs.lookup ("claims" : Str) = none ∧
    Meth K (He.ga K n.cls) "claims" (He.ma K (He.ga K n.cls) "claims") := by
  cases n with
  | any => obtain ⟨dx, h⟩ := h; exact ⟨dx, _, h, T.cls_Anything, rfl, T.me_Anything_claims⟩
  | made _ => obtain ⟨dx, h⟩ := h; exact ⟨dx, _, h, T.cls_Made, rfl, T.me_Made_claims⟩
  | used _ => obtain ⟨dx, h⟩ := h; exact ⟨dx, _, h, T.cls_Used, rfl, T.me_Used_claims⟩
  | chief _ => obtain ⟨dx, h⟩ := h; exact ⟨dx, _, h, T.cls_Chief, rfl, T.me_Chief_claims⟩
  | over _ _ => obtain ⟨dx, x, y, h, _⟩ := h; exact ⟨dx, _, h, T.cls_Over, rfl, T.me_Over_claims⟩
  | both _ _ => obtain ⟨dx, x, y, h, _⟩ := h; exact ⟨dx, _, h, T.cls_Both, rfl, T.me_Both_claims⟩
  | either _ _ => obtain ⟨dx, x, y, h, _⟩ := h; exact ⟨dx, _, h, T.cls_Either, rfl, T.me_Either_claims⟩
  | but _ _ => obtain ⟨dx, x, y, h, _⟩ := h; exact ⟨dx, _, h, T.cls_But, rfl, T.me_But_claims⟩
theorem ok_Anything_claims (T : Txt K mg) : Ok P w K mg base 1 (He.ma K (He.ga K "Anything") "claims") ["self", "kinds", "look"] (spClaims K .any) := by
  refine def_Anything_claims T (fun vs H Q E h => ?_) (fun cdv A outer s H vs Q E hr h => ?_)
  · obtain ⟨p, a, l, ps, ks, lk, rfl, _⟩ := h; rfl
  · obtain ⟨p, a, l, ps, ks, lk, rfl, D, hL, hlen, hN, q⟩ := h
    exact ⟨_, pss_one (ps_ret pe_bl), q⟩
theorem ok_Made_claims (T : Txt K mg) (x : Str) : Ok P w K mg base 2 (He.ma K (He.ga K "Made") "claims") ["self", "kinds", "look"] (spClaims K (.made x)) := by
  refine def_Made_claims T (fun vs H Q E h => ?_) (fun cdv A outer s H vs Q E hr h => ?_)
  · obtain ⟨p, a, l, ps, ks, lk, rfl, _⟩ := h; rfl
  · obtain ⟨p, a, l, ps, ks, lk, rfl, D, hL, hlen, ⟨dx, hN⟩, q⟩ := h
    refine ⟨_, pss_one (ps_ret (pe_cmpR op_notN (pe_callO (ok_first_at T) hr (by rfl) T.mg_first_at (pa_cons (pv 1) (pa_cons (pv 2) (pa_cons pe_int (pa_cons (pe_fld (pv 0) (by rfl)) (pa_cons pe_int pa_nil)))))) pe_non (nomark _))), ?_⟩
    refine ⟨_, rfl, _, rfl, _, rfl, p, _, dx, _, _, rfl, hN, T.cls_Made, T.na_Made_stuff, rfl, a, l, ps, ks, lk, 0, x, 1, rfl, D, hL, hlen, by decide, fun hh k => ⟨rfl, ?_⟩, fun hh => ⟨rfl, ?_⟩⟩
    · have e : claimsL ks lk (.made x) = true := hh
      rw [e] at q; exact q
    · have e : claimsL ks lk (.made x) = false := hh
      rw [e] at q; exact q
theorem ok_Used_claims (T : Txt K mg) (x : Str) : Ok P w K mg base 2 (He.ma K (He.ga K "Used") "claims") ["self", "kinds", "look"] (spClaims K (.used x)) := by
  refine def_Used_claims T (fun vs H Q E h => ?_) (fun cdv A outer s H vs Q E hr h => ?_)
  · obtain ⟨p, a, l, ps, ks, lk, rfl, _⟩ := h; rfl
  · obtain ⟨p, a, l, ps, ks, lk, rfl, D, hL, hlen, ⟨dx, hN⟩, q⟩ := h
    refine ⟨_, pss_one (ps_ret (pe_cmpR op_notN (pe_callO (ok_first_at T) hr (by rfl) T.mg_first_at (pa_cons (pv 1) (pa_cons (pv 2) (pa_cons pe_int (pa_cons (pe_fld (pv 0) (by rfl)) (pa_cons pe_int pa_nil)))))) pe_non (nomark _))), ?_⟩
    refine ⟨_, rfl, _, rfl, _, rfl, p, _, dx, _, _, rfl, hN, T.cls_Used, T.na_Used_use, rfl, a, l, ps, ks, lk, 1, x, 1, rfl, D, hL, hlen, by decide, fun hh k => ⟨rfl, ?_⟩, fun hh => ⟨rfl, ?_⟩⟩
    · have e : claimsL ks lk (.used x) = true := hh
      rw [e] at q; exact q
    · have e : claimsL ks lk (.used x) = false := hh
      rw [e] at q; exact q
theorem ok_Chief_claims (T : Txt K mg) (x : Str) : Ok P w K mg base 2 (He.ma K (He.ga K "Chief") "claims") ["self", "kinds", "look"] (spClaims K (.chief x)) := by
  refine def_Chief_claims T (fun vs H Q E h => ?_) (fun cdv A outer s H vs Q E hr h => ?_)
  · obtain ⟨p, a, l, ps, ks, lk, rfl, _⟩ := h; rfl
  · obtain ⟨p, a, l, ps, ks, lk, rfl, D, hL, hlen, ⟨dx, hN⟩, q⟩ := h
    have hlo := D.lo
    refine ⟨_, pss_one (ps_ret (pe_cmpR op_notN (pe_callO (ok_first_at T) hr (by rfl) T.mg_first_at (pa_cons (pv 1) (pa_cons (pv 2) (pa_cons pe_int (pa_cons (pe_fld (pv 0) (by rfl)) (pa_cons (pe_callB (r := rMaxT K) (cr_maxT rfl) (by rfl) T.no_max (by decide +kernel) (pa_cons (pv 2) pa_nil)) pa_nil)))))) pe_non (nomark _))), ?_⟩
    refine ⟨_, rfl, _, rfl, _, rfl, p, _, dx, _, _, rfl, hN, T.cls_Chief, T.na_Chief_stuff, rfl, _, rfl, l, lk, rfl, SqT.of hL, by omega, fun m hm hle => ⟨a, l, ps, ks, lk, 0, x, m, rfl, D, hL, hlen, by decide, fun hh k => ⟨rfl, ?_⟩, fun hh => ⟨rfl, ?_⟩⟩⟩
    · rw [maxL_eq hm hle] at hh
      have e : claimsL ks lk (.chief x) = true := hh
      rw [e] at q; exact q
    · rw [maxL_eq hm hle] at hh
      have e : claimsL ks lk (.chief x) = false := hh
      rw [e] at q; exact q
theorem ok_Over_claims (T : Txt K mg) (j k : Kd) : Ok P w K mg base 2 (He.ma K (He.ga K "Over") "claims") ["self", "kinds", "look"] (spClaims K (.over j k)) := by
  refine def_Over_claims T (fun vs H Q E h => ?_) (fun cdv A outer s H vs Q E hr h => ?_)
  · obtain ⟨p, a, l, ps, ks, lk, rfl, _⟩ := h; rfl
  · obtain ⟨p, a, l, ps, ks, lk, rfl, D, hL, hlen, ⟨dx, y, z, hN, hj, hk, oj, ok⟩, q⟩ := h
    refine ⟨_, pss_one (ps_ret (pe_cmpR op_gt (pe_callO (ok_rank_of T) hr (by rfl) T.mg_rank_of (pa_cons (pv 1) (pa_cons (pv 2) (pa_cons (pe_fld (pv 0) (by rfl)) pa_nil))))
      (pe_callO (ok_rank_of T) hr (by rfl) T.mg_rank_of (pa_cons (pv 1) (pa_cons (pv 2) (pa_cons (pe_fld (pv 0) (by rfl)) pa_nil)))) (nomark _))), ?_⟩
    refine ⟨_, rfl, _, rfl, _, rfl, p, _, dx, _, _, rfl, hN, T.cls_Over, T.na_Over_one, rfl, a, l, y, ps, ks, lk, j, rfl, D, hL, hlen, hj, oj, ?_⟩
    refine ⟨_, rfl, _, rfl, _, rfl, p, _, dx, _, _, rfl, hN, T.cls_Over, T.na_Over_other, rfl, a, l, z, ps, ks, lk, k, rfl, D, hL, hlen, hk, ok, ?_⟩
    exact ⟨_, _, rfl, rfl, q⟩
theorem ok_Both_claims (T : Txt K mg) (m n : Nt) {d : Nat} (G1 : Ok P w K mg base d (He.ma K (He.ga K m.cls) "claims") ["self", "kinds", "look"] (spClaims K m))
    (G2 : Ok P w K mg base d (He.ma K (He.ga K n.cls) "claims") ["self", "kinds", "look"] (spClaims K n)) : Ok P w K mg base (d + 1) (He.ma K (He.ga K "Both") "claims") ["self", "kinds", "look"] (spClaims K (.both m n)) := by
  refine def_Both_claims T (fun vs H Q E h => ?_) (fun cdv A outer s H vs Q E hr h => ?_)
  · obtain ⟨p, a, l, ps, ks, lk, rfl, _⟩ := h; rfl
  · obtain ⟨p, a, l, ps, ks, lk, rfl, D, hL, hlen, ⟨dx, y, z, hN, hm, hn⟩, q⟩ := h
    obtain ⟨dy, fy, ey, cy, ly, my⟩ := hm.ins T
    obtain ⟨dz, fz, ez, cz, lz, mz⟩ := hn.ins T
    refine ⟨_, pss_one (ps_ret (pe_and (pe_methD (ps := ["self", "kinds", "look"]) (pe_fld (pv 0) (by rfl)) hr (pa_cons (pv 1) (pa_cons (pv 2) pa_nil))) (pe_one (pe_methD (ps := ["self", "kinds", "look"]) (pe_fld (pv 0) (by rfl)) hr (pa_cons (pv 1) (pa_cons (pv 2) pa_nil)))))), ?_⟩
    refine ⟨_, rfl, p, _, dx, _, _, rfl, hN, T.cls_Both, T.na_Both_one, rfl, y, _, dy, fy, _, _, rfl, ey, cy, ly, my, G1, _, rfl, _, rfl, y, a, l, ps, ks, lk, rfl, D, hL, hlen, hm, _, rfl, ?_⟩
    have e : claimsL ks lk (.both m n) = (claimsL ks lk m && claimsL ks lk n) := rfl
    rw [e] at q
    generalize claimsL ks lk m = c1 at q ⊢
    cases c1 with
    | true => refine iteT ?_
              refine ⟨_, rfl, p, _, dx, _, _, rfl, hN, T.cls_Both, T.na_Both_other, rfl, z, _, dz, fz, _, _, rfl, ez, cz, lz, mz, G2, _, rfl, _, rfl, z, a, l, ps, ks, lk, rfl, D, hL, hlen, hn, q⟩
    | false => exact iteF q
theorem ok_Either_claims (T : Txt K mg) (m n : Nt) {d : Nat} (G1 : Ok P w K mg base d (He.ma K (He.ga K m.cls) "claims") ["self", "kinds", "look"] (spClaims K m))
    (G2 : Ok P w K mg base d (He.ma K (He.ga K n.cls) "claims") ["self", "kinds", "look"] (spClaims K n)) : Ok P w K mg base (d + 1) (He.ma K (He.ga K "Either") "claims") ["self", "kinds", "look"] (spClaims K (.either m n)) := by
  refine def_Either_claims T (fun vs H Q E h => ?_) (fun cdv A outer s H vs Q E hr h => ?_)
  · obtain ⟨p, a, l, ps, ks, lk, rfl, _⟩ := h; rfl
  · obtain ⟨p, a, l, ps, ks, lk, rfl, D, hL, hlen, ⟨dx, y, z, hN, hm, hn⟩, q⟩ := h
    obtain ⟨dy, fy, ey, cy, ly, my⟩ := hm.ins T
    obtain ⟨dz, fz, ez, cz, lz, mz⟩ := hn.ins T
    refine ⟨_, pss_one (ps_ret (pe_or (pe_methD (ps := ["self", "kinds", "look"]) (pe_fld (pv 0) (by rfl)) hr (pa_cons (pv 1) (pa_cons (pv 2) pa_nil))) (pe_one (pe_methD (ps := ["self", "kinds", "look"]) (pe_fld (pv 0) (by rfl)) hr (pa_cons (pv 1) (pa_cons (pv 2) pa_nil)))))), ?_⟩
    refine ⟨_, rfl, p, _, dx, _, _, rfl, hN, T.cls_Either, T.na_Either_one, rfl, y, _, dy, fy, _, _, rfl, ey, cy, ly, my, G1, _, rfl, _, rfl, y, a, l, ps, ks, lk, rfl, D, hL, hlen, hm, _, rfl, ?_⟩
    have e : claimsL ks lk (.either m n) = (claimsL ks lk m || claimsL ks lk n) := rfl
    rw [e] at q
    generalize claimsL ks lk m = c1 at q ⊢
    cases c1 with
    | true => exact iteT q
    | false => refine iteF ?_
               refine ⟨_, rfl, p, _, dx, _, _, rfl, hN, T.cls_Either, T.na_Either_other, rfl, z, _, dz, fz, _, _, rfl, ez, cz, lz, mz, G2, _, rfl, _, rfl, z, a, l, ps, ks, lk, rfl, D, hL, hlen, hn, q⟩
theorem ok_But_claims (T : Txt K mg) (m n : Nt) {d : Nat} (G1 : Ok P w K mg base d (He.ma K (He.ga K m.cls) "claims") ["self", "kinds", "look"] (spClaims K m))
    (G2 : Ok P w K mg base d (He.ma K (He.ga K n.cls) "claims") ["self", "kinds", "look"] (spClaims K n)) : Ok P w K mg base (d + 1) (He.ma K (He.ga K "But") "claims") ["self", "kinds", "look"] (spClaims K (.but m n)) := by
  refine def_But_claims T (fun vs H Q E h => ?_) (fun cdv A outer s H vs Q E hr h => ?_)
  · obtain ⟨p, a, l, ps, ks, lk, rfl, _⟩ := h; rfl
  · obtain ⟨p, a, l, ps, ks, lk, rfl, D, hL, hlen, ⟨dx, y, z, hN, hm, hn⟩, q⟩ := h
    obtain ⟨dy, fy, ey, cy, ly, my⟩ := hm.ins T
    obtain ⟨dz, fz, ez, cz, lz, mz⟩ := hn.ins T
    refine ⟨_, pss_one (ps_ret (pe_and (pe_methD (ps := ["self", "kinds", "look"]) (pe_fld (pv 0) (by rfl)) hr (pa_cons (pv 1) (pa_cons (pv 2) pa_nil))) (pe_one (pe_not (pe_methD (ps := ["self", "kinds", "look"]) (pe_fld (pv 0) (by rfl)) hr (pa_cons (pv 1) (pa_cons (pv 2) pa_nil))))))), ?_⟩
    refine ⟨_, rfl, p, _, dx, _, _, rfl, hN, T.cls_But, T.na_But_one, rfl, y, _, dy, fy, _, _, rfl, ey, cy, ly, my, G1, _, rfl, _, rfl, y, a, l, ps, ks, lk, rfl, D, hL, hlen, hm, _, rfl, ?_⟩
    have e : claimsL ks lk (.but m n) = (claimsL ks lk m && !claimsL ks lk n) := rfl
    rw [e] at q
    generalize claimsL ks lk m = c1 at q ⊢
    cases c1 with
    | true => refine iteT ?_
              refine ⟨_, rfl, p, _, dx, _, _, rfl, hN, T.cls_But, T.na_But_other, rfl, z, _, dz, fz, _, _, rfl, ez, cz, lz, mz, G2, _, rfl, _, rfl, z, a, l, ps, ks, lk, rfl, D, hL, hlen, hn, _, rfl, q⟩
    | false => exact iteF q
theorem ok_claims (T : Txt K mg) : ∀ (n : Nt) {d : Nat}, n.depth + 1 ≤ d → Ok P w K mg base d (He.ma K (He.ga K n.cls) "claims") ["self", "kinds", "look"] (spClaims K n)
  | .any, _, h => (ok_Anything_claims T).mono (by have : Nt.any.depth = 1 := rfl; omega)
  | .made x, _, h => (ok_Made_claims T x).mono (by have : (Nt.made x).depth = 1 := rfl; omega)
  | .used x, _, h => (ok_Used_claims T x).mono (by have : (Nt.used x).depth = 1 := rfl; omega)
  | .chief x, _, h => (ok_Chief_claims T x).mono (by have : (Nt.chief x).depth = 1 := rfl; omega)
  | .over j k, _, h => (ok_Over_claims T j k).mono (by have : (Nt.over j k).depth = 1 := rfl; omega)
  | .both m n, _, h => (ok_Both_claims T m n (d := 1 + max m.depth n.depth) (ok_claims T m (by omega)) (ok_claims T n (by omega))).mono (by have : (Nt.both m n).depth = 1 + max m.depth n.depth := rfl; omega)
  | .either m n, _, h => (ok_Either_claims T m n (d := 1 + max m.depth n.depth) (ok_claims T m (by omega)) (ok_claims T n (by omega))).mono (by have : (Nt.either m n).depth = 1 + max m.depth n.depth := rfl; omega)
  | .but m n, _, h => (ok_But_claims T m n (d := 1 + max m.depth n.depth) (ok_claims T m (by omega)) (ok_claims T n (by omega))).mono (by have : (Nt.but m n).depth = 1 + max m.depth n.depth := rfl; omega)
end
end K43
set_option Elab.async false
set_option linter.all false
set_option maxRecDepth 100000
set_option maxHeartbeats 4000000
namespace K43
open PySem PySem.Spec PyProof.Rows L2
theorem strNe {x y : Str} (h : x ≠ y) : V.str x ≠ V.str y := fun z => h (V.str.inj z)
theorem same_make {H : Hp} {C x dx : Addr} {o : HO} (hx : H x = none) (hd : H dx = none) (n : dx ≠ x) : Same H (upd (upd H dx (.own x)) x o) :=
  same_upd (same_new hd) hx
section
variable {P : Program} {w : World} {K : PySem.W.Frag} {mg : Str → Option Value} {base : Heap}
/-! ### notes from what is told -/
def Nt.leaf : Nt → Bool
  | .both _ _ | .either _ _ | .but _ _ => false
  | _ => true
def spNoted (K : PySem.W.Frag) (n : Nt) : Hp → VK → Prop := fun H Q => ∀ (H' : Hp) (o : Addr), Same H H' → H o = none → ON K H' n o → Q (.ref o) H'
def spPlain (K : PySem.W.Frag) (n : Nt) : Sp := fun vs H Q _ => ∃ p : Addr, vs = [.ref p] ∧ TN H n p ∧ n.leaf = true ∧ spNoted K n H Q
theorem ok_plain_of (T : Txt K mg) (n : Nt) : Ok P w K mg base 3 (He.ga K "plain_of") ["told"] (spPlain K n) := by
  obtain ⟨a1, a2, a3⟩ := ex_of T
  refine def_plain_of T (fun vs H Q E h => ?_) (fun cdv A outer s H vs Q E hr h => ?_)
  · obtain ⟨p, rfl, _⟩ := h; rfl
  · obtain ⟨p, rfl, hN, hl, q⟩ := h
    refine ⟨_, pss_cons (ps_set (i := 1) sc_plain_of.nd rfl (.inl rfl) (pe_ix ix_tup (pv 0) pe_int (fun _ _ => rfl)))
      (pss_cons (ps_if (PW.pt (pw_and (pt_cmpR op_eq (pv 1) pe_str (nomark _)) (pw_and1 (pt_cmpR op_eq (pe_callB call_len_seq (by rfl) T.no_len PySem.boot_len (pa_cons (pv 0) pa_nil)) pe_int (nomark _))))) (pss_one (ps_ret (pe_new0 a1 a2 a3 (by rfl) T.mg_Anything))) pss_nil)
      (pss_cons (ps_if (PW.pt (pw_and (pt_cmpR op_eq (pv 1) pe_str (nomark _)) (pw_and (pt_cmpR op_eq (pe_callB call_len_seq (by rfl) T.no_len PySem.boot_len (pa_cons (pv 0) pa_nil)) pe_int (nomark _)) (pw_and (pt_val (pe_callO (ok_is_pair T) (hr.mono (by decide)) (by rfl) T.mg_is_pair (pa_cons (pe_ix ix_tup (pv 0) pe_int (fun _ _ => rfl)) pa_nil))) (pw_and1 (pt_val (pe_callO (ok_is_pair T) (hr.mono (by decide)) (by rfl) T.mg_is_pair (pa_cons (pe_ix ix_tup (pv 0) pe_int (fun _ _ => rfl)) pa_nil)))))))) (pss_one (ps_ret (pe_makeO T.mk_Over (ok_Over_init T) (hr.mono (by decide)) (by rfl) T.mg_Over (pa_cons (pe_ix ix_tup (pv 0) pe_int (fun _ _ => rfl)) (pa_cons (pe_ix ix_tup (pv 0) pe_int (fun _ _ => rfl)) pa_nil))))) pss_nil)
      (pss_cons (ps_if (PW.pt (pw_or (pt_cmpR op_ne (pe_callB call_len_seq (by rfl) T.no_len PySem.boot_len (pa_cons (pv 0) pa_nil)) pe_int (nomark _)) (pw_or1 (pt_not (pt_val (pe_callO (ok_is_name T) (hr.mono (by decide)) (by rfl) T.mg_is_name (pa_cons (pe_ix ix_tup (pv 0) pe_int (fun _ _ => rfl)) pa_nil))))))) (pss_one (ps_ret pe_non)) pss_nil)
      (pss_cons (ps_if (pt_cmpR op_eq (pv 1) pe_str (nomark _)) (pss_one (ps_ret (pe_makeO T.mk_Made (ok_Made_init T) (hr.mono (by decide)) (by rfl) T.mg_Made (pa_cons (pe_ix ix_tup (pv 0) pe_int (fun _ _ => rfl)) pa_nil)))) pss_nil)
      (pss_cons (ps_if (pt_cmpR op_eq (pv 1) pe_str (nomark _)) (pss_one (ps_ret (pe_makeO T.mk_Used (ok_Used_init T) (hr.mono (by decide)) (by rfl) T.mg_Used (pa_cons (pe_ix ix_tup (pv 0) pe_int (fun _ _ => rfl)) pa_nil)))) pss_nil)
      (pss_cons (ps_if (pt_cmpR op_eq (pv 1) pe_str (nomark _)) (pss_one (ps_ret (pe_makeO T.mk_Chief (ok_Chief_init T) (hr.mono (by decide)) (by rfl) T.mg_Chief (pa_cons (pe_ix ix_tup (pv 0) pe_int (fun _ _ => rfl)) pa_nil)))) pss_nil)
      (pss_one (ps_ret pe_non)))))))), ?_⟩
    cases n with
    | any =>
      refine ⟨_, rfl, p, _, _, _, rfl, rfl, SqT.of hN, rfl, ?_⟩
      refine ⟨_, rfl, rfl, _, rfl, iteDT rfl ⟨_, rfl, p, _, rfl, .inr (SqT.of hN), rfl, _, rfl, iteDT rfl ?_⟩⟩
      intro x dx hx hd nd
      exact q _ x (same_make (C := He.ga K "Anything") hx hd nd) hx ⟨dx, upd_same⟩
    | made z =>
      obtain ⟨hN, hz⟩ := hN
      refine ⟨_, rfl, p, _, _, _, rfl, rfl, SqT.of hN, rfl, ?_⟩
      refine ⟨_, rfl, rfl, _, rfl, iteDF (strNe (by decide)) (iteF ?_)⟩
      refine ⟨_, rfl, rfl, _, rfl, iteDF (strNe (by decide)) (iteF ?_)⟩
      refine ⟨_, rfl, p, _, rfl, .inr (SqT.of hN), rfl, _, rfl, iteF ⟨_, rfl, p, _, _, _, rfl, rfl, SqT.of hN, rfl, z, rfl, hz, _, rfl, iteF ?_⟩⟩
      refine ⟨_, rfl, rfl, _, rfl, iteDT rfl ⟨_, rfl, p, _, _, _, rfl, rfl, SqT.of hN, rfl, fun x dx hx hd nd => ⟨x, dx, _, rfl, upd_same, rfl, ?_⟩⟩⟩
      rw [upd_upd]
      exact q _ x (same_make (C := He.ga K "Made") hx hd nd) hx ⟨dx, upd_same⟩
    | used z =>
      obtain ⟨hN, hz⟩ := hN
      refine ⟨_, rfl, p, _, _, _, rfl, rfl, SqT.of hN, rfl, ?_⟩
      refine ⟨_, rfl, rfl, _, rfl, iteDF (strNe (by decide)) (iteF ?_)⟩
      refine ⟨_, rfl, rfl, _, rfl, iteDF (strNe (by decide)) (iteF ?_)⟩
      refine ⟨_, rfl, p, _, rfl, .inr (SqT.of hN), rfl, _, rfl, iteF ⟨_, rfl, p, _, _, _, rfl, rfl, SqT.of hN, rfl, z, rfl, hz, _, rfl, iteF ?_⟩⟩
      refine ⟨_, rfl, rfl, _, rfl, iteDF (strNe (by decide)) ?_⟩
      refine ⟨_, rfl, rfl, _, rfl, iteDT rfl ⟨_, rfl, p, _, _, _, rfl, rfl, SqT.of hN, rfl, fun x dx hx hd nd => ⟨x, dx, _, rfl, upd_same, rfl, ?_⟩⟩⟩
      rw [upd_upd]
      exact q _ x (same_make (C := He.ga K "Used") hx hd nd) hx ⟨dx, upd_same⟩
    | chief z =>
      obtain ⟨hN, hz⟩ := hN
      refine ⟨_, rfl, p, _, _, _, rfl, rfl, SqT.of hN, rfl, ?_⟩
      refine ⟨_, rfl, rfl, _, rfl, iteDF (strNe (by decide)) (iteF ?_)⟩
      refine ⟨_, rfl, rfl, _, rfl, iteDF (strNe (by decide)) (iteF ?_)⟩
      refine ⟨_, rfl, p, _, rfl, .inr (SqT.of hN), rfl, _, rfl, iteF ⟨_, rfl, p, _, _, _, rfl, rfl, SqT.of hN, rfl, z, rfl, hz, _, rfl, iteF ?_⟩⟩
      refine ⟨_, rfl, rfl, _, rfl, iteDF (strNe (by decide)) ?_⟩
      refine ⟨_, rfl, rfl, _, rfl, iteDF (strNe (by decide)) ?_⟩
      refine ⟨_, rfl, rfl, _, rfl, iteDT rfl ⟨_, rfl, p, _, _, _, rfl, rfl, SqT.of hN, rfl, fun x dx hx hd nd => ⟨x, dx, _, rfl, upd_same, rfl, ?_⟩⟩⟩
      rw [upd_upd]
      exact q _ x (same_make (C := He.ga K "Chief") hx hd nd) hx ⟨dx, upd_same⟩
    | over a b =>
      obtain ⟨y, z, hN, ha, hb, oa, ob⟩ := hN
      refine ⟨_, rfl, p, _, _, _, rfl, rfl, SqT.of hN, rfl, ?_⟩
      refine ⟨_, rfl, rfl, _, rfl, iteDF (strNe (by decide)) (iteF ?_)⟩
      refine ⟨_, rfl, rfl, _, rfl, iteDT rfl ⟨_, rfl, p, _, rfl, .inr (SqT.of hN), rfl, _, rfl, iteDT rfl ?_⟩⟩
      refine ⟨_, rfl, p, _, _, _, rfl, rfl, SqT.of hN, rfl, y, a, rfl, ha, oa, _, rfl, iteT ?_⟩
      refine ⟨_, rfl, p, _, _, _, rfl, rfl, SqT.of hN, rfl, z, b, rfl, hb, ob, _, rfl, iteT ?_⟩
      refine ⟨_, rfl, p, _, _, _, rfl, rfl, SqT.of hN, rfl, _, rfl, p, _, _, _, rfl, rfl, SqT.of hN, rfl, fun x dx hx hd nd => ⟨x, dx, _, _, rfl, upd_same, rfl, ?_⟩⟩
      rw [upd_upd]
      have s1 : Same H (upd (upd H dx (.own x)) x (.ins (He.ga K "Over") dx [("one", .ref y), ("other", .ref z)])) := same_make (C := He.ga K "Over") hx hd nd
      exact q _ x s1 hx ⟨dx, y, z, upd_same, ha.keep s1, hb.keep s1, oa, ob⟩
    | both _ _ => cases hl
    | either _ _ => cases hl
    | but _ _ => cases hl
def spMade (K : PySem.W.Frag) (n : Nt) : Sp := fun vs H Q _ => ∃ (p : Addr) (dp : Int), vs = [.ref p, .int dp] ∧ TN H n p ∧ 1 ≤ dp ∧ dp + n.depth ≤ 6 ∧ spNoted K n H Q
theorem ok_made_leaf (T : Txt K mg) (n : Nt) (hl : n.leaf = true) : Ok P w K mg base 4 (He.ga K "made_at") ["told", "deep"] (spMade K n) := by
  refine def_made_at T (fun vs H Q E h => ?_) (fun cdv A outer s H vs Q E hr h => ?_)
  · obtain ⟨p, dp, rfl, _⟩ := h; rfl
  · obtain ⟨p, dp, rfl, hN0, d1, d2, q⟩ := h
    obtain ⟨t1, hD⟩ := T.int_DEEP
    refine ⟨_, pss_cons (ps_if (PW.pt (pw_or (pt_cmpR op_gt (pv 1) (pe_glob (v := .int 5) (by rfl) hD ⟨_, rfl⟩) (nomark _))
        (pw_or (pt_not (pt_val (pe_callB call_isi (by rfl) T.no_isinstance (by decide +kernel) (pa_cons (pv 0) (pa_cons (pe_bltn (v := .ty "tuple") (by rfl) T.no_tuple (by decide +kernel) rfl) pa_nil)))))
        (pw_or (pt_cmpR op_eq (pe_callB call_len_seq (by rfl) T.no_len PySem.boot_len (pa_cons (pv 0) pa_nil)) pe_int (nomark _))
        (pw_or1 (pt_not (pt_val (pe_callB call_isi (by rfl) T.no_isinstance (by decide +kernel) (pa_cons (pe_ix ix_tup (pv 0) pe_int (fun _ _ => rfl)) (pa_cons (pe_bltn (v := .ty "str") (by rfl) T.no_str (by decide +kernel) rfl) pa_nil))))))))))
        (pss_one ps_never) pss_nil)
      (pss_cons (ps_if (PW.pt (pw_and (pt_cmpR op_eq (pe_callB call_len_seq (by rfl) T.no_len PySem.boot_len (pa_cons (pv 0) pa_nil)) pe_int (nomark _)) (pw_and1 (pt_cmpR op_in_seq (pe_ix ix_tup (pv 0) pe_int (fun _ _ => rfl)) (pe_tup (pa_cons pe_str (pa_cons pe_str (pa_cons pe_str pa_nil)))) (by rfl)))))
        (pss_cons ps_never (pss_cons ps_never (pss_cons ps_never (pss_cons ps_never (pss_one ps_never))))) pss_nil)
      (pss_cons (ps_set (i := 4) sc_made_at.nd rfl (.inl rfl) (pe_callO (ok_plain_of T n) (hr.mono (by omega)) (by rfl) T.mg_plain_of (pa_cons (pv 0) pa_nil)))
      (pss_cons (ps_if (pt_cmpR op_isN (pv 4) pe_non (nomark _)) (pss_one ps_never) pss_nil)
      (pss_one (ps_ret (pv 4)))))), ?_⟩
    have dpos := n.depth_pos
    have hx : ∃ (wd : Str) (xs : List V), H p = some (.tup (.str wd :: xs)) ∧ (xs.length = 2 → wd = "over") ∧ xs.length ≤ 2 := by
      cases n with
      | any => exact ⟨_, [], hN0, (fun z => by cases z), by decide⟩
      | made z => exact ⟨_, [_], hN0.1, (fun z => by cases z), Nat.le_succ 1⟩
      | used z => exact ⟨_, [_], hN0.1, (fun z => by cases z), Nat.le_succ 1⟩
      | chief z => exact ⟨_, [_], hN0.1, (fun z => by cases z), Nat.le_succ 1⟩
      | over a b => obtain ⟨y, z, hN, _⟩ := hN0; exact ⟨_, [_, _], hN, fun _ => rfl, Nat.le_refl 2⟩
      | both _ _ => cases hl
      | either _ _ => cases hl
      | but _ _ => cases hl
    obtain ⟨wd, xs, hN, hw, hlen⟩ := hx
    refine ⟨_, rfl, _, _, rfl, rfl, _, rfl, iteDF (by omega) ?_⟩
    refine ⟨_, rfl, _, _, _, _, true, rfl, .ty _, .base (.tup hN), kit_ty (by decide +kernel), _, rfl, iteF ?_⟩
    refine ⟨_, rfl, p, _, rfl, .inr (SqT.of hN), rfl, _, rfl, iteDF (by intro z; have := V.int.inj z; rw [List.length_cons] at this; omega) ?_⟩
    refine ⟨_, rfl, p, _, _, _, rfl, rfl, SqT.of hN, atI_nat (j := 0) rfl, _, _, _, _, true, rfl, .ty _, .base (.str _), kit_ty (by decide +kernel), _, rfl, iteF ?_⟩
    have fin : ∀ H1 : Hp, Same H H1 → spNoted K n H1 Q := fun H1 s1 H2 o s2 ho hO => q H2 o (s1.trans s2) (s1.free ho) hO
    by_cases h2 : xs.length = 2
    · refine ⟨_, rfl, p, _, rfl, .inr (SqT.of hN), rfl, _, rfl, iteDT (by rw [List.length_cons, h2]; rfl) ?_⟩
      refine ⟨_, rfl, p, _, _, _, rfl, rfl, SqT.of hN, atI_nat (j := 0) rfl, by show (3 : Nat) ≤ sizeLine; decide, fun b hb => ⟨_, _, rfl, .inr (SqT.of upd_same), rfl, rfl, _, rfl, ?_⟩⟩
      have s1 : Same H (upd H b (.tup [.str "both", .str "either", .str "but"])) := same_new hb
      rw [hw h2, show inV (.str "over") [.str "both", .str "either", .str "but"] = false by decide]
      refine iteF ⟨_, rfl, p, rfl, hN0.kept (Kept.of s1), hl, fun H2 o s2 ho hO => ⟨_, rfl, rfl, _, rfl, iteDF (by intro z; cases z) ⟨_, rfl, fin _ s1 H2 o s2 ho hO⟩⟩⟩
    · refine ⟨_, rfl, p, _, rfl, .inr (SqT.of hN), rfl, _, rfl, iteDF (by intro z; have := V.int.inj z; rw [List.length_cons] at this; omega) ?_⟩
      refine iteF ⟨_, rfl, p, rfl, hN0, hl, fun H2 o s2 ho hO => ⟨_, rfl, rfl, _, rfl, iteDF (by intro z; cases z) ⟨_, rfl, fin _ (Same.refl H) H2 o s2 ho hO⟩⟩⟩
theorem ok_made_both (T : Txt K mg) (m n : Nt) {d : Nat} (h3 : 3 ≤ d) (G1 : Ok P w K mg base d (He.ga K "made_at") ["told", "deep"] (spMade K m))
    (G2 : Ok P w K mg base d (He.ga K "made_at") ["told", "deep"] (spMade K n)) : Ok P w K mg base (d + 1) (He.ga K "made_at") ["told", "deep"] (spMade K (.both m n)) := by
  refine def_made_at T (fun vs H Q E h => ?_) (fun cdv A outer s H vs Q E hr h => ?_)
  · obtain ⟨p, dp, rfl, _⟩ := h; rfl
  · obtain ⟨p, dp, rfl, hN0, d1, d2, q⟩ := h
    obtain ⟨t1, hD⟩ := T.int_DEEP
    refine ⟨_, pss_cons (ps_if (PW.pt (pw_or (pt_cmpR op_gt (pv 1) (pe_glob (v := .int 5) (by rfl) hD ⟨_, rfl⟩) (nomark _))
        (pw_or (pt_not (pt_val (pe_callB call_isi (by rfl) T.no_isinstance (by decide +kernel) (pa_cons (pv 0) (pa_cons (pe_bltn (v := .ty "tuple") (by rfl) T.no_tuple (by decide +kernel) rfl) pa_nil)))))
        (pw_or (pt_cmpR op_eq (pe_callB call_len_seq (by rfl) T.no_len PySem.boot_len (pa_cons (pv 0) pa_nil)) pe_int (nomark _))
        (pw_or1 (pt_not (pt_val (pe_callB call_isi (by rfl) T.no_isinstance (by decide +kernel) (pa_cons (pe_ix ix_tup (pv 0) pe_int (fun _ _ => rfl)) (pa_cons (pe_bltn (v := .ty "str") (by rfl) T.no_str (by decide +kernel) rfl) pa_nil))))))))))
        (pss_one ps_never) pss_nil)
      (pss_cons (ps_if (PW.pt (pw_and (pt_cmpR op_eq (pe_callB call_len_seq (by rfl) T.no_len PySem.boot_len (pa_cons (pv 0) pa_nil)) pe_int (nomark _)) (pw_and1 (pt_cmpR op_in_seq (pe_ix ix_tup (pv 0) pe_int (fun _ _ => rfl)) (pe_tup (pa_cons pe_str (pa_cons pe_str (pa_cons pe_str pa_nil)))) (by rfl)))))
        (pss_cons (ps_set (i := 2) sc_made_at.nd rfl (.inl rfl) (pe_callO G1 (hr.mono (by omega)) (by rfl) T.mg_made_at (pa_cons (pe_ix ix_tup (pv 0) pe_int (fun _ _ => rfl)) (pa_cons (pe_op op_add (pv 1) pe_int) pa_nil))))
          (pss_cons (ps_set (i := 3) sc_made_at.nd rfl (.inl rfl) (pe_callO G2 (hr.mono (by omega)) (by rfl) T.mg_made_at (pa_cons (pe_ix ix_tup (pv 0) pe_int (fun _ _ => rfl)) (pa_cons (pe_op op_add (pv 1) pe_int) pa_nil))))
          (pss_cons (ps_if (pt_cmpR op_eq (pe_ix ix_tup (pv 0) pe_int (fun _ _ => rfl)) pe_str (nomark _)) (pss_one (ps_ret (pe_makeO T.mk_Both (ok_Both_init T) (hr.mono (by omega)) (by rfl) T.mg_Both (pa_cons (pv 2) (pa_cons (pv 3) pa_nil))))) pss_nil)
          (pss_cons (ps_if (pt_cmpR op_eq (pe_ix ix_tup (pv 0) pe_int (fun _ _ => rfl)) pe_str (nomark _)) (pss_one (ps_ret (pe_makeO T.mk_Either (ok_Either_init T) (hr.mono (by omega)) (by rfl) T.mg_Either (pa_cons (pv 2) (pa_cons (pv 3) pa_nil))))) pss_nil)
          (pss_one (ps_ret (pe_makeO T.mk_But (ok_But_init T) (hr.mono (by omega)) (by rfl) T.mg_But (pa_cons (pv 2) (pa_cons (pv 3) pa_nil))))))))) pss_nil)
      (pss_cons (ps_set (i := 4) sc_made_at.nd rfl (.inl rfl) (pe_callO (ok_plain_of T (.any)) (hr.mono (by omega)) (by rfl) T.mg_plain_of (pa_cons (pv 0) pa_nil)))
      (pss_cons (ps_if (pt_cmpR op_isN (pv 4) pe_non (nomark _)) (pss_one ps_never) pss_nil)
      (pss_one (ps_ret (pv 4)))))), ?_⟩
    have dpos : (Nt.both m n).depth = 1 + max m.depth n.depth := rfl
    have dm := m.depth_pos
    obtain ⟨y, z, hN, hm, hn⟩ := hN0
    refine ⟨_, rfl, _, _, rfl, rfl, _, rfl, iteDF (by omega) ?_⟩
    refine ⟨_, rfl, _, _, _, _, true, rfl, .ty _, .base (.tup hN), kit_ty (by decide +kernel), _, rfl, iteF ?_⟩
    refine ⟨_, rfl, p, _, rfl, .inr (SqT.of hN), rfl, _, rfl, iteDF (by intro z; have := V.int.inj z; rw [List.length_cons] at this; omega) ?_⟩
    refine ⟨_, rfl, p, _, _, _, rfl, rfl, SqT.of hN, atI_nat (j := 0) rfl, _, _, _, _, true, rfl, .ty _, .base (.str _), kit_ty (by decide +kernel), _, rfl, iteF ?_⟩
    refine ⟨_, rfl, p, _, rfl, .inr (SqT.of hN), rfl, _, rfl, iteDT rfl ?_⟩
    refine ⟨_, rfl, p, _, _, _, rfl, rfl, SqT.of hN, rfl, by show (3 : Nat) ≤ sizeLine; decide, fun b hb => ⟨_, _, rfl, .inr (SqT.of upd_same), rfl, rfl, _, rfl, ?_⟩⟩
    have s1 : Same H (upd H b (.tup [.str "both", .str "either", .str "but"])) := same_new hb
    rw [show inV (.str "both") [.str "both", .str "either", .str "but"] = true by decide]
    generalize upd H b (.tup [.str "both", .str "either", .str "but"]) = H1 at s1 ⊢
    refine iteT ⟨_, rfl, p, _, _, _, rfl, rfl, SqT.of (s1 _ _ hN), rfl, _, rfl, _, _, rfl, rfl, y, _, rfl, hm.kept (Kept.of s1), by omega, by omega, fun H2 a s2 ha hA => ?_⟩
    have s12 := s1.trans s2
    refine ⟨_, rfl, p, _, _, _, rfl, rfl, SqT.of (s12 _ _ hN), rfl, _, rfl, _, _, rfl, rfl, z, _, rfl, hn.kept (Kept.of s12), by omega, by omega, fun H4 c s3 hc hC => ?_⟩
    have s13 := s12.trans s3
    have hN4 := s13 _ _ hN
    refine ⟨_, rfl, p, _, _, _, rfl, rfl, SqT.of hN4, rfl, rfl, _, rfl, iteDT rfl ?_⟩
    refine ⟨_, rfl, _, rfl, fun x dx hx hd nd => ⟨x, dx, _, _, rfl, upd_same, rfl, ?_⟩⟩
    rw [upd_upd]
    have s5 : Same H4 (upd (upd H4 dx (.own x)) x (.ins (He.ga K "Both") dx [("one", .ref a), ("other", .ref c)])) := same_make (C := He.ga K "Both") hx hd nd
    exact q _ x (s13.trans s5) (s13.free hx) ⟨dx, a, c, upd_same, hA.kept (Kept.of (s3.trans s5)), hC.kept (Kept.of s5)⟩
theorem ok_made_either (T : Txt K mg) (m n : Nt) {d : Nat} (h3 : 3 ≤ d) (G1 : Ok P w K mg base d (He.ga K "made_at") ["told", "deep"] (spMade K m))
    (G2 : Ok P w K mg base d (He.ga K "made_at") ["told", "deep"] (spMade K n)) : Ok P w K mg base (d + 1) (He.ga K "made_at") ["told", "deep"] (spMade K (.either m n)) := by
  refine def_made_at T (fun vs H Q E h => ?_) (fun cdv A outer s H vs Q E hr h => ?_)
  · obtain ⟨p, dp, rfl, _⟩ := h; rfl
  · obtain ⟨p, dp, rfl, hN0, d1, d2, q⟩ := h
    obtain ⟨t1, hD⟩ := T.int_DEEP
    refine ⟨_, pss_cons (ps_if (PW.pt (pw_or (pt_cmpR op_gt (pv 1) (pe_glob (v := .int 5) (by rfl) hD ⟨_, rfl⟩) (nomark _))
        (pw_or (pt_not (pt_val (pe_callB call_isi (by rfl) T.no_isinstance (by decide +kernel) (pa_cons (pv 0) (pa_cons (pe_bltn (v := .ty "tuple") (by rfl) T.no_tuple (by decide +kernel) rfl) pa_nil)))))
        (pw_or (pt_cmpR op_eq (pe_callB call_len_seq (by rfl) T.no_len PySem.boot_len (pa_cons (pv 0) pa_nil)) pe_int (nomark _))
        (pw_or1 (pt_not (pt_val (pe_callB call_isi (by rfl) T.no_isinstance (by decide +kernel) (pa_cons (pe_ix ix_tup (pv 0) pe_int (fun _ _ => rfl)) (pa_cons (pe_bltn (v := .ty "str") (by rfl) T.no_str (by decide +kernel) rfl) pa_nil))))))))))
        (pss_one ps_never) pss_nil)
      (pss_cons (ps_if (PW.pt (pw_and (pt_cmpR op_eq (pe_callB call_len_seq (by rfl) T.no_len PySem.boot_len (pa_cons (pv 0) pa_nil)) pe_int (nomark _)) (pw_and1 (pt_cmpR op_in_seq (pe_ix ix_tup (pv 0) pe_int (fun _ _ => rfl)) (pe_tup (pa_cons pe_str (pa_cons pe_str (pa_cons pe_str pa_nil)))) (by rfl)))))
        (pss_cons (ps_set (i := 2) sc_made_at.nd rfl (.inl rfl) (pe_callO G1 (hr.mono (by omega)) (by rfl) T.mg_made_at (pa_cons (pe_ix ix_tup (pv 0) pe_int (fun _ _ => rfl)) (pa_cons (pe_op op_add (pv 1) pe_int) pa_nil))))
          (pss_cons (ps_set (i := 3) sc_made_at.nd rfl (.inl rfl) (pe_callO G2 (hr.mono (by omega)) (by rfl) T.mg_made_at (pa_cons (pe_ix ix_tup (pv 0) pe_int (fun _ _ => rfl)) (pa_cons (pe_op op_add (pv 1) pe_int) pa_nil))))
          (pss_cons (ps_if (pt_cmpR op_eq (pe_ix ix_tup (pv 0) pe_int (fun _ _ => rfl)) pe_str (nomark _)) (pss_one (ps_ret (pe_makeO T.mk_Both (ok_Both_init T) (hr.mono (by omega)) (by rfl) T.mg_Both (pa_cons (pv 2) (pa_cons (pv 3) pa_nil))))) pss_nil)
          (pss_cons (ps_if (pt_cmpR op_eq (pe_ix ix_tup (pv 0) pe_int (fun _ _ => rfl)) pe_str (nomark _)) (pss_one (ps_ret (pe_makeO T.mk_Either (ok_Either_init T) (hr.mono (by omega)) (by rfl) T.mg_Either (pa_cons (pv 2) (pa_cons (pv 3) pa_nil))))) pss_nil)
          (pss_one (ps_ret (pe_makeO T.mk_But (ok_But_init T) (hr.mono (by omega)) (by rfl) T.mg_But (pa_cons (pv 2) (pa_cons (pv 3) pa_nil))))))))) pss_nil)
      (pss_cons (ps_set (i := 4) sc_made_at.nd rfl (.inl rfl) (pe_callO (ok_plain_of T (.any)) (hr.mono (by omega)) (by rfl) T.mg_plain_of (pa_cons (pv 0) pa_nil)))
      (pss_cons (ps_if (pt_cmpR op_isN (pv 4) pe_non (nomark _)) (pss_one ps_never) pss_nil)
      (pss_one (ps_ret (pv 4)))))), ?_⟩
    have dpos : (Nt.either m n).depth = 1 + max m.depth n.depth := rfl
    have dm := m.depth_pos
    obtain ⟨y, z, hN, hm, hn⟩ := hN0
    refine ⟨_, rfl, _, _, rfl, rfl, _, rfl, iteDF (by omega) ?_⟩
    refine ⟨_, rfl, _, _, _, _, true, rfl, .ty _, .base (.tup hN), kit_ty (by decide +kernel), _, rfl, iteF ?_⟩
    refine ⟨_, rfl, p, _, rfl, .inr (SqT.of hN), rfl, _, rfl, iteDF (by intro z; have := V.int.inj z; rw [List.length_cons] at this; omega) ?_⟩
    refine ⟨_, rfl, p, _, _, _, rfl, rfl, SqT.of hN, atI_nat (j := 0) rfl, _, _, _, _, true, rfl, .ty _, .base (.str _), kit_ty (by decide +kernel), _, rfl, iteF ?_⟩
    refine ⟨_, rfl, p, _, rfl, .inr (SqT.of hN), rfl, _, rfl, iteDT rfl ?_⟩
    refine ⟨_, rfl, p, _, _, _, rfl, rfl, SqT.of hN, rfl, by show (3 : Nat) ≤ sizeLine; decide, fun b hb => ⟨_, _, rfl, .inr (SqT.of upd_same), rfl, rfl, _, rfl, ?_⟩⟩
    have s1 : Same H (upd H b (.tup [.str "both", .str "either", .str "but"])) := same_new hb
    rw [show inV (.str "either") [.str "both", .str "either", .str "but"] = true by decide]
    generalize upd H b (.tup [.str "both", .str "either", .str "but"]) = H1 at s1 ⊢
    refine iteT ⟨_, rfl, p, _, _, _, rfl, rfl, SqT.of (s1 _ _ hN), rfl, _, rfl, _, _, rfl, rfl, y, _, rfl, hm.kept (Kept.of s1), by omega, by omega, fun H2 a s2 ha hA => ?_⟩
    have s12 := s1.trans s2
    refine ⟨_, rfl, p, _, _, _, rfl, rfl, SqT.of (s12 _ _ hN), rfl, _, rfl, _, _, rfl, rfl, z, _, rfl, hn.kept (Kept.of s12), by omega, by omega, fun H4 c s3 hc hC => ?_⟩
    have s13 := s12.trans s3
    have hN4 := s13 _ _ hN
    refine ⟨_, rfl, p, _, _, _, rfl, rfl, SqT.of hN4, rfl, rfl, _, rfl, iteDF (strNe (by decide)) ?_⟩
    refine ⟨_, rfl, p, _, _, _, rfl, rfl, SqT.of hN4, rfl, rfl, _, rfl, iteDT rfl ?_⟩
    refine ⟨_, rfl, _, rfl, fun x dx hx hd nd => ⟨x, dx, _, _, rfl, upd_same, rfl, ?_⟩⟩
    rw [upd_upd]
    have s5 : Same H4 (upd (upd H4 dx (.own x)) x (.ins (He.ga K "Either") dx [("one", .ref a), ("other", .ref c)])) := same_make (C := He.ga K "Either") hx hd nd
    exact q _ x (s13.trans s5) (s13.free hx) ⟨dx, a, c, upd_same, hA.kept (Kept.of (s3.trans s5)), hC.kept (Kept.of s5)⟩
theorem ok_made_but (T : Txt K mg) (m n : Nt) {d : Nat} (h3 : 3 ≤ d) (G1 : Ok P w K mg base d (He.ga K "made_at") ["told", "deep"] (spMade K m))
    (G2 : Ok P w K mg base d (He.ga K "made_at") ["told", "deep"] (spMade K n)) : Ok P w K mg base (d + 1) (He.ga K "made_at") ["told", "deep"] (spMade K (.but m n)) := by
  refine def_made_at T (fun vs H Q E h => ?_) (fun cdv A outer s H vs Q E hr h => ?_)
  · obtain ⟨p, dp, rfl, _⟩ := h; rfl
  · obtain ⟨p, dp, rfl, hN0, d1, d2, q⟩ := h
    obtain ⟨t1, hD⟩ := T.int_DEEP
    refine ⟨_, pss_cons (ps_if (PW.pt (pw_or (pt_cmpR op_gt (pv 1) (pe_glob (v := .int 5) (by rfl) hD ⟨_, rfl⟩) (nomark _))
        (pw_or (pt_not (pt_val (pe_callB call_isi (by rfl) T.no_isinstance (by decide +kernel) (pa_cons (pv 0) (pa_cons (pe_bltn (v := .ty "tuple") (by rfl) T.no_tuple (by decide +kernel) rfl) pa_nil)))))
        (pw_or (pt_cmpR op_eq (pe_callB call_len_seq (by rfl) T.no_len PySem.boot_len (pa_cons (pv 0) pa_nil)) pe_int (nomark _))
        (pw_or1 (pt_not (pt_val (pe_callB call_isi (by rfl) T.no_isinstance (by decide +kernel) (pa_cons (pe_ix ix_tup (pv 0) pe_int (fun _ _ => rfl)) (pa_cons (pe_bltn (v := .ty "str") (by rfl) T.no_str (by decide +kernel) rfl) pa_nil))))))))))
        (pss_one ps_never) pss_nil)
      (pss_cons (ps_if (PW.pt (pw_and (pt_cmpR op_eq (pe_callB call_len_seq (by rfl) T.no_len PySem.boot_len (pa_cons (pv 0) pa_nil)) pe_int (nomark _)) (pw_and1 (pt_cmpR op_in_seq (pe_ix ix_tup (pv 0) pe_int (fun _ _ => rfl)) (pe_tup (pa_cons pe_str (pa_cons pe_str (pa_cons pe_str pa_nil)))) (by rfl)))))
        (pss_cons (ps_set (i := 2) sc_made_at.nd rfl (.inl rfl) (pe_callO G1 (hr.mono (by omega)) (by rfl) T.mg_made_at (pa_cons (pe_ix ix_tup (pv 0) pe_int (fun _ _ => rfl)) (pa_cons (pe_op op_add (pv 1) pe_int) pa_nil))))
          (pss_cons (ps_set (i := 3) sc_made_at.nd rfl (.inl rfl) (pe_callO G2 (hr.mono (by omega)) (by rfl) T.mg_made_at (pa_cons (pe_ix ix_tup (pv 0) pe_int (fun _ _ => rfl)) (pa_cons (pe_op op_add (pv 1) pe_int) pa_nil))))
          (pss_cons (ps_if (pt_cmpR op_eq (pe_ix ix_tup (pv 0) pe_int (fun _ _ => rfl)) pe_str (nomark _)) (pss_one (ps_ret (pe_makeO T.mk_Both (ok_Both_init T) (hr.mono (by omega)) (by rfl) T.mg_Both (pa_cons (pv 2) (pa_cons (pv 3) pa_nil))))) pss_nil)
          (pss_cons (ps_if (pt_cmpR op_eq (pe_ix ix_tup (pv 0) pe_int (fun _ _ => rfl)) pe_str (nomark _)) (pss_one (ps_ret (pe_makeO T.mk_Either (ok_Either_init T) (hr.mono (by omega)) (by rfl) T.mg_Either (pa_cons (pv 2) (pa_cons (pv 3) pa_nil))))) pss_nil)
          (pss_one (ps_ret (pe_makeO T.mk_But (ok_But_init T) (hr.mono (by omega)) (by rfl) T.mg_But (pa_cons (pv 2) (pa_cons (pv 3) pa_nil))))))))) pss_nil)
      (pss_cons (ps_set (i := 4) sc_made_at.nd rfl (.inl rfl) (pe_callO (ok_plain_of T (.any)) (hr.mono (by omega)) (by rfl) T.mg_plain_of (pa_cons (pv 0) pa_nil)))
      (pss_cons (ps_if (pt_cmpR op_isN (pv 4) pe_non (nomark _)) (pss_one ps_never) pss_nil)
      (pss_one (ps_ret (pv 4)))))), ?_⟩
    have dpos : (Nt.but m n).depth = 1 + max m.depth n.depth := rfl
    have dm := m.depth_pos
    obtain ⟨y, z, hN, hm, hn⟩ := hN0
    refine ⟨_, rfl, _, _, rfl, rfl, _, rfl, iteDF (by omega) ?_⟩
    refine ⟨_, rfl, _, _, _, _, true, rfl, .ty _, .base (.tup hN), kit_ty (by decide +kernel), _, rfl, iteF ?_⟩
    refine ⟨_, rfl, p, _, rfl, .inr (SqT.of hN), rfl, _, rfl, iteDF (by intro z; have := V.int.inj z; rw [List.length_cons] at this; omega) ?_⟩
    refine ⟨_, rfl, p, _, _, _, rfl, rfl, SqT.of hN, atI_nat (j := 0) rfl, _, _, _, _, true, rfl, .ty _, .base (.str _), kit_ty (by decide +kernel), _, rfl, iteF ?_⟩
    refine ⟨_, rfl, p, _, rfl, .inr (SqT.of hN), rfl, _, rfl, iteDT rfl ?_⟩
    refine ⟨_, rfl, p, _, _, _, rfl, rfl, SqT.of hN, rfl, by show (3 : Nat) ≤ sizeLine; decide, fun b hb => ⟨_, _, rfl, .inr (SqT.of upd_same), rfl, rfl, _, rfl, ?_⟩⟩
    have s1 : Same H (upd H b (.tup [.str "both", .str "either", .str "but"])) := same_new hb
    rw [show inV (.str "but") [.str "both", .str "either", .str "but"] = true by decide]
    generalize upd H b (.tup [.str "both", .str "either", .str "but"]) = H1 at s1 ⊢
    refine iteT ⟨_, rfl, p, _, _, _, rfl, rfl, SqT.of (s1 _ _ hN), rfl, _, rfl, _, _, rfl, rfl, y, _, rfl, hm.kept (Kept.of s1), by omega, by omega, fun H2 a s2 ha hA => ?_⟩
    have s12 := s1.trans s2
    refine ⟨_, rfl, p, _, _, _, rfl, rfl, SqT.of (s12 _ _ hN), rfl, _, rfl, _, _, rfl, rfl, z, _, rfl, hn.kept (Kept.of s12), by omega, by omega, fun H4 c s3 hc hC => ?_⟩
    have s13 := s12.trans s3
    have hN4 := s13 _ _ hN
    refine ⟨_, rfl, p, _, _, _, rfl, rfl, SqT.of hN4, rfl, rfl, _, rfl, iteDF (strNe (by decide)) ?_⟩
    refine ⟨_, rfl, p, _, _, _, rfl, rfl, SqT.of hN4, rfl, rfl, _, rfl, iteDF (strNe (by decide)) ?_⟩
    refine ⟨_, rfl, _, rfl, fun x dx hx hd nd => ⟨x, dx, _, _, rfl, upd_same, rfl, ?_⟩⟩
    rw [upd_upd]
    have s5 : Same H4 (upd (upd H4 dx (.own x)) x (.ins (He.ga K "But") dx [("one", .ref a), ("other", .ref c)])) := same_make (C := He.ga K "But") hx hd nd
    exact q _ x (s13.trans s5) (s13.free hx) ⟨dx, a, c, upd_same, hA.kept (Kept.of (s3.trans s5)), hC.kept (Kept.of s5)⟩
theorem ok_made_at (T : Txt K mg) : ∀ (n : Nt) {d : Nat}, n.depth + 3 ≤ d → Ok P w K mg base d (He.ga K "made_at") ["told", "deep"] (spMade K n)
  | .any, _, h => (ok_made_leaf T .any rfl).mono (by have : Nt.any.depth = 1 := rfl; omega)
  | .made x, _, h => (ok_made_leaf T (.made x) rfl).mono (by have : (Nt.made x).depth = 1 := rfl; omega)
  | .used x, _, h => (ok_made_leaf T (.used x) rfl).mono (by have : (Nt.used x).depth = 1 := rfl; omega)
  | .chief x, _, h => (ok_made_leaf T (.chief x) rfl).mono (by have : (Nt.chief x).depth = 1 := rfl; omega)
  | .over j k, _, h => (ok_made_leaf T (.over j k) rfl).mono (by have : (Nt.over j k).depth = 1 := rfl; omega)
  | .both m n, _, h => (ok_made_both T m n (d := 3 + max m.depth n.depth) (by omega) (ok_made_at T m (by omega)) (ok_made_at T n (by omega))).mono (by have : (Nt.both m n).depth = 1 + max m.depth n.depth := rfl; omega)
  | .either m n, _, h => (ok_made_either T m n (d := 3 + max m.depth n.depth) (by omega) (ok_made_at T m (by omega)) (ok_made_at T n (by omega))).mono (by have : (Nt.either m n).depth = 1 + max m.depth n.depth := rfl; omega)
  | .but m n, _, h => (ok_made_but T m n (d := 3 + max m.depth n.depth) (by omega) (ok_made_at T m (by omega)) (ok_made_at T n (by omega))).mono (by have : (Nt.but m n).depth = 1 + max m.depth n.depth := rfl; omega)
def spNote (K : PySem.W.Frag) : Sp := fun vs H Q _ => ∃ (p : Addr) (n : Nt), vs = [.ref p] ∧ TN H n p ∧ n.depth ≤ 5 ∧ spNoted K n H Q
theorem ok_note_of (T : Txt K mg) : Ok P w K mg base 9 (He.ga K "note_of") ["told"] (spNote K) := by
  refine def_note_of T (fun vs H Q E h => ?_) (fun cdv A outer s H vs Q E hr h => ?_)
  · obtain ⟨p, n, rfl, _⟩ := h; rfl
  · obtain ⟨p, n, rfl, hN, hd, q⟩ := h
    refine ⟨_, pss_one (ps_ret (pe_callO (ok_made_at T n (by omega)) hr (by rfl) T.mg_made_at (pa_cons (pv 0) (pa_cons pe_int pa_nil)))), ?_⟩
    exact ⟨_, rfl, p, 1, rfl, hN, by decide, by omega, q⟩
end
end K43
set_option Elab.async false
set_option linter.all false
set_option maxRecDepth 100000
set_option maxHeartbeats 4000000
namespace K43
open PySem PySem.Spec PyProof.Rows L2
/-! ### rows of a tree -/
structure Rw where
  ns : List Int
  nt : Nt
  rule : Str
def RwAt (H : Hp) (p : Addr) (r : Rw) : Prop := ∃ x y : Addr, H p = some (.tup [.ref x, .ref y, .str r.rule]) ∧ H x = some (.tup (r.ns.map V.int)) ∧ TN H r.nt y
def RuleOk (x : Str) : Prop := x = "one" ∨ x = "near"
def RwOk (r : Rw) : Prop := NumOk r.ns ∧ r.ns ≠ [] ∧ RuleOk r.rule ∧ r.nt.depth ≤ 5
theorem RwAt.kept {H H' : Hp} {p : Addr} {r : Rw} (h : RwAt H p r) (s : Kept H H') : RwAt H' p r := by
  obtain ⟨x, y, h1, h2, h3⟩ := h
  exact ⟨x, y, s _ _ h1 rfl, s _ _ h2 rfl, h3.kept s⟩
theorem RwAt.keep {H H' : Hp} {p : Addr} {r : Rw} (h : RwAt H p r) (s : Same H H') : RwAt H' p r := h.kept (Kept.of s)
/-! ### tables by number -/
def nk (ns : List Int) : List L2.Key := ns.map Sum.inl
theorem nk_map (ns : List Int) : (nk ns).map kV = ns.map V.int := by
  unfold nk
  rw [List.map_map]
  rfl
theorem nk_inj {a b : List Int} (h : nk a = nk b) : a = b := (List.map_inj_right fun _ _ e => Sum.inl.inj e).mp h
abbrev Tab (F : V → Rw → Prop) : List (List L2.Key × V) → List Rw → Prop := Paired fun kv r => kv.1 = nk r.ns ∧ F kv.2 r
theorem Tab.mono {F G : V → Rw → Prop} {kvs : List (List L2.Key × V)} {rs : List Rw} (h : Tab F kvs rs) (g : ∀ v r, F v r → G v r) : Tab G kvs rs := Paired.mapP h fun _ _ z => ⟨z.1, g _ _ z.2⟩
theorem Tab.no {F : V → Rw → Prop} {kvs : List (List L2.Key × V)} {rs : List Rw} (h : Tab F kvs rs) {ns : List Int} : (∀ r ∈ rs, r.ns ≠ ns) → valV kvs (nk ns) = none := by
  induction h with
  | nil => intro _; rfl
  | @cons p r kvs rs z t ih =>
    intro g
    have e : ¬ p.1 = nk ns := fun e => g r List.mem_cons_self (nk_inj (z.1.symm.trans e))
    rw [valV_neg e]
    exact ih fun q hq => g q (List.mem_cons_of_mem _ hq)
theorem Tab.has {F : V → Rw → Prop} {kvs : List (List L2.Key × V)} {rs : List Rw} (h : Tab F kvs rs) {r : Rw} : (rs.map (·.ns)).Nodup → r ∈ rs → ∃ v, valV kvs (nk r.ns) = some v ∧ F v r := by
  induction h with
  | nil => intro _ g; cases g
  | @cons p q kvs rs z t ih =>
    intro nd g
    obtain ⟨n1, n2⟩ := List.nodup_cons.mp nd
    rcases List.mem_cons.mp g with e | g
    · subst e
      exact ⟨p.2, valV_pos z.1, z.2⟩
    · have e : ¬ p.1 = nk r.ns := fun e => n1 (by
        have e2 := nk_inj (z.1.symm.trans e)
        show q.ns ∈ _
        rw [e2]
        exact List.mem_map_of_mem (f := (·.ns)) g)
      obtain ⟨v, hv, hF⟩ := ih n2 g
      exact ⟨v, by rw [valV_neg e]; exact hv, hF⟩
theorem Tab.snoc {F : V → Rw → Prop} {kvs : List (List L2.Key × V)} {rs : List Rw} (h : Tab F kvs rs) {r : Rw} {v : V} (g : ∀ q ∈ rs, q.ns ≠ r.ns) (hF : F v r) : Tab F (putK kvs (nk r.ns) v) (rs ++ [r]) := by
  rw [putK_new v (h.no g)]
  exact paired_app h (.cons ⟨rfl, hF⟩ .nil)
theorem Tab.len {F : V → Rw → Prop} {kvs : List (List L2.Key × V)} {rs : List Rw} (h : Tab F kvs rs) : kvs.length = rs.length := Paired.length h
theorem Tab.at_ {F : V → Rw → Prop} {kvs : List (List L2.Key × V)} {rs : List Rw} (h : Tab F kvs rs) {i : Nat} {k : List L2.Key} {v : V} (e : kvs[i]? = some (k, v)) : ∃ r, rs[i]? = some r ∧ k = nk r.ns ∧ F v r := by
  obtain ⟨r, h1, h2, h3⟩ := paired_at h e
  exact ⟨r, h1, h2, h3⟩
theorem fresh_ns {rs : List Rw} {i : Nat} {r : Rw} (nd : (rs.map (·.ns)).Nodup) (h : rs[i]? = some r) : ∀ q ∈ rs.take i, q.ns ≠ r.ns := by
  intro q hq e
  obtain ⟨j, hj, ej⟩ := List.mem_take_iff_getElem.mp hq
  have h1 : j < i := by omega
  obtain ⟨hi, ei⟩ := List.getElem?_eq_some_iff.mp h
  have hl : (rs.map (·.ns)).length = rs.length := List.length_map ..
  have e2 : (rs.map (·.ns))[j]'(by rw [hl]; omega) = (rs.map (·.ns))[i]'(by rw [hl]; exact hi) := by rw [List.getElem_map, List.getElem_map, ej, ei, e]
  have := (List.getElem_inj nd).mp e2
  omega
section
variable {P : Program} {w : World} {K : PySem.W.Frag} {mg : Str → Option Value} {base : Heap}
theorem inV_rule {x : Str} (h : RuleOk x) : inV (.str x) [.str "one", .str "near"] = true := by
  rcases h with rfl | rfl <;> decide
def spIsRow : Sp := fun vs H Q _ => ∃ (p : Addr) (r : Rw), vs = [.ref p] ∧ RwAt H p r ∧ RwOk r ∧ ∀ H', Same H H' → Q (.bl true) H'
theorem ok_is_row (T : Txt K mg) : Ok P w K mg base 4 (He.ga K "is_row") ["row"] spIsRow := by
  obtain ⟨t1, hO⟩ := T.str_ONE
  obtain ⟨t2, hNr⟩ := T.str_NEAR
  refine def_is_row T (fun vs H Q E h => ?_) (fun cdv A outer s H vs Q E hr h => ?_)
  · obtain ⟨p, r, rfl, _⟩ := h; rfl
  · obtain ⟨p, r, rfl, ⟨x, y, hp, hx, hy⟩, ⟨o1, o2, o3, o4⟩, q⟩ := h
    refine ⟨_, pss_one (ps_ret (pe_and (pe_callB call_isi (by rfl) T.no_isinstance (by decide +kernel) (pa_cons (pv 0) (pa_cons (pe_bltn (v := .ty "tuple") (by rfl) T.no_tuple (by decide +kernel) rfl) pa_nil)))
      (pe_and (pe_cmpR op_eq (pe_callB call_len_seq (by rfl) T.no_len PySem.boot_len (pa_cons (pv 0) pa_nil)) pe_int (nomark _))
      (pe_and (pe_callO (ok_is_number T) hr (by rfl) T.mg_is_number (pa_cons (pe_ix ix_tup (pv 0) pe_int (fun _ _ => rfl)) pa_nil))
      (pe_one (pe_cmpR op_in_seq (pe_ix ix_tup (pv 0) pe_int (fun _ _ => rfl)) (pe_tup (pa_cons (pe_glob (v := .str "one") (by rfl) hO ⟨_, rfl⟩) (pa_cons (pe_glob (v := .str "near") (by rfl) hNr ⟨_, rfl⟩) pa_nil))) (by rfl))))))), ?_⟩
    refine ⟨_, rfl, _, _, _, _, true, rfl, .ty _, .base (.tup hp), kit_ty (by decide +kernel), _, rfl, iteT ?_⟩
    refine ⟨_, rfl, p, _, rfl, .inr (SqT.of hp), rfl, _, rfl, iteDT rfl ?_⟩
    refine ⟨_, rfl, p, _, _, _, rfl, rfl, SqT.of hp, rfl, x, r.ns, rfl, hx, o1, o2, _, rfl, iteT ?_⟩
    refine ⟨_, rfl, p, _, _, _, rfl, rfl, SqT.of hp, rfl, by show (2 : Nat) ≤ sizeLine; decide, fun b hb => ⟨_, _, rfl, .inr (SqT.of upd_same), rfl, rfl, ?_⟩⟩
    have s1 : Same H (upd H b (.tup [.str "one", .str "near"])) := same_new hb
    show Q (.bl (inV (.str r.rule) [.str "one", .str "near"])) _
    rw [inV_rule o3]
    exact q _ s1
structure Rws (H : Hp) (a : Addr) (ps : List Addr) (rs : List Rw) : Prop where
  lst : H a = some (.lst (ps.map V.ref))
  at_ : Paired (RwAt H) ps rs
  ok : ∀ r ∈ rs, RwOk r
  nd : (rs.map (·.ns)).Nodup
  up : ∀ r ∈ rs, 1 < r.ns.length → r.ns.dropLast ∈ rs.map (·.ns)
  lo : 1 ≤ rs.length
  hi : rs.length ≤ 24
def KnownV (H : Hp) (v : V) (r : Rw) : Prop := ∃ p, v = .ref p ∧ RwAt H p r
theorem KnownV.kept {H H' : Hp} {v : V} {r : Rw} (h : KnownV H v r) (s : Kept H H') : KnownV H' v r := by
  obtain ⟨p, e, h⟩ := h
  exact ⟨p, e, h.kept s⟩
def spByNumber : Sp := fun vs H Q _ => ∃ (x : Str) (a : Addr) (ps : List Addr) (rs : List Rw), vs = [.str x, .ref a] ∧ RuleOk x ∧ Rws H a ps rs ∧
  ∀ (H' : Hp) (b : Addr) (kvs : List (List L2.Key × V)), Same H H' → H b = none → H' b = some (.dT kvs) → Tab (KnownV H') kvs rs → Q (.ref b) H'
theorem small_dict {n : Nat} (h : n ≤ 24) : n < sizeLine := by
  have : (24 : Nat) < sizeLine := by decide
  omega
theorem sIx_last (n : Nat) : HT.sIx n n (some (-1)) = n - 1 := by
  show (if (-1 : Int) < 0 then ((-1 : Int) + (n : Int)).toNat else min (-1 : Int).toNat n) = n - 1
  rw [if_pos (by decide)]
  omega
theorem cut_last (ns : List Int) : cutV (ns.map V.int) none (some (-1)) = ns.dropLast.map V.int := by
  unfold cutV
  have e1 : HT.sIx (ns.map V.int).length 0 none = 0 := rfl
  have e2 : HT.sIx (ns.map V.int).length (ns.map V.int).length (some (-1)) = ns.length - 1 := by
    rw [List.length_map]
    exact sIx_last _
  rw [e1, e2, List.drop_zero, Nat.sub_zero, ← List.map_take, List.dropLast_eq_take]
theorem ok_rows_by_number (T : Txt K mg) : Ok P w K mg base 5 (He.ga K "rows_by_number") ["rule", "rows"] spByNumber := by
  obtain ⟨t1, hO⟩ := T.str_ONE
  obtain ⟨t2, hNr⟩ := T.str_NEAR
  obtain ⟨t3, hRo⟩ := T.int_ROWS
  refine def_rows_by_number T (fun vs H Q E h => ?_) (fun cdv A outer s H vs Q E hr h => ?_)
  · obtain ⟨x, a, ps, rs, rfl, _⟩ := h; rfl
  · obtain ⟨x, a, ps, rs, rfl, hx, D, q⟩ := h
    have hlen : ps.length = rs.length := Paired.length D.at_
    have hlo := D.lo
    have hhi := D.hi
    refine ⟨_, pss_cons (ps_if (PW.pt (pw_or (pt_cmpR op_notIn_seq (pv 0) (pe_tup (pa_cons (pe_glob (v := .str "one") (by rfl) hO ⟨_, rfl⟩) (pa_cons (pe_glob (v := .str "near") (by rfl) hNr ⟨_, rfl⟩) pa_nil))) (by rfl))
        (pw_or (pt_not (pt_val (pe_callB call_isi (by rfl) T.no_isinstance (by decide +kernel) (pa_cons (pv 1) (pa_cons (pe_bltn (v := .ty "list") (by rfl) T.no_list (by decide +kernel) rfl) pa_nil)))))
        (pw_or1 (pt_not (pt_chain op_le op_le pe_int (pe_callB call_len_seq (by rfl) T.no_len PySem.boot_len (pa_cons (pv 1) pa_nil)) (pe_glob (v := .int 24) (by rfl) hRo ⟨_, rfl⟩)))))))
        (pss_one ps_never) pss_nil)
      (pss_cons (ps_set (i := 2) sc_rows_by_number.nd rfl (.inl rfl) pe_dnewT)
      (pss_cons (ps_for PassesOwn.never rfl (pi_list (pv 1)) (pg_name (i := 3) sc_rows_by_number.nd rfl (.inl rfl))
        (pss_cons (ps_if (PW.pt (pw_or (pt_not (pt_val (pe_callO (ok_is_row T) hr (by rfl) T.mg_is_row (pa_cons (pv 3) pa_nil))))
          (pw_or1 (pt_cmp (pc_din (hu_of hr) (pe_ix ix_tup (pv 3) pe_int (fun _ _ => rfl)) (pv 2)))))) (pss_one ps_never) pss_nil)
        (pss_one (ps_dput (hu_of hr) (pv 2) (pe_ix ix_tup (pv 3) pe_int (fun _ _ => rfl)) (pv 3) (by rfl)))))
      (pss_cons (ps_lock (ps_for PassesOwn.never rfl (pi_keys (pv 2)) (pg_name (i := 4) sc_rows_by_number.nd rfl (.inl rfl))
        (pss_one (ps_if (PW.pt (pw_and (pt_cmpR op_gt (pe_callB call_len_seq (by rfl) T.no_len PySem.boot_len (pa_cons (pv 4) pa_nil)) pe_int (nomark _))
          (pw_and1 (pt_cmp (pc_dnotin (hu_of hr) (pe_slice sl_tupA (pv 4) po_none (po_some (pe_un un_neg pe_int))) (pv 2)))))) (pss_one ps_never) pss_nil))))
      (pss_one (ps_ret (pv 2)))))), ?_⟩
    refine ⟨_, rfl, by show (2 : Nat) ≤ sizeLine; decide, fun b0 hb0 => ⟨_, _, rfl, .inr (SqT.of upd_same), rfl, rfl, _, rfl, ?_⟩⟩
    have s0 : Same H (upd H b0 (.tup [.str "one", .str "near"])) := same_new hb0
    show if (!inV (.str x) [.str "one", .str "near"]) = true then _ else _
    rw [inV_rule hx]
    generalize upd H b0 (.tup [.str "one", .str "near"]) = H0 at s0 ⊢
    refine iteF ?_
    refine ⟨_, rfl, _, _, _, _, true, rfl, .ty _, .base (.lst (s0 _ _ D.lst)), kit_ty (by decide +kernel), _, rfl, iteF ?_⟩
    refine ⟨_, rfl, a, _, rfl, .inl (SqL.of (s0 _ _ D.lst)), _, _, rfl, rfl, _, rfl, iteDT (by rw [List.length_map]; omega) ⟨_, _, rfl, rfl, _, rfl, ?_⟩⟩
    rw [decide_eq_true (show ((ps.map V.ref).length : Int) ≤ 24 by rw [List.length_map]; omega)]
    refine iteF fun b hb => ?_
    have hbH : H b = none := s0.free hb
    refine ⟨_, rfl, a, rfl, ⟨_, SqL.of (same_upd s0 hbH _ _ D.lst)⟩, for_it (walk_list (xs := ps.map V.ref))
      (fun i σ' H' => Same H H' ∧ (∃ kvs, H' b = some (.dT kvs) ∧ Tab (KnownV H') kvs (rs.take i)) ∧ ∃ v, σ' = [some (.str x), some (.ref a), some (.ref b), v, none]) ⟨same_upd s0 hbH, ⟨[], upd_same, by rw [List.take_zero]; exact .nil⟩, _, rfl⟩ ?_ ?_ ?_⟩
    · rintro i σ' H' _ ⟨s1, _⟩
      exact SqL.of (s1 _ _ D.lst)
    · rintro i v σ' H1 H2 hi ⟨s1, ⟨kvs, hB, hT⟩, v', rfl⟩ ⟨rfl, hv⟩
      obtain ⟨p, hp, rfl⟩ := map_at hv
      obtain ⟨r, hr', hpr⟩ := paired_at D.at_ hp
      have hm := List.mem_of_getElem? hr'
      have fr := fresh_ns D.nd hr'
      refine ⟨_, rfl, p, r, rfl, hpr.keep s1, D.ok r hm, fun H3 s3 => ⟨_, rfl, iteF ?_⟩⟩
      have hT3 : Tab (KnownV H3) kvs (rs.take i) := hT.mono fun _ _ z => z.kept (Kept.of s3)
      have hpr3 := (hpr.keep s1).keep s3
      obtain ⟨x1, y1, e1, e2, e3⟩ := hpr3
      have ek : H3 x1 = some (.tup ((nk r.ns).map kV)) := by rw [nk_map]; exact e2
      refine ⟨_, rfl, p, _, _, _, rfl, rfl, SqT.of e1, rfl, _, rfl, b, none, rfl, ?_, _, rfl, iteF ?_⟩
      · have g := DGet.t (s3 _ _ hB) ek
        rw [hT3.no fr] at g
        exact g
      · have hlt : kvs.length ≤ 24 := by
          have h1 := hT.len
          rw [List.length_take] at h1
          omega
        refine ⟨_, rfl, _, rfl, _, rfl, p, _, _, _, rfl, rfl, SqT.of e1, rfl, b, _, rfl, DPut.t (s3 _ _ hB) ek (small_dict hlt), ?_⟩
        have k4 : Kept H3 (upd H3 b (.dT (putK kvs (nk r.ns) (.ref p)))) := kept_upd (Kept.refl H3) (s3 _ _ hB) rfl
        refine ⟨same_upd (s1.trans s3) hbH, ⟨_, upd_same, ?_⟩, _, rfl⟩
        rw [take_next hr']
        exact (hT3.snoc fr ⟨p, rfl, x1, y1, e1, e2, e3⟩).mono fun _ _ z => z.kept k4
    · rintro σ' H1 ⟨s1, ⟨kvs, hB, hT⟩, v', rfl⟩
      rw [List.length_map, hlen, list_end] at hT
      have back : Same H1 (upd H1 b (.dT kvs)) := fun c u e => by
        by_cases hc : c = b
        · subst hc; rw [upd_same, ← hB, e]
        · rw [upd_ne hc]; exact e
      refine ⟨b, .dT kvs, hB, trivial, fun od => ⟨_, rfl, b, od, rfl, .inr ⟨kvs, upd_same, for_it walk_keysT
        (fun i σ' H' => H' b = some (.frz od (.dT kvs)) ∧ Same H (upd H' b (.dT kvs)) ∧ Same H1 (upd H' b (.dT kvs)) ∧ ∃ v, σ' = [some (.str x), some (.ref a), some (.ref b), v', v]) ⟨upd_same, by rw [upd_upd]; exact same_upd s1 hbH, by rw [upd_upd]; exact back, _, rfl⟩ ?_ ?_ ?_⟩⟩⟩
      · rintro i σ' H' _ ⟨e, _⟩
        exact e
      · rintro i v σ' H2 H3 hi ⟨hF, s2, s3, v2, rfl⟩ ⟨rfl, k, u, c, hk, rfl, hc⟩
        obtain ⟨r, hr', rfl, _⟩ := hT.at_ hk
        have hm := List.mem_of_getElem? hr'
        rw [nk_map] at hc
        refine ⟨_, rfl, c, _, rfl, .inr (SqT.of hc), _, _, rfl, rfl, _, rfl, ?_⟩
        by_cases h1 : 1 < r.ns.length
        · refine iteDT (by rw [List.length_map]; omega) ?_
          have hup := D.up r hm h1
          obtain ⟨r2, hr2, en⟩ := List.mem_map.mp hup
          obtain ⟨v3, hv3, _⟩ := hT.has D.nd hr2
          refine ⟨_, rfl, _, rfl, _, rfl, c, _, rfl, SqT.of hc, fun hw => ?_, fun _ c2 hc2 => ?_⟩
          · exfalso
            have := hw.2
            rw [List.length_map, sIx_last] at this
            omega
          · have nb : b ≠ c2 := ne_of_none hF hc2
            refine ⟨_, rfl, b, some v3, rfl, .inr ⟨kvs, nk r2.ns, c2, .inr ⟨od, by rw [upd_ne nb]; exact hF⟩, rfl, ?_, hv3.symm⟩, _, rfl, iteF ⟨?_, ?_, ?_, _, rfl⟩⟩
            · rw [upd_same, nk_map, en]
              show some (HO.tup (cutV (r.ns.map V.int) none (some (-1)))) = _
              rw [cut_last]
            · rw [upd_ne nb]; exact hF
            · intro d o e
              by_cases hd : d = b
              · subst hd; rw [upd_same]; have := s2 _ _ e; rw [upd_same] at this; exact this
              · rw [upd_ne hd]
                have e2 := s2 _ _ e
                rw [upd_ne hd] at e2
                rw [upd_ne (ne_of_none e2 hc2)]
                exact e2
            · intro d o e
              by_cases hd : d = b
              · subst hd; rw [upd_same]; have := s3 _ _ e; rw [upd_same] at this; exact this
              · rw [upd_ne hd]
                have e2 := s3 _ _ e
                rw [upd_ne hd] at e2
                rw [upd_ne (ne_of_none e2 hc2)]
                exact e2
        · refine iteDF (by rw [List.length_map]; omega) ?_
          exact iteF ⟨hF, s2, s3, _, rfl⟩
      · rintro σ' H2 ⟨hF, s2, s3, v2, rfl⟩
        refine ⟨hF, ?_⟩
        exact ⟨_, rfl, q _ b kvs s2 hbH upd_same (hT.mono fun _ _ z => z.kept (Kept.of s3))⟩
end
end K43
set_option Elab.async false
set_option linter.all false
set_option maxRecDepth 100000
set_option maxHeartbeats 4000000
namespace K43
open PySem PySem.Spec PyProof.Rows L2
/-! ### the tree -/
noncomputable def countL (ks : List Kd) (n : Nt) : Int := (((looksL ks.length).countP fun lk => claimsL ks lk n : Nat) : Int)
def CountV (ks : List Kd) (v : V) (r : Rw) : Prop := v = .int (countL ks r.nt)
def NoteV (K : PySem.W.Frag) (H : Hp) (v : V) (r : Rw) : Prop := ∃ p, v = .ref p ∧ ON K H r.nt p
theorem NoteV.kept {K : PySem.W.Frag} {H H' : Hp} {v : V} {r : Rw} (h : NoteV K H v r) (s : Kept H H') : NoteV K H' v r := by
  obtain ⟨p, e, h⟩ := h
  exact ⟨p, e, h.kept s⟩
def soft : HO → Bool
  | .lst _ => false
  | .tup _ => false
  | _ => true
theorem soft_ne {H : Hp} {a n : Addr} {o u : HO} (h : H a = some o) (ho : soft o = false) (e : H n = some u) (hu : soft u = true) : a ≠ n :=
  ne_of h e (by intro z; rw [z, hu] at ho; cases ho)
theorem Kds.put {K : PySem.W.Frag} {H : Hp} {a n : Addr} {ps : List Addr} {ks : List Kd} {u v : HO} (h : Kds K H a ps ks) (e : H n = some u) (hu : soft u = true) : Kds K (upd H n v) a ps ks :=
  ⟨by rw [upd_ne (soft_ne h.lst rfl e hu)]; exact h.lst, Paired.mapP h.at_ fun p k r => by show upd H n v p = _; rw [upd_ne (soft_ne r rfl e hu)]; exact r, h.ok, h.nd, h.lo, h.hi⟩
theorem RowsV.put {H : Hp} {n : Addr} {xs : List V} {rs : List (List Int)} {u v : HO} (h : RowsV H xs rs) (e : H n = some u) (hu : soft u = true) : RowsV (upd H n v) xs rs :=
  Paired.mapP h fun _ _ ⟨p, q, r⟩ => ⟨p, q, by rw [upd_ne (soft_ne r rfl e hu)]; exact r⟩
theorem Rws.keep {H H' : Hp} {a : Addr} {ps : List Addr} {rs : List Rw} (h : Rws H a ps rs) (s : Same H H') : Rws H' a ps rs :=
  ⟨s _ _ h.lst, Paired.mapP h.at_ fun _ _ r => r.keep s, h.ok, h.nd, h.up, h.lo, h.hi⟩
theorem putK_len {kvs : List (List L2.Key × V)} {k : List L2.Key} {v : V} : (putK kvs k v).length ≤ kvs.length + 1 := by
  unfold putK
  split
  · rw [List.length_map]; omega
  · simp
/-- what is asked of a tree later on -/
def TreeL (K : PySem.W.Frag) (H : Hp) (t : Addr) (ks : List Kd) (rs : List Rw) : Prop := ∃ (dx co : Addr) (fs : List (Str × V)) (kvs : List (List L2.Key × V)),
  H t = some (.ins (He.ga K "Tree") dx fs) ∧ fs.lookup ("counted" : Str) = some (.ref co) ∧ fs.lookup ("looked" : Str) = none ∧ H co = some (.dT kvs) ∧ Tab (CountV ks) kvs rs ∧ (rs.map (·.ns)).Nodup
theorem TreeL.keep {K : PySem.W.Frag} {H H' : Hp} {t : Addr} {ks : List Kd} {rs : List Rw} (h : TreeL K H t ks rs) (s : Same H H') : TreeL K H' t ks rs := by
  obtain ⟨dx, co, fs, kvs, h1, h2, h3, h4, h5, h6⟩ := h
  exact ⟨dx, co, fs, kvs, s _ _ h1, h2, h3, s _ _ h4, h5, h6⟩
section
variable {P : Program} {w : World} {K : PySem.W.Frag} {mg : Str → Option Value} {base : Heap}
def spTreeClaims (K : PySem.W.Frag) : Sp := fun vs H Q _ => ∃ (t p l dx no o qn : Addr) (fs : List (Str × V)) (kvs : List (List L2.Key × V)) (ns : List Int) (n : Nt) (ps : List Addr) (ks : List Kd) (lk : List Int),
  vs = [.ref t, .ref p, .ref l] ∧ H t = some (.ins (He.ga K "Tree") dx fs) ∧ fs.lookup ("noted" : Str) = some (.ref no) ∧ fs.lookup ("order" : Str) = some (.ref o) ∧ H no = some (.dT kvs) ∧ valV kvs (nk ns) = some (.ref qn) ∧
  ON K H n qn ∧ n.depth ≤ 5 ∧ H p = some (.tup (ns.map V.int)) ∧ Kds K H o ps ks ∧ H l = some (.tup (lk.map V.int)) ∧ lk.length = ks.length ∧ Q (.bl (claimsL ks lk n)) H
theorem ok_Tree_claims (T : Txt K mg) : Ok P w K mg base 7 (He.ma K (He.ga K "Tree") "claims") ["self", "number", "look"] (spTreeClaims K) := by
  refine def_Tree_claims T (fun vs H Q E h => ?_) (fun cdv A outer s H vs Q E hr h => ?_)
  · obtain ⟨t, p, l, dx, no, o, qn, fs, kvs, ns, n, ps, ks, lk, rfl, _⟩ := h; rfl
  · obtain ⟨t, p, l, dx, no, o, qn, fs, kvs, ns, n, ps, ks, lk, rfl, hT, fN, fO, hNo, hv, hON, hd, hp, D, hL, hlen, q⟩ := h
    obtain ⟨dq, fq, eq, cq, lq, mq⟩ := hON.ins T
    refine ⟨_, pss_one (ps_ret (pe_methD (ps := ["self", "kinds", "look"]) (pe_dget (hu_of hr) (pe_fld (pv 0) (by rfl)) (pv 1) (fun _ _ => rfl)) hr (pa_cons (pe_fld (pv 0) (by rfl)) (pa_cons (pv 2) pa_nil)))), ?_⟩
    refine ⟨_, rfl, t, _, dx, _, _, rfl, hT, T.cls_Tree, T.na_Tree_noted, fN, _, rfl, no, .ref qn, rfl, .inr ⟨kvs, nk ns, p, .inl hNo, rfl, by rw [nk_map]; exact hp, hv.symm⟩, ?_⟩
    refine ⟨qn, _, dq, fq, _, _, rfl, eq, cq, lq, mq, ok_claims T n (by omega), ?_⟩
    exact ⟨_, rfl, t, _, dx, _, _, rfl, hT, T.cls_Tree, T.na_Tree_order, fO, _, rfl, qn, o, l, ps, ks, lk, rfl, D, hL, hlen, hON, q⟩
def spLooked (K : PySem.W.Frag) : Sp := fun vs H Q _ => ∃ (t p : Addr) (ks : List Kd) (rs : List Rw) (r : Rw), vs = [.ref t, .ref p] ∧ TreeL K H t ks rs ∧ r ∈ rs ∧ H p = some (.tup (r.ns.map V.int)) ∧ Q (.int (countL ks r.nt)) H
theorem ok_Tree_looked (T : Txt K mg) : Ok P w K mg base 1 (He.ma K (He.ga K "Tree") "looked") ["self", "number"] (spLooked K) := by
  refine def_Tree_looked T (fun vs H Q E h => ?_) (fun cdv A outer s H vs Q E hr h => ?_)
  · obtain ⟨t, p, ks, rs, r, rfl, _⟩ := h; rfl
  · obtain ⟨t, p, ks, rs, r, rfl, ⟨dx, co, fs, kvs, h1, h2, h3, h4, h5, h6⟩, hm, hp, q⟩ := h
    refine ⟨_, pss_one (ps_ret (pe_dget (hu_of hr) (pe_fld (pv 0) (by rfl)) (pv 1) (fun _ _ => rfl))), ?_⟩
    obtain ⟨v, hv, e⟩ := h5.has h6 hm
    subst e
    exact ⟨_, rfl, t, _, dx, _, _, rfl, h1, T.cls_Tree, T.na_Tree_counted, h2, _, rfl, co, _, rfl, .inr ⟨kvs, nk r.ns, p, .inl h4, rfl, by rw [nk_map]; exact hp, hv.symm⟩, q⟩
/-! ### Tree.__init__ -/
structure Mid (K : PySem.W.Frag) (H0 : Hp) (t dx o ru no kn : Addr) (ps : List Addr) (ks : List Kd) (kvsK : List (List L2.Key × V)) (rs : List Rw) (lk : HO) (i j : Nat) (H : Hp) : Prop where
  s : Same H0 H
  tr : H t = some (.ins (He.ga K "Tree") dx [("order", .ref o), ("rules", .ref ru), ("noted", .ref no)])
  f_ord : Kds K H o ps ks
  f_kn : H kn = some lk
  f_tab : Tab (KnownV H) kvsK rs
  f_ru : ∃ kvs, H ru = some (.dT kvs) ∧ kvs.length ≤ j + 1
  f_no : ∃ kvs, H no = some (.dT kvs) ∧ Tab (NoteV K H) kvs (rs.take i)
  z1 : H0 t = none
  z2 : H0 ru = none
  z3 : H0 no = none
  z4 : H0 kn = none
  d1 : ru ≠ no
  d2 : kn ≠ ru
  d3 : kn ≠ no
  d4 : t ≠ kn
theorem Mid.same {H0 : Hp} {t dx o ru no kn : Addr} {ps : List Addr} {ks : List Kd} {kvsK : List (List L2.Key × V)} {rs : List Rw} {lk : HO} {i j : Nat} {H H' : Hp} (M : Mid K H0 t dx o ru no kn ps ks kvsK rs lk i j H) (s : Same H H') :
    Mid K H0 t dx o ru no kn ps ks kvsK rs lk i j H' := by
  obtain ⟨a, b, c, d, e, ⟨k1, f1, f2⟩, ⟨k2, g1, g2⟩, z1, z2, z3, z4, d1, d2, d3, d4⟩ := M
  exact ⟨a.trans s, s _ _ b, c.keep s, s _ _ d, e.mono fun _ _ z => z.kept (Kept.of s), ⟨k1, s _ _ f1, f2⟩, ⟨k2, s _ _ g1, g2.mono fun _ _ z => z.kept (Kept.of s)⟩, z1, z2, z3, z4, d1, d2, d3, d4⟩
theorem Mid.lock {H0 : Hp} {t dx o ru no kn : Addr} {ps : List Addr} {ks : List Kd} {kvsK : List (List L2.Key × V)} {rs : List Rw} {lk lk' : HO} {i j : Nat} {H : Hp} (M : Mid K H0 t dx o ru no kn ps ks kvsK rs lk i j H) (hs : soft lk = true) (hf : firm lk = false) :
    Mid K H0 t dx o ru no kn ps ks kvsK rs lk' i j (upd H kn lk') := by
  obtain ⟨a, b, c, d, e, ⟨k1, f1, f2⟩, ⟨k2, g1, g2⟩, z1, z2, z3, z4, d1, d2, d3, d4⟩ := M
  have k : Kept H (upd H kn lk') := kept_upd (Kept.refl H) d hf
  exact ⟨same_upd a z4, by rw [upd_ne d4]; exact b, c.put d hs, upd_same, e.mono fun _ _ z => z.kept k, ⟨k1, by rw [upd_ne d2.symm]; exact f1, f2⟩, ⟨k2, by rw [upd_ne d3.symm]; exact g1, g2.mono fun _ _ z => z.kept k⟩, z1, z2, z3, z4, d1, d2, d3, d4⟩
theorem Mid.setNo {H0 : Hp} {t dx o ru no kn : Addr} {ps : List Addr} {ks : List Kd} {kvsK kvs : List (List L2.Key × V)} {rs : List Rw} {lk : HO} {i j : Nat} {H : Hp} {r : Rw} {q : Addr} (M : Mid K H0 t dx o ru no kn ps ks kvsK rs lk i j H) (hNo : H no = some (.dT kvs)) (hT : Tab (NoteV K H) kvs (rs.take i))
    (nd : (rs.map (·.ns)).Nodup) (hr : rs[i]? = some r) (hq : ON K H r.nt q) :
    Mid K H0 t dx o ru no kn ps ks kvsK rs lk (i + 1) j (upd H no (.dT (putK kvs (nk r.ns) (.ref q)))) := by
  obtain ⟨a, b, c, d, e, ⟨k1, f1, f2⟩, _, z1, z2, z3, z4, d1, d2, d3, d4⟩ := M
  have k : Kept H (upd H no (.dT (putK kvs (nk r.ns) (.ref q)))) := kept_upd (Kept.refl H) hNo rfl
  refine ⟨same_upd a z3, by rw [upd_ne (ne_of b hNo (by intro z; cases z))]; exact b, c.put hNo rfl, by rw [upd_ne d3]; exact d, e.mono fun _ _ z => z.kept k, ⟨k1, by rw [upd_ne d1]; exact f1, f2⟩, ⟨_, upd_same, ?_⟩, z1, z2, z3, z4, d1, d2, d3, d4⟩
  rw [take_next hr]
  exact (hT.snoc (fresh_ns nd hr) ⟨q, rfl, hq⟩).mono fun _ _ z => z.kept k
theorem Mid.setRu {H0 : Hp} {t dx o ru no kn : Addr} {ps : List Addr} {ks : List Kd} {kvsK kvs : List (List L2.Key × V)} {rs : List Rw} {lk : HO} {i j : Nat} {H : Hp} {k : List L2.Key} {v : V} (M : Mid K H0 t dx o ru no kn ps ks kvsK rs lk i j H) (hRu : H ru = some (.dT kvs)) (hl : kvs.length ≤ j + 1) :
    Mid K H0 t dx o ru no kn ps ks kvsK rs lk i (j + 1) (upd H ru (.dT (putK kvs k v))) := by
  obtain ⟨a, b, c, d, e, _, ⟨k2, g1, g2⟩, z1, z2, z3, z4, d1, d2, d3, d4⟩ := M
  have kk : Kept H (upd H ru (.dT (putK kvs k v))) := kept_upd (Kept.refl H) hRu rfl
  have := putK_len (kvs := kvs) (k := k) (v := v)
  exact ⟨same_upd a z2, by rw [upd_ne (ne_of b hRu (by intro z; cases z))]; exact b, c.put hRu rfl, by rw [upd_ne d2]; exact d, e.mono fun _ _ z => z.kept kk, ⟨_, upd_same, by omega⟩, ⟨k2, by rw [upd_ne d1.symm]; exact g1, g2.mono fun _ _ z => z.kept kk⟩, z1, z2, z3, z4, d1, d2, d3, d4⟩
structure Mid2 (K : PySem.W.Frag) (H0 : Hp) (t dx o ru no kn co lb : Addr) (ps : List Addr) (ks : List Kd) (kvsN : List (List L2.Key × V)) (rs : List Rw) (xs : List V) (L : List (List Int)) (lk : HO) (i : Nat) (H : Hp) : Prop where
  s : Same H0 H
  tr : H t = some (.ins (He.ga K "Tree") dx [("order", .ref o), ("rules", .ref ru), ("noted", .ref no), ("counted", .ref co)])
  f_ord : Kds K H o ps ks
  f_kn : H kn = some lk
  f_no : H no = some (.dT kvsN)
  f_tabN : Tab (NoteV K H) kvsN rs
  f_lb : H lb = some (.lst xs)
  f_rows : RowsV H xs L
  f_co : ∃ kvs, H co = some (.dT kvs) ∧ Tab (CountV ks) kvs (rs.take i)
  z4 : H0 kn = none
  z5 : H0 co = none
  d3 : kn ≠ no
  d4 : t ≠ kn
  d5 : co ≠ no
  d6 : co ≠ kn
theorem Mid2.same {H0 : Hp} {t dx o ru no kn co lb : Addr} {ps : List Addr} {ks : List Kd} {kvsN : List (List L2.Key × V)} {rs : List Rw} {xs : List V} {L : List (List Int)} {lk : HO} {i : Nat} {H H' : Hp}
    (M : Mid2 K H0 t dx o ru no kn co lb ps ks kvsN rs xs L lk i H) (s : Same H H') : Mid2 K H0 t dx o ru no kn co lb ps ks kvsN rs xs L lk i H' := by
  obtain ⟨a, b, c, d, e, f, g, h, ⟨k1, j1, j2⟩, z4, z5, d3, d4, d5, d6⟩ := M
  exact ⟨a.trans s, s _ _ b, c.keep s, s _ _ d, s _ _ e, f.mono fun _ _ z => z.kept (Kept.of s), s _ _ g, h.keep s, ⟨k1, s _ _ j1, j2⟩, z4, z5, d3, d4, d5, d6⟩
theorem Mid2.lock {H0 : Hp} {t dx o ru no kn co lb : Addr} {ps : List Addr} {ks : List Kd} {kvsN : List (List L2.Key × V)} {rs : List Rw} {xs : List V} {L : List (List Int)} {lk lk' : HO} {i : Nat} {H : Hp}
    (M : Mid2 K H0 t dx o ru no kn co lb ps ks kvsN rs xs L lk i H) (hs : soft lk = true) (hf : firm lk = false) : Mid2 K H0 t dx o ru no kn co lb ps ks kvsN rs xs L lk' i (upd H kn lk') := by
  obtain ⟨a, b, c, d, e, f, g, h, ⟨k1, j1, j2⟩, z4, z5, d3, d4, d5, d6⟩ := M
  have k : Kept H (upd H kn lk') := kept_upd (Kept.refl H) d hf
  exact ⟨same_upd a z4, by rw [upd_ne d4]; exact b, c.put d hs, upd_same, by rw [upd_ne d3.symm]; exact e, f.mono fun _ _ z => z.kept k, by rw [upd_ne (soft_ne g rfl d hs)]; exact g, h.put d hs, ⟨k1, by rw [upd_ne d6]; exact j1, j2⟩, z4, z5, d3, d4, d5, d6⟩
theorem Mid2.setCo {H0 : Hp} {t dx o ru no kn co lb : Addr} {ps : List Addr} {ks : List Kd} {kvsN kvs : List (List L2.Key × V)} {rs : List Rw} {xs : List V} {L : List (List Int)} {lk : HO} {i : Nat} {H : Hp} {r : Rw} {v : V}
    (M : Mid2 K H0 t dx o ru no kn co lb ps ks kvsN rs xs L lk i H) (hCo : H co = some (.dT kvs)) (hT : Tab (CountV ks) kvs (rs.take i)) (nd : (rs.map (·.ns)).Nodup) (hr : rs[i]? = some r) (hv : CountV ks v r) :
    Mid2 K H0 t dx o ru no kn co lb ps ks kvsN rs xs L lk (i + 1) (upd H co (.dT (putK kvs (nk r.ns) v))) := by
  obtain ⟨a, b, c, d, e, f, g, h, _, z4, z5, d3, d4, d5, d6⟩ := M
  have k : Kept H (upd H co (.dT (putK kvs (nk r.ns) v))) := kept_upd (Kept.refl H) hCo rfl
  refine ⟨same_upd a z5, by rw [upd_ne (ne_of b hCo (by intro z; cases z))]; exact b, c.put hCo rfl, by rw [upd_ne d6.symm]; exact d, by rw [upd_ne d5.symm]; exact e, f.mono fun _ _ z => z.kept k, by rw [upd_ne (soft_ne g rfl hCo rfl)]; exact g, h.put hCo rfl, ⟨_, upd_same, ?_⟩, z4, z5, d3, d4, d5, d6⟩
  rw [take_next hr]
  exact hT.snoc (fresh_ns nd hr) hv
def spTree (K : PySem.W.Frag) : Sp := fun vs H Q _ => ∃ (t dx a b : Addr) (x : Str) (ps qs : List Addr) (ks : List Kd) (rs : List Rw) (H0 : Hp), vs = [.ref t, .ref a, .str x, .ref b] ∧ H0 t = none ∧ H0 dx = none ∧ dx ≠ t ∧
  H = upd (upd H0 dx (.own t)) t (.ins (He.ga K "Tree") dx []) ∧ Kds K H0 a ps ks ∧ RuleOk x ∧ Rws H0 b qs rs ∧ ∀ H', Same H0 H' → TreeL K H' t ks rs → Q .non H'
theorem ok_Tree_init (T : Txt K mg) : Ok P w K mg base 10 (He.ma K (He.ga K "Tree") "__init__") ["self", "kinds", "rule", "rows"] (spTree K) := by
  refine def_Tree_init T (fun vs H Q E h => ?_) (fun cdv A outer s H vs Q E hr h => ?_)
  · obtain ⟨t, dx, a, b, x, ps, qs, ks, rs, H0, rfl, _⟩ := h; rfl
  · obtain ⟨t, dx, a, b, x, ps, qs, ks, rs, H0, rfl, ht0, hdx0, hne, rfl, D, hx, R, q⟩ := h
    have hu := hu_of hr
    refine ⟨_, pss_cons (ps_fld (pv 0) (pe_callO (ok_kinds_of T) (hr.mono (by decide)) (by rfl) T.mg_kinds_of (pa_cons (pv 1) pa_nil)) (by rfl))
      (pss_cons (ps_set (i := 4) sc_Tree_init.nd rfl (.inl rfl) (pe_callO (ok_rows_by_number T) (hr.mono (by decide)) (by rfl) T.mg_rows_by_number (pa_cons (pv 2) (pa_cons (pv 3) pa_nil))))
      (pss_cons (ps_fld (pv 0) (pe_dispT1 hu (pe_tup pa_nil) (pv 2)) (by rfl))
      (pss_cons (ps_fld (pv 0) pe_dnewT (by rfl))
      (pss_cons (ps_lock (ps_for PassesOwn.never rfl (pi_keys (pv 4)) (pg_name (i := 5) sc_Tree_init.nd rfl (.inr rfl))
        (pss_cons (ps_dput hu (pe_fld (pv 0) (by rfl)) (pv 5) (pe_callO (ok_note_of T) (hr.mono (by decide)) (by rfl) T.mg_note_of (pa_cons (pe_ix ix_tup (pe_dget hu (pv 4) (pv 5) (fun _ _ => rfl)) pe_int (fun _ _ => rfl)) pa_nil)) (by rfl))
        (pss_one (ps_dput hu (pe_fld (pv 0) (by rfl)) (pv 5) (pe_ix ix_tup (pe_dget hu (pv 4) (pv 5) (fun _ _ => rfl)) pe_int (fun _ _ => rfl)) (by rfl))))))
      (pss_cons (ps_fld (pv 0) pe_dnewT (by rfl))
      (pss_cons (ps_set (i := 6) sc_Tree_init.nd rfl (.inl rfl) (pe_callO (ok_all_looks T) (hr.mono (by decide)) (by rfl) T.mg_all_looks (pa_cons (pe_callB call_len_seq (by rfl) T.no_len PySem.boot_len (pa_cons (pe_fld (pv 0) (by rfl)) pa_nil)) pa_nil)))
      (pss_one (ps_lock (ps_for PassesOwn.never rfl (pi_keys (pv 4)) (pg_name (i := 5) sc_Tree_init.nd rfl (.inr rfl))
        (pss_one (ps_dput hu (pe_fld (pv 0) (by rfl)) (pv 5) (pe_callB call_len_seq (by rfl) T.no_len PySem.boot_len (pa_cons
          (pe_lc (own := [("look", 7)]) (g := gName 7) rfl sc_Tree_init.nd (pi_list (pv 6)) (blkOk_by (N := n_Tree_init) (sc := defScope s_Tree_init) (by decide +kernel)) (fun _ _ _ _ _ => pg_name (i := 7) sc_Tree_init.nd rfl (Or.inl rfl))
            (fun _ _ _ _ _ => pts_one (pt_val (pe_methO (pv 0) T.cls_Tree T.me_Tree_claims (ok_Tree_claims T) (hr.mono (by decide)) (pa_cons (pv 5) (pa_cons (pv 7) pa_nil))))) (fun _ _ _ _ _ => pv 7)) pa_nil)) (by rfl)))))))))))), ?_⟩
    have s00 : Same H0 (upd (upd H0 dx (.own t)) t (.ins (He.ga K "Tree") dx [])) := same_make (C := He.ga K "Tree") ht0 hdx0 hne
    refine ⟨_, rfl, a, ps, ks, rfl, D.keep s00, fun H1 o s1 ho Dk => ⟨_, rfl, t, _, dx, _, rfl, s1 _ _ upd_same, T.cls_Tree, T.na_Tree_order, by show (0 : Nat) < 1000; decide, ?_⟩⟩
    have s02 : Same H0 (upd H1 t (.ins (He.ga K "Tree") dx (putF "order" (.ref o) []))) := same_upd (s00.trans s1) ht0
    have D2 : Kds K (upd H1 t (.ins (He.ga K "Tree") dx (putF "order" (.ref o) []))) o ps ks := Dk.put (s1 _ _ upd_same) rfl
    have T2 : (upd H1 t (.ins (He.ga K "Tree") dx (putF "order" (.ref o) []))) t = some (.ins (He.ga K "Tree") dx [("order", .ref o)]) := upd_same
    generalize upd H1 t (.ins (He.ga K "Tree") dx (putF "order" (.ref o) [])) = H2 at s02 D2 T2 ⊢
    refine ⟨_, rfl, _, rfl, x, b, qs, rs, rfl, hx, R.keep s02, fun H3 kn kvsK s3 hkn hK hT => ?_⟩
    have hkn0 : H0 kn = none := s02.free hkn
    have ntk : t ≠ kn := ne_of_none T2 hkn
    have s03 := s02.trans s3
    refine fun ru hru => ⟨by show (0 : Nat) ≤ sizeLine; decide, fun p2 hp2 => ⟨_, rfl, ?_, p2, [], rfl, upd_same, ?_⟩⟩
    · rw [upd_ne (ne_of_none (o := .dT []) upd_same hp2)]
      exact upd_same
    have s34 : Same H3 (upd (upd (upd H3 ru (.dT [])) p2 (.tup [])) ru (.dT [([], .str x)])) := same_upd ((same_new hru).trans (same_new hp2)) hru
    have R4 : (upd (upd (upd H3 ru (.dT [])) p2 (.tup [])) ru (.dT [([], .str x)])) ru = some (.dT [([], .str x)]) := upd_same
    generalize upd (upd (upd H3 ru (.dT [])) p2 (.tup [])) ru (.dT [([], .str x)]) = H4 at s34 R4 ⊢
    have hru0 : H0 ru = none := s03.free hru
    have dkr : kn ≠ ru := ne_of_none hK hru
    have T4 := s34 _ _ (s3 _ _ T2)
    refine ⟨_, rfl, t, _, dx, _, rfl, T4, T.cls_Tree, T.na_Tree_rules, by show (1 : Nat) < 1000; decide, ?_⟩
    have M5 : Same H0 (upd H4 t (.ins (He.ga K "Tree") dx (putF "rules" (.ref ru) [("order", .ref o)]))) ∧ (upd H4 t (.ins (He.ga K "Tree") dx (putF "rules" (.ref ru) [("order", .ref o)]))) t = some (.ins (He.ga K "Tree") dx [("order", .ref o), ("rules", .ref ru)]) ∧
        Kds K (upd H4 t (.ins (He.ga K "Tree") dx (putF "rules" (.ref ru) [("order", .ref o)]))) o ps ks ∧ (upd H4 t (.ins (He.ga K "Tree") dx (putF "rules" (.ref ru) [("order", .ref o)]))) kn = some (.dT kvsK) ∧
        Tab (KnownV (upd H4 t (.ins (He.ga K "Tree") dx (putF "rules" (.ref ru) [("order", .ref o)])))) kvsK rs ∧ (upd H4 t (.ins (He.ga K "Tree") dx (putF "rules" (.ref ru) [("order", .ref o)]))) ru = some (.dT [([], .str x)]) := by
      refine ⟨same_upd (s03.trans s34) ht0, upd_same, (D2.keep (s3.trans s34)).put T4 rfl, ?_, ?_, ?_⟩
      · rw [upd_ne ntk.symm]; exact s34 _ _ hK
      · exact hT.mono fun _ _ z => z.kept (kept_upd (Kept.of s34) T4 rfl)
      · rw [upd_ne (ne_of R4 T4 (by intro z; cases z))]; exact R4
    generalize upd H4 t (.ins (He.ga K "Tree") dx (putF "rules" (.ref ru) [("order", .ref o)])) = H5 at M5 ⊢
    obtain ⟨s05, T5, D5, K5, B5, R5⟩ := M5
    refine fun no hno => ⟨_, rfl, t, _, dx, _, rfl, same_new hno _ _ T5, T.cls_Tree, T.na_Tree_noted, by show (2 : Nat) < 1000; decide, ?_⟩
    have s5n : Same H5 (upd H5 no (.dT [])) := same_new hno
    have N6 : (upd H5 no (.dT [])) no = some (.dT []) := upd_same
    have dno0 : H0 no = none := s05.free hno
    have drn : ru ≠ no := ne_of_none R5 hno
    have dkn : kn ≠ no := ne_of_none K5 hno
    have dtn : t ≠ no := ne_of_none T5 hno
    generalize upd H5 no (.dT []) = H6 at s5n N6 ⊢
    have T6 := s5n _ _ T5
    have M7 : Mid K H0 t dx o ru no kn ps ks kvsK rs (.dT kvsK) 0 0 (upd H6 t (.ins (He.ga K "Tree") dx (putF "noted" (.ref no) [("order", .ref o), ("rules", .ref ru)]))) := by
      refine ⟨same_upd (s05.trans s5n) ht0, upd_same, (D5.keep s5n).put T6 rfl, by rw [upd_ne ntk.symm]; exact s5n _ _ K5, B5.mono fun _ _ z => z.kept (kept_upd (Kept.of s5n) T6 rfl), ⟨[([], .str x)], by rw [upd_ne (ne_of R5 T5 (by intro z; cases z))]; exact s5n _ _ R5, Nat.le_refl 1⟩,
        ⟨_, by rw [upd_ne dtn.symm]; exact N6, by rw [List.take_zero]; exact .nil⟩, ht0, hru0, dno0, hkn0, drn, dkr, dkn, ntk⟩
    generalize upd H6 t (.ins (He.ga K "Tree") dx (putF "noted" (.ref no) [("order", .ref o), ("rules", .ref ru)])) = H7 at M7 ⊢
    have hlk : kvsK.length = rs.length := hT.len
    have hhi := R.hi
    refine ⟨kn, .dT kvsK, M7.f_kn, trivial, fun od => ⟨_, rfl, kn, od, rfl, .inr ⟨kvsK, upd_same, for_it walk_keysT
      (fun i σ' H' => Mid K H0 t dx o ru no kn ps ks kvsK rs (.frz od (.dT kvsK)) i i H' ∧ ∃ v, σ' = [some (.ref t), some (.ref a), some (.str x), some (.ref b), some (.ref kn), v, none, none]) ⟨M7.lock rfl rfl, _, rfl⟩ ?_ ?_ ?_⟩⟩⟩
    · rintro i σ' H' _ ⟨M, _⟩
      exact M.f_kn
    · rintro i v σ' H8 H9 hi ⟨M, v2, rfl⟩ ⟨rfl, k, u, c, hk, rfl, hc⟩
      obtain ⟨r, hr', rfl, _⟩ := M.f_tab.at_ hk
      have hm := List.mem_of_getElem? hr'
      have ok := R.ok r hm
      obtain ⟨w1, hv, p, rfl, x1, y1, e1, e2, e3⟩ := M.f_tab.has R.nd hm
      refine ⟨_, rfl, _, rfl, kn, .ref p, rfl, .inr ⟨kvsK, nk r.ns, c, .inr ⟨od, M.f_kn⟩, rfl, hc, hv.symm⟩, p, _, _, _, rfl, rfl, SqT.of e1, rfl, y1, r.nt, rfl, e3, ok.2.2.2, fun H10 g s10 hg hG => ?_⟩
      have M10 := M.same s10
      obtain ⟨kvN, hNo, hTN⟩ := M10.f_no
      have hltN : kvN.length ≤ 24 := by
        have h1 := hTN.len
        rw [List.length_take] at h1
        omega
      refine ⟨_, rfl, t, _, dx, _, _, rfl, M10.tr, T.cls_Tree, T.na_Tree_noted, rfl, _, rfl, no, _, rfl, DPut.t hNo (s10 _ _ hc) (small_dict hltN), ?_⟩
      have M11 := M10.setNo hNo hTN R.nd hr' hG
      have k11 : Kept H10 (upd H10 no (.dT (putK kvN (nk r.ns) (.ref g)))) := kept_upd (Kept.refl H10) hNo rfl
      generalize upd H10 no (.dT (putK kvN (nk r.ns) (.ref g))) = H11 at M11 k11 ⊢
      obtain ⟨kvR, hRu, hlR⟩ := M11.f_ru
      have hltR : kvR.length < sizeLine := small_dict (by omega)
      exact ⟨_, rfl, _, rfl, kn, .ref p, rfl, .inr ⟨kvsK, nk r.ns, c, .inr ⟨od, M11.f_kn⟩, rfl, k11 _ _ (s10 _ _ hc) rfl, hv.symm⟩, p, _, _, _, rfl, rfl, SqT.of (k11 _ _ (s10 _ _ e1) rfl), rfl,
        _, rfl, t, _, dx, _, _, rfl, M11.tr, T.cls_Tree, T.na_Tree_rules, rfl, _, rfl, ru, _, rfl, DPut.t hRu (k11 _ _ (s10 _ _ hc) rfl) hltR, M11.setRu hRu hlR, _, rfl⟩
    · rintro σ' H8 ⟨M, v2, rfl⟩
      refine ⟨M.f_kn, ?_⟩
      have M9 := M.lock (lk' := .dT kvsK) rfl rfl
      generalize upd H8 kn (.dT kvsK) = H9 at M9 ⊢
      obtain ⟨kvN, hNo, hTN⟩ := M9.f_no
      rw [hlk, list_end] at hTN
      refine fun co hco => ?_
      have dcn : co ≠ no := (ne_of_none hNo hco).symm
      have dck : co ≠ kn := (ne_of_none M9.f_kn hco).symm
      have dtc : t ≠ co := ne_of_none M9.tr hco
      have hco0 : H0 co = none := M9.s.free hco
      have s9c : Same H9 (upd H9 co (.dT [])) := same_new hco
      have C10 : (upd H9 co (.dT [])) co = some (.dT []) := upd_same
      generalize upd H9 co (.dT []) = H10 at s9c C10 ⊢
      have M10 := M9.same s9c
      have hNo10 := s9c _ _ hNo
      have hTN10 : Tab (NoteV K H10) kvN rs := hTN.mono fun _ _ z => z.kept (Kept.of s9c)
      refine ⟨_, rfl, t, _, dx, _, rfl, M10.tr, T.cls_Tree, T.na_Tree_counted, by show (3 : Nat) < 1000; decide, ?_⟩
      have M11 : Same H0 (upd H10 t (.ins (He.ga K "Tree") dx (putF "counted" (.ref co) [("order", .ref o), ("rules", .ref ru), ("noted", .ref no)]))) ∧
          (upd H10 t (.ins (He.ga K "Tree") dx (putF "counted" (.ref co) [("order", .ref o), ("rules", .ref ru), ("noted", .ref no)]))) t = some (.ins (He.ga K "Tree") dx [("order", .ref o), ("rules", .ref ru), ("noted", .ref no), ("counted", .ref co)]) ∧
          Kds K (upd H10 t (.ins (He.ga K "Tree") dx (putF "counted" (.ref co) [("order", .ref o), ("rules", .ref ru), ("noted", .ref no)]))) o ps ks ∧
          (upd H10 t (.ins (He.ga K "Tree") dx (putF "counted" (.ref co) [("order", .ref o), ("rules", .ref ru), ("noted", .ref no)]))) kn = some (.dT kvsK) ∧
          (upd H10 t (.ins (He.ga K "Tree") dx (putF "counted" (.ref co) [("order", .ref o), ("rules", .ref ru), ("noted", .ref no)]))) no = some (.dT kvN) ∧
          Tab (NoteV K (upd H10 t (.ins (He.ga K "Tree") dx (putF "counted" (.ref co) [("order", .ref o), ("rules", .ref ru), ("noted", .ref no)])))) kvN rs ∧
          (upd H10 t (.ins (He.ga K "Tree") dx (putF "counted" (.ref co) [("order", .ref o), ("rules", .ref ru), ("noted", .ref no)]))) co = some (.dT []) := by
        refine ⟨same_upd M10.s ht0, upd_same, M10.f_ord.put M10.tr rfl, by rw [upd_ne ntk.symm]; exact M10.f_kn, by rw [upd_ne dtn.symm]; exact hNo10, hTN10.mono fun _ _ z => z.kept (kept_upd (Kept.refl H10) M10.tr rfl), by rw [upd_ne dtc.symm]; exact C10⟩
      generalize upd H10 t (.ins (He.ga K "Tree") dx (putF "counted" (.ref co) [("order", .ref o), ("rules", .ref ru), ("noted", .ref no)])) = H11 at M11 ⊢
      obtain ⟨s11, T11, D11, K11, N11, B11, C11⟩ := M11
      have hml : (ps.map V.ref).length = ks.length := by rw [List.length_map]; exact D11.len
      have hk1 := D11.lo
      have hk4 := D11.hi
      refine ⟨_, rfl, t, _, dx, _, _, rfl, T11, T.cls_Tree, T.na_Tree_order, rfl, o, _, rfl, .inl (SqL.of D11.lst), (ps.map V.ref).length, rfl, by omega, by omega, fun H12 lb xs L s12 hlb hLB hRows hPerm => ?_⟩
      rw [hml] at hPerm
      have wid : ∀ lk ∈ L, lk.length = ks.length := fun lk h => looks_width (hPerm.mem_iff.mp h)
      have hL625 : L.length ≤ 625 := by
        rw [hPerm.length_eq]
        exact Nat.le_trans (List.length_filter_le ..) (rows_bound hk4 hk4)
      have M12 : Mid2 K H0 t dx o ru no kn co lb ps ks kvN rs xs L (.dT kvsK) 0 H12 :=
        ⟨s11.trans s12, s12 _ _ T11, D11.keep s12, s12 _ _ K11, s12 _ _ N11, B11.mono fun _ _ z => z.kept (Kept.of s12), hLB, hRows, ⟨[], s12 _ _ C11, by rw [List.take_zero]; exact .nil⟩, hkn0, hco0, dkn, ntk, dcn, dck⟩
      refine ⟨kn, .dT kvsK, M12.f_kn, trivial, fun od => ⟨_, rfl, kn, od, rfl, .inr ⟨kvsK, upd_same, for_it walk_keysT
        (fun i σ' H' => Mid2 K H0 t dx o ru no kn co lb ps ks kvN rs xs L (.frz od (.dT kvsK)) i H' ∧ ∃ v, σ' = [some (.ref t), some (.ref a), some (.str x), some (.ref b), some (.ref kn), v, some (.ref lb), none]) ⟨M12.lock rfl rfl, _, rfl⟩ ?_ ?_ ?_⟩⟩⟩
      · rintro i σ' H' _ ⟨M, _⟩
        exact M.f_kn
      · rintro i v σ' H13 H14 hi ⟨M, v3, rfl⟩ ⟨rfl, k, u, c, hk, rfl, hc⟩
        obtain ⟨r, hr', rfl, _⟩ := hT.at_ hk
        have hm := List.mem_of_getElem? hr'
        have ok := R.ok r hm
        obtain ⟨w1, hv, q1, rfl, hON⟩ := M.f_tabN.has R.nd hm
        rw [nk_map] at hc
        refine ⟨_, rfl, lb, rfl, ⟨_, SqL.of M.f_lb⟩, fun D3 hD3 => lc_it (walk_list (xs := xs)) (fun i' H' => Same H14 H' ∧ ∃ acc, H' D3 = some (.lst acc) ∧ acc.length = (L.take i').countP fun lk => claimsL ks lk r.nt) ⟨same_new hD3, [], upd_same, rfl⟩ (fun i' H' _ p => SqL.of (p.1 _ _ M.f_lb)) ?_ ?_⟩
        · rintro i' v' H15 H16 hi' ⟨s2, acc, hA, hn⟩ ⟨rfl, hv'⟩
          obtain ⟨lk, hl, q2, rfl, hq⟩ := paired_at (M.f_rows.keep s2) hv'
          have hc2 : acc.length ≤ 625 := by
            have h1 := List.countP_le_length (p := fun lk => claimsL ks lk r.nt) (l := L.take i')
            rw [List.length_take] at h1
            omega
          have hcp : (L.take (i' + 1)).countP (fun lk => claimsL ks lk r.nt) = (L.take i').countP (fun lk => claimsL ks lk r.nt) + (if claimsL ks lk r.nt = true then 1 else 0) := by
            rw [take_next hl, List.countP_append, List.countP_cons, List.countP_nil, Nat.zero_add]
          refine ⟨rfl, _, rfl, t, dx, _, rfl, s2 _ _ M.tr, rfl, _, rfl, _, rfl, t, c, q2, dx, no, o, q1, _, kvN, r.ns, r.nt, ps, ks, lk, rfl, s2 _ _ M.tr, rfl, rfl, s2 _ _ M.f_no, hv, hON.kept (Kept.of s2), ok.2.2.2, s2 _ _ hc, M.f_ord.keep s2, hq, wid lk (List.mem_of_getElem? hl), _, rfl, ?_⟩
          refine ite2 (fun hg => ?_) (fun hg => ?_)
          · refine ⟨_, rfl, acc, hA, Nat.lt_of_le_of_lt hc2 (by decide), same_upd s2 hD3, acc ++ [.ref q2], upd_same, ?_⟩
            rw [hcp, if_pos hg, List.length_append, hn]; rfl
          · refine ⟨s2, acc, hA, ?_⟩
            rw [hcp, if_neg hg, hn]; rfl
        · rintro H15 ⟨s2, acc, hA, hn⟩
          rw [Paired.length M.f_rows, list_end] at hn
          have M15 := M.same s2
          obtain ⟨kvC, hCo, hTC⟩ := M15.f_co
          have hltC : kvC.length ≤ 24 := by
            have h1 := hTC.len
            rw [List.length_take] at h1
            omega
          refine ⟨D3, _, rfl, .inl (SqL.of hA), _, rfl, t, _, dx, _, _, rfl, M15.tr, T.cls_Tree, T.na_Tree_counted, rfl, _, rfl, co, _, rfl, DPut.t hCo (k := nk r.ns) (by rw [nk_map]; exact s2 _ _ hc) (small_dict hltC), M15.setCo hCo hTC R.nd hr' ?_, _, rfl⟩
          show V.int (acc.length : Int) = .int (countL ks r.nt)
          unfold countL
          rw [hn, hPerm.countP_eq]
      · rintro σ' H13 ⟨M, v3, rfl⟩
        refine ⟨M.f_kn, ?_⟩
        have M14 := M.lock (lk' := .dT kvsK) rfl rfl
        obtain ⟨kvC, hCo, hTC⟩ := M14.f_co
        rw [hlk, list_end] at hTC
        exact q _ M14.s ⟨dx, co, _, kvC, M14.tr, rfl, rfl, hCo, hTC, R.nd⟩
end
end K43
set_option Elab.async false
set_option linter.all false
set_option maxRecDepth 100000
set_option maxHeartbeats 4000000
namespace K43
open PySem PySem.Spec PyProof.Rows L2
theorem SqL.keep {K : PySem.W.Frag} {H H' : Hp} {a : Addr} {xs : List V} (h : SqL K H a xs) (s : Same H H') : SqL K H' a xs := by
  rcases h with (h | ⟨o, h⟩) | h
  · exact .inl (.inl (s _ _ h))
  · exact .inl (.inr ⟨o, s _ _ h⟩)
  · exact .inr h
/-! ### the cells -/
def cellL (ns : List Int) (k : Nat) : Int := ns.getD k 0
/-! ### drawn names -/
def primesL : List Int := [10007, 10009, 10037, 10039, 10061, 10067, 10069, 10079]
def sgn (cell : Int) (j : Nat) : Int := cell * (48271 + 7919 * (j : Int)) % primesL.getD j 1 % 26
def sigs (cell : Int) : List Int := (List.range 8).map (sgn cell)
def Sig (g : Int) : Prop := 0 ≤ g ∧ g < 26
theorem sgn_sig (cell : Int) (j : Nat) : Sig (sgn cell j) := by
  unfold Sig sgn
  omega
theorem sigs_len (cell : Int) : (sigs cell).length = 8 := by simp [sigs]
theorem sigs_sig {cell g : Int} (h : g ∈ sigs cell) : Sig g := by
  obtain ⟨j, _, e⟩ := List.mem_map.mp h
  rw [← e]
  exact sgn_sig cell j
def nameL (cell more : Int) (k : Nat) : List Int :=
  if more / 8 % 3 = 1 then (sigs cell).take (1 + (more + k) % 8).toNat
  else ((sigs cell).set (more / 24 % (1 + more % 8)).toNat (((sgn cell (more / 24 % (1 + more % 8)).toNat) + k) % 26)).take (1 + more % 8).toNat
theorem nameL_sig {cell more g : Int} {k : Nat} (h : g ∈ nameL cell more k) : Sig g := by
  unfold nameL at h
  split at h
  · exact sigs_sig (List.mem_of_mem_take h)
  · rcases List.mem_or_eq_of_mem_set (List.mem_of_mem_take h) with h | h
    · exact sigs_sig h
    · rw [h]; unfold Sig; omega
theorem nameL_len (cell more : Int) (k : Nat) : 1 ≤ (nameL cell more k).length ∧ (nameL cell more k).length ≤ 8 := by
  unfold nameL
  split
  · rw [List.length_take, sigs_len]; omega
  · rw [List.length_take, List.length_set, sigs_len]; omega
theorem nameL_inj {cell more : Int} {i j : Nat} (hi : i < 4) (hj : j < 4) (h : nameL cell more i = nameL cell more j) : i = j := by
  unfold nameL at h
  by_cases c : more / 8 % 3 = 1
  · rw [if_pos c, if_pos c] at h
    have h2 := congrArg List.length h
    rw [List.length_take, List.length_take, sigs_len] at h2
    omega
  · rw [if_neg c, if_neg c] at h
    have hp : (more / 24 % (1 + more % 8)).toNat < (1 + more % 8).toNat := by
      have h1 : 0 < 1 + more % 8 := by omega
      have h2 := Int.emod_lt_of_pos (more / 24) h1
      have h3 := Int.emod_nonneg (more / 24) (show (1 + more % 8) ≠ 0 by omega)
      omega
    have h8 : (1 + more % 8).toNat ≤ 8 := by omega
    generalize (more / 24 % (1 + more % 8)).toNat = p at h hp
    generalize (1 + more % 8).toNat = n at h hp h8
    have h2 := congrArg (fun l : List Int => l[p]?) h
    simp only [List.getElem?_take, if_pos hp] at h2
    rw [List.getElem?_set_self (by rw [sigs_len]; omega), List.getElem?_set_self (by rw [sigs_len]; omega)] at h2
    have h3 := Option.some.inj h2
    have := sgn_sig cell p
    unfold Sig at this
    omega
def encL (gs : List Int) : List Nat := gs.map fun g => 97 + g.toNat
def nameS (gs : List Int) : Str := SX.S (encL gs)
theorem encL_inj : ∀ {a b : List Int}, (∀ g ∈ a, Sig g) → (∀ g ∈ b, Sig g) → encL a = encL b → a = b
  | [], [], _, _, _ => rfl
  | [], _ :: _, _, _, h => nomatch h
  | _ :: _, [], _, _, h => nomatch h
  | x :: a, y :: b, ha, hb, h => by
    obtain ⟨h1, h2⟩ := List.cons.inj h
    have h1 : 97 + x.toNat = 97 + y.toNat := h1
    have e1 := ha x List.mem_cons_self
    have e2 := hb y List.mem_cons_self
    unfold Sig at e1 e2
    have e : x = y := by omega
    rw [e, encL_inj (fun g hg => ha g (List.mem_cons_of_mem _ hg)) (fun g hg => hb g (List.mem_cons_of_mem _ hg)) h2]
theorem abc_at {g : Int} (h : Sig g) : abc.cps.toList[g.toNat]? = some (97 + g.toNat) := by
  have all : ∀ n < 26, abc.cps.toList[n]? = some (97 + n) := by decide +kernel
  unfold Sig at h
  exact all _ (by omega)
theorem nameS_ok {gs : List Int} (h : ∀ g ∈ gs, Sig g) (h1 : 1 ≤ gs.length) (h8 : gs.length ≤ 8) : NameOk (nameS gs) := by
  have e : (nameS gs).length = gs.length := by
    unfold nameS
    rw [SX.S_len, encL, List.length_map]
  refine ⟨by omega, by omega, fun c hc => ?_⟩
  obtain ⟨g, hg, e2⟩ := List.mem_map.mp (show c ∈ encL gs from hc)
  rw [← e2]
  exact List.mem_of_getElem? (abc_at (h g hg))
theorem join1 (l : List Nat) : TL.joinL [] (l.map fun c => [c]) = l := by
  induction l with
  | nil => rfl
  | cons c l ih =>
    cases l with
    | nil => rfl
    | cons d l =>
      show [c] ++ ([] ++ TL.joinL [] ((d :: l).map fun c => [c])) = _
      rw [ih]; rfl
theorem join_name (gs : List Int) : Txt.join "" (gs.map fun g => (⟨#[97 + g.toNat]⟩ : Str)) = nameS gs := by
  have e := SX.join_S [] ((encL gs).map fun c => [c])
  rw [join1, List.map_map] at e
  have e2 : (encL gs).map (SX.S ∘ fun c => [c]) = gs.map fun g => (⟨#[97 + g.toNat]⟩ : Str) := by
    unfold encL
    rw [List.map_map]; rfl
  rw [e2] at e
  exact e
def namesL (cell more : Int) : List Str := (List.range 4).map fun k => nameS (nameL cell more k)
structure Names (xs : List Str) : Prop where
  len : xs.length = 4
  ok : ∀ x ∈ xs, NameOk x
  nd : xs.Nodup
theorem namesL_ok (cell more : Int) : Names (namesL cell more) := by
  refine ⟨by simp [namesL], fun x hx => ?_, ?_⟩
  · obtain ⟨k, _, e⟩ := List.mem_map.mp hx
    rw [← e]
    obtain ⟨h1, h8⟩ := nameL_len cell more k
    exact nameS_ok (fun g hg => nameL_sig hg) h1 h8
  · unfold namesL
    rw [List.nodup_iff_pairwise_ne, List.pairwise_map]
    refine List.Pairwise.imp_of_mem (R := fun a b => a ≠ b) ?_ List.nodup_range
    intro i j hi hj hne e
    refine hne (nameL_inj (cell := cell) (more := more) (List.mem_range.mp hi) (List.mem_range.mp hj) (encL_inj (fun g hg => nameL_sig hg) (fun g hg => nameL_sig hg) (SX.S_inj e)))
theorem cut_to (gs : List Int) {n : Int} (h : 0 ≤ n) : cutV (gs.map V.int) none (some n) = (gs.take n.toNat).map V.int := by
  unfold cutV
  have e1 : HT.sIx (gs.map V.int).length 0 none = 0 := rfl
  have e2 : HT.sIx (gs.map V.int).length (gs.map V.int).length (some n) = min n.toNat gs.length := by
    rw [List.length_map]
    show (if n < 0 then (n + (gs.length : Int)).toNat else min n.toNat gs.length) = _
    rw [if_neg (by omega)]
  rw [e1, e2, List.drop_zero, Nat.sub_zero, ← List.map_take]
  congr 1
  rw [List.take_eq_take_iff]
  omega
theorem ixN_ok {n : Nat} {e : Int} (h0 : 0 ≤ e) (h1 : e < n) : ixN n e = some e.toNat := by
  unfold ixN
  rw [if_pos h0, if_pos h1]
theorem atI_ok {α : Type} {xs : List α} {e : Int} {v : α} (h0 : 0 ≤ e) (h : xs[e.toNat]? = some v) : atI xs e = some v := by
  have e2 := atI_nat h
  rw [Int.toNat_of_nonneg h0] at e2
  exact e2
theorem prime_at {j : Nat} (h : j < 8) : (primesL.map V.int)[j]? = some (.int (primesL.getD j 1)) ∧ 0 < primesL.getD j 1 := by
  have all : ∀ j < 8, primesL[j]? = some (primesL.getD j 1) ∧ 0 < primesL.getD j 1 := by decide +kernel
  obtain ⟨h1, h2⟩ := all j h
  exact ⟨by rw [List.getElem?_map, h1]; rfl, h2⟩
section
variable {P : Program} {w : World} {K : PySem.W.Frag} {mg : Str → Option Value} {base : Heap}
def spCell (K : PySem.W.Frag) : Sp := fun vs H Q _ => ∃ (a : Addr) (ns : List Int) (k : Nat), vs = [.ref a, .int (k : Int)] ∧ SqL K H a (ns.map V.int) ∧ Q (.int (cellL ns k)) H
theorem ok_cell_at (T : Txt K mg) : Ok P w K mg base 1 (He.ga K "_law_cell_at") ["_law_script", "_law_k"] (spCell K) := by
  refine def__law_cell_at T (fun vs H Q E h => ?_) (fun cdv A outer s H vs Q E hr h => ?_)
  · obtain ⟨a, ns, k, rfl, _⟩ := h; rfl
  · obtain ⟨a, ns, k, rfl, hA, q⟩ := h
    refine ⟨_, pss_cons (ps_if (pt_cmpR op_lt (pv 1) (pe_callB call_len_seq (by rfl) T.no_len PySem.boot_len (pa_cons (pv 0) pa_nil)) (nomark _)) (pss_one (ps_ret (pe_ix ix_list (pv 0) (pv 1) (fun _ _ => rfl)))) pss_nil)
      (pss_one (ps_ret pe_int)), ?_⟩
    refine ⟨_, rfl, _, rfl, a, _, rfl, .inl hA, _, _, rfl, rfl, _, rfl, ?_⟩
    by_cases h : k < ns.length
    · refine iteDT (by rw [List.length_map]; omega) ⟨_, rfl, _, rfl, a, _, _, .int (cellL ns k), rfl, rfl, hA, atI_nat ?_, q⟩
      rw [List.getElem?_map, List.getElem?_eq_getElem h]
      show some (V.int ns[k]) = some (V.int (ns.getD k 0))
      rw [List.getD_eq_getElem?_getD, List.getElem?_eq_getElem h]; rfl
    · refine iteDF (by rw [List.length_map]; omega) ?_
      have e : cellL ns k = 0 := by
        unfold cellL
        rw [List.getD_eq_getElem?_getD, List.getElem?_eq_none (by omega)]; rfl
      rw [e] at q
      exact q
def spNames : Sp := fun vs H Q _ => ∃ (cell more : Int), vs = [.int cell, .int more] ∧ ∀ (H' : Hp) (b : Addr) (xs : List Str), Same H H' → H b = none → H' b = some (.lst (xs.map V.str)) → Names xs → Q (.ref b) H'
theorem ok_names (T : Txt K mg) : Ok P w K mg base 1 (He.ga K "_law_names") ["_law_cell", "_law_more"] spNames := by
  refine def__law_names T (fun vs H Q E h => ?_) (fun cdv A outer s H vs Q E hr h => ?_)
  · obtain ⟨cell, more, rfl, _⟩ := h; rfl
  · obtain ⟨cell, more, rfl, q⟩ := h
    refine ⟨_, pss_cons (ps_set (i := 2) sc__law_names.nd rfl (.inr rfl) pe_str)
      (pss_cons (ps_set (i := 3) sc__law_names.nd rfl (.inr rfl) (pe_lst (pa_cons pe_int (pa_cons pe_int (pa_cons pe_int (pa_cons pe_int (pa_cons pe_int (pa_cons pe_int (pa_cons pe_int (pa_cons pe_int pa_nil))))))))))
      (pss_cons (ps_set (i := 4) sc__law_names.nd rfl (.inl rfl) (pe_lst pa_nil))
      (pss_cons (ps_for PassesOwn.never rfl (pi_range1 (by rfl) T.no_range (pa_cons pe_int pa_nil)) (pg_name (i := 5) sc__law_names.nd rfl (.inl rfl))
        (pss_cons (ps_setLc (i := 6) (own := [("_law_j", 8)]) (g := gName 8) rfl sc__law_names.nd rfl rfl (sw_true rfl rfl rfl (by decide +kernel))
          (pi_range1 (by rfl) T.no_range (pa_cons pe_int pa_nil))
          (blkOk_by (N := n__law_names) (sc := defScope s__law_names) (by decide +kernel)) (fun _ _ _ _ _ => pg_name (i := 8) sc__law_names.nd rfl (Or.inl rfl))
          (fun _ _ _ _ _ => pts_nil) (fun _ _ _ _ _ => pe_op op_mod (pe_op op_mod (pe_op op_mul (pv 0) (pe_op op_add pe_int (pe_op op_mul pe_int (pv 8)))) (pe_ix (r := rIxL K) ix_list (pv 3) (pv 8) (fun _ _ => rfl))) pe_int))
        (pss_cons (ps_set (i := 7) sc__law_names.nd rfl (.inl rfl) (pe_op op_add pe_int (pe_op op_mod (pv 1) pe_int)))
        (pss_cons (ps_if (pt_cmpR op_eq (pe_op op_mod (pe_op op_fdiv (pv 1) pe_int) pe_int) pe_int (nomark _))
          (pss_one (ps_set (i := 7) sc__law_names.nd rfl (.inl rfl) (pe_op op_add pe_int (pe_op op_mod (pe_op op_add (pv 1) (pv 5)) pe_int))))
          (pss_one (ps_asg (pe_op op_mod (pe_op op_add (pe_ix ix_list (pv 6) (pe_op op_mod (pe_op op_fdiv (pv 1) pe_int) (pv 7)) (fun _ _ => rfl)) (pv 5)) pe_int) (pg_sub (pv 6) (pe_op op_mod (pe_op op_fdiv (pv 1) pe_int) (pv 7)) set_list))))
        (pss_one (ps_expr (pe_bm PySem.F.plainAttrs_list PySem.F.slot_list_append PySem.F.type_list_append mt_append (pv 4) (pa_cons
          (pe_join pe_str (pe_lc (own := [("_law_sign", 9)]) (g := gName 9) rfl sc__law_names.nd (pi_list (pe_slice sl_list (pv 6) po_none (po_some (pv 7)))) (blkOk_by (N := n__law_names) (sc := defScope s__law_names) (by decide +kernel)) (fun _ _ _ _ _ => pg_name (i := 9) sc__law_names.nd rfl (Or.inl rfl))
            (fun _ _ _ _ _ => pts_nil) (fun _ _ _ _ _ => pe_ix (r := rIxS) ix_str (pv 2) (pv 9) (fun _ _ => rfl)))) pa_nil))))))))
      (pss_one (ps_ret (pv 4)))))), ?_⟩
    refine ⟨by show (8 : Nat) ≤ sizeLine; decide, fun pr hpr => ⟨by show (0 : Nat) ≤ sizeLine; decide, fun so hso => ?_⟩⟩
    have hpr1 : (upd H pr (.lst (primesL.map V.int))) pr = some (.lst (primesL.map V.int)) := upd_same
    have hso0 : H so = none := (same_new hpr).free hso
    have nps : pr ≠ so := ne_of_none hpr1 hso
    have s0 : Same H (upd (upd H pr (.lst (primesL.map V.int))) so (.lst [])) := (same_new hpr).trans (same_new hso)
    have hpr2 : (upd (upd H pr (.lst (primesL.map V.int))) so (.lst [])) pr = some (.lst (primesL.map V.int)) := by rw [upd_ne nps]; exact hpr1
    have hso2 : (upd (upd H pr (.lst (primesL.map V.int))) so (.lst [])) so = some (.lst []) := upd_same
    have p26 : (0 : Int) < 26 := by decide
    have p8 : (0 : Int) < 8 := by decide
    have p3 : (0 : Int) < 3 := by decide
    refine ⟨_, rfl, by decide, by decide, for_it walk_range
      (fun i σ' H' => Same H H' ∧ H' pr = some (.lst (primesL.map V.int)) ∧ H' so = some (.lst (((List.range i).map fun k => nameS (nameL cell more k)).map V.str)) ∧
        ∃ v5 v6 v7, σ' = [some (.int cell), some (.int more), some (.str abc), some (.ref pr), some (.ref so), v5, v6, v7, none, none]) ⟨s0, hpr2, hso2, _, _, _, rfl⟩ (fun _ _ _ _ _ => trivial) ?_ ?_⟩
    · rintro i v σ' H1 H2 hi ⟨s1, hp, hs, v5, v6, v7, rfl⟩ ⟨rfl, rfl⟩
      refine ⟨_, rfl, by decide, by decide, fun D hD => lc_it walk_range (fun j H' => Same H2 H' ∧ H' D = some (.lst (((List.range j).map (sgn cell)).map V.int))) ⟨same_new hD, upd_same⟩ (fun _ _ _ _ => trivial) ?_ ?_⟩
      · rintro j v' H3 H4 hj ⟨s3, hD3⟩ ⟨rfl, rfl⟩
        have hj8 : j < 8 := hj
        obtain ⟨pa, pp⟩ := prime_at hj8
        refine ⟨rfl, tYes_if ?_⟩
        refine ⟨_, rfl, _, rfl, _, _, rfl, rfl, .inl ⟨by decide, by decide⟩, _, _, rfl, rfl, _, _, rfl, rfl, .inr ⟨by omega, by omega⟩, _, rfl, _, rfl, pr, _, _, .int (primesL.getD j 1), rfl, rfl, SqL.of (s3 _ _ hp), ?_, _, _, rfl, rfl, pp, _, _, rfl, rfl, p26, _, hD3, small1000 ?_, same_upd s3 hD, ?_⟩
        · rw [Int.zero_add]; exact atI_nat pa
        · rw [List.length_map, List.length_map, List.length_range]; omega
        · rw [upd_same, List.range_succ, List.map_append, List.map_append, Int.zero_add]; rfl
      · rintro H4 ⟨s3, hD3⟩
        have hD3 : H4 D = some (.lst ((sigs cell).map V.int)) := hD3
        have nDs : so ≠ D := ne_of_none hs hD
        have nDp : pr ≠ D := ne_of_none hp hD
        have hD0 : H D = none := s1.free hD
        have hn0 : 0 < 1 + more % 8 := by omega
        have hp0 := Int.emod_nonneg (more / 24) (show (1 + more % 8) ≠ 0 by omega)
        have hp1 := Int.emod_lt_of_pos (more / 24) hn0
        refine ⟨_, rfl, _, _, rfl, rfl, p8, _, _, rfl, rfl, ?_⟩
        refine ⟨_, rfl, _, _, rfl, rfl, ⟨by decide, by decide⟩, _, _, rfl, rfl, p3, rfl, _, rfl, ?_⟩
        by_cases c : more / 8 % 3 = 1
        · have eL : nameL cell more i = (sigs cell).take (1 + (more + (i : Int)) % 8).toNat := by unfold nameL; rw [if_pos c]
          have sH4 := s1.trans s3
          have hso4 := s3 _ _ hs
          have hpr4 := s3 _ _ hp
          refine iteDT (congrArg V.int c) ⟨_, rfl, _, rfl, _, _, rfl, rfl, _, _, rfl, rfl, p8, _, _, rfl, rfl, ?_⟩
          rw [Int.zero_add]
          refine ⟨_, rfl, .inl ⟨rfl, _, SqL.of hso4⟩, ⟨_, rfl⟩, _, rfl, _, rfl, _, rfl, D, _, rfl, SqL.of hD3, fun p2 hp2 => ⟨p2, rfl, ⟨_, SqL.of upd_same⟩, fun D2 hD2 => ?_⟩⟩
          rw [cut_to _ (by omega), ← eL] at hD2 ⊢
          have s5 : Same H4 (upd H4 p2 (.lst ((nameL cell more i).map V.int))) := same_new hp2
          have hP2 : (upd H4 p2 (.lst ((nameL cell more i).map V.int))) p2 = some (.lst ((nameL cell more i).map V.int)) := upd_same
          generalize upd H4 p2 (.lst ((nameL cell more i).map V.int)) = H5 at s5 hP2 hD2 ⊢
          refine lc_it (walk_list (xs := (nameL cell more i).map V.int)) (fun j H' => Same H5 H' ∧ H' D2 = some (.lst ((((nameL cell more i).take j).map fun g => (⟨#[97 + g.toNat]⟩ : Str)).map V.str))) ⟨same_new hD2, upd_same⟩ (fun _ _ _ p => SqL.of (p.1 _ _ hP2)) ?_ ?_
          · rintro j v' H6 H7 hj ⟨s6, hA⟩ ⟨rfl, hv⟩
            obtain ⟨g, hg, rfl⟩ := map_at hv
            have sg := nameL_sig (List.mem_of_getElem? hg)
            refine ⟨rfl, tYes_if ⟨_, rfl, _, rfl, abc, g, 97 + g.toNat, rfl, rfl, by show (26 : Nat) ≤ sizeLine; decide, atI_ok sg.1 (abc_at sg), _, hA, small1000 ?_, same_upd s6 hD2, ?_⟩⟩
            · obtain ⟨_, h8⟩ := nameL_len cell more i
              rw [List.length_map, List.length_map, List.length_take]; omega
            · rw [upd_same, take_next hg, List.map_append, List.map_append]; rfl
          · rintro H6 ⟨s6, hA⟩
            rw [List.length_map, list_end] at hA
            obtain ⟨h1, h8⟩ := nameL_len cell more i
            refine ⟨"", D2, _, rfl, rfl, .inl (SqL.of hA), ?_, so, _, _, rfl, rfl, s6 _ _ (s5 _ _ hso4), small1000 ?_, ?_⟩
            · have e0 : ∀ l : List Int, ((l.map fun g => (⟨#[97 + g.toNat]⟩ : Str)).map (·.length)).sum = l.length := by
                intro l
                induction l with
                | nil => rfl
                | cons x l ih => rw [List.map_cons, List.map_cons, List.sum_cons, ih, List.length_cons]; show 1 + l.length = _; omega
              rw [e0]
              show (nameL cell more i).length + _ * 0 ≤ 16777216
              omega
            · rw [List.length_map, List.length_map, List.length_range]; exact Nat.le_of_lt (Nat.lt_of_lt_of_le hi (by decide))
            · rw [join_name]
              refine ⟨same_upd (((sH4.trans s5).trans s6)) hso0, ?_, ?_, _, _, _, rfl⟩
              · rw [upd_ne nps]; exact s6 _ _ (s5 _ _ hpr4)
              · rw [upd_same, List.range_succ, List.map_append, List.map_append]; rfl
        · refine iteDF (by intro z; exact c (V.int.inj z)) ?_
          have hlt : (more / 24 % (1 + more % 8)).toNat < 8 := by omega
          have hat : ((sigs cell).map V.int)[(more / 24 % (1 + more % 8)).toNat]? = some (.int (sgn cell (more / 24 % (1 + more % 8)).toNat)) := by
            unfold sigs
            rw [List.getElem?_map, List.getElem?_map, List.getElem?_range hlt]; rfl
          refine ⟨_, rfl, _, rfl, _, _, rfl, rfl, ⟨by decide, by decide⟩, _, rfl, _, _, rfl, rfl, hn0, D, _, _, _, rfl, rfl, SqL.of hD3, atI_ok hp0 hat, _, rfl, _, _, rfl, rfl, _, _, rfl, rfl, p26,
            _, rfl, _, rfl, _, _, rfl, rfl, ⟨by decide, by decide⟩, _, rfl, _, _, rfl, rfl, hn0, D, _, _, _, rfl, rfl, hD3, ixN_ok hp0 (by rw [List.length_map, sigs_len]; omega), ?_⟩
          rw [Int.zero_add]
          have eL : nameL cell more i = ((sigs cell).set (more / 24 % (1 + more % 8)).toNat (((sgn cell (more / 24 % (1 + more % 8)).toNat) + i) % 26)).take (1 + more % 8).toNat := by unfold nameL; rw [if_neg c]
          have eS : ((sigs cell).map V.int).set (more / 24 % (1 + more % 8)).toNat (.int (((sgn cell (more / 24 % (1 + more % 8)).toNat) + (i : Int)) % 26)) = ((sigs cell).set (more / 24 % (1 + more % 8)).toNat (((sgn cell (more / 24 % (1 + more % 8)).toNat) + i) % 26)).map V.int := by rw [List.map_set]
          rw [eS]
          have sH4 : Same H (upd H4 D (.lst (((sigs cell).set (more / 24 % (1 + more % 8)).toNat (((sgn cell (more / 24 % (1 + more % 8)).toNat) + i) % 26)).map V.int))) := same_upd (s1.trans s3) hD0
          have hso4 : (upd H4 D (.lst (((sigs cell).set (more / 24 % (1 + more % 8)).toNat (((sgn cell (more / 24 % (1 + more % 8)).toNat) + i) % 26)).map V.int))) so = some (.lst (((List.range i).map fun k => nameS (nameL cell more k)).map V.str)) := by rw [upd_ne nDs]; exact s3 _ _ hs
          have hpr4 : (upd H4 D (.lst (((sigs cell).set (more / 24 % (1 + more % 8)).toNat (((sgn cell (more / 24 % (1 + more % 8)).toNat) + i) % 26)).map V.int))) pr = some (.lst (primesL.map V.int)) := by rw [upd_ne nDp]; exact s3 _ _ hp
          have hD4 : (upd H4 D (.lst (((sigs cell).set (more / 24 % (1 + more % 8)).toNat (((sgn cell (more / 24 % (1 + more % 8)).toNat) + i) % 26)).map V.int))) D = some (.lst (((sigs cell).set (more / 24 % (1 + more % 8)).toNat (((sgn cell (more / 24 % (1 + more % 8)).toNat) + i) % 26)).map V.int)) := upd_same
          generalize upd H4 D (.lst (((sigs cell).set (more / 24 % (1 + more % 8)).toNat (((sgn cell (more / 24 % (1 + more % 8)).toNat) + i) % 26)).map V.int)) = H4' at sH4 hso4 hpr4 hD4 ⊢
          refine ⟨_, rfl, .inl ⟨rfl, _, SqL.of hso4⟩, ⟨_, rfl⟩, _, rfl, _, rfl, _, rfl, D, _, rfl, SqL.of hD4, fun p2 hp2 => ⟨p2, rfl, ⟨_, SqL.of upd_same⟩, fun D2 hD2 => ?_⟩⟩
          rw [cut_to _ (by omega), ← eL] at hD2 ⊢
          have s5 : Same H4' (upd H4' p2 (.lst ((nameL cell more i).map V.int))) := same_new hp2
          have hP2 : (upd H4' p2 (.lst ((nameL cell more i).map V.int))) p2 = some (.lst ((nameL cell more i).map V.int)) := upd_same
          generalize upd H4' p2 (.lst ((nameL cell more i).map V.int)) = H5 at s5 hP2 hD2 ⊢
          refine lc_it (walk_list (xs := (nameL cell more i).map V.int)) (fun j H' => Same H5 H' ∧ H' D2 = some (.lst ((((nameL cell more i).take j).map fun g => (⟨#[97 + g.toNat]⟩ : Str)).map V.str))) ⟨same_new hD2, upd_same⟩ (fun _ _ _ p => SqL.of (p.1 _ _ hP2)) ?_ ?_
          · rintro j v' H6 H7 hj ⟨s6, hA⟩ ⟨rfl, hv⟩
            obtain ⟨g, hg, rfl⟩ := map_at hv
            have sg := nameL_sig (List.mem_of_getElem? hg)
            refine ⟨rfl, tYes_if ⟨_, rfl, _, rfl, abc, g, 97 + g.toNat, rfl, rfl, by show (26 : Nat) ≤ sizeLine; decide, atI_ok sg.1 (abc_at sg), _, hA, small1000 ?_, same_upd s6 hD2, ?_⟩⟩
            · obtain ⟨_, h8⟩ := nameL_len cell more i
              rw [List.length_map, List.length_map, List.length_take]; omega
            · rw [upd_same, take_next hg, List.map_append, List.map_append]; rfl
          · rintro H6 ⟨s6, hA⟩
            rw [List.length_map, list_end] at hA
            obtain ⟨h1, h8⟩ := nameL_len cell more i
            refine ⟨"", D2, _, rfl, rfl, .inl (SqL.of hA), ?_, so, _, _, rfl, rfl, s6 _ _ (s5 _ _ hso4), small1000 ?_, ?_⟩
            · have e0 : ∀ l : List Int, ((l.map fun g => (⟨#[97 + g.toNat]⟩ : Str)).map (·.length)).sum = l.length := by
                intro l
                induction l with
                | nil => rfl
                | cons x l ih => rw [List.map_cons, List.map_cons, List.sum_cons, ih, List.length_cons]; show 1 + l.length = _; omega
              rw [e0]
              show (nameL cell more i).length + _ * 0 ≤ 16777216
              omega
            · rw [List.length_map, List.length_map, List.length_range]; exact Nat.le_of_lt (Nat.lt_of_lt_of_le hi (by decide))
            · rw [join_name]
              refine ⟨same_upd (((sH4.trans s5).trans s6)) hso0, ?_, ?_, _, _, _, rfl⟩
              · rw [upd_ne nps]; exact s6 _ _ (s5 _ _ hpr4)
              · rw [upd_same, List.range_succ, List.map_append, List.map_append]; rfl
    · rintro σ' H1 ⟨s1, hp, hs, v5, v6, v7, rfl⟩
      exact ⟨_, rfl, q H1 so _ s1 hso0 hs (namesL_ok cell more)⟩
end
end K43
set_option Elab.async false
set_option linter.all false
set_option maxRecDepth 100000
set_option maxHeartbeats 4000000
namespace K43
open PySem PySem.Spec PyProof.Rows L2
/-! ### drawn kinds -/
def manyL : List Int := [1, 1, 2, 2, 2, 2, 2, 2, 2, 2, 3, 3, 3, 3, 3, 4]
def stepsLL : List Int := [1, 4, 5, 7]
theorem many_at {i : Nat} (h : i < 16) : ∃ m : Nat, (manyL.map V.int)[i]? = some (.int (m : Int)) ∧ 1 ≤ m ∧ m ≤ 4 := by
  have all : ∀ i < 16, ∃ m ∈ [1, 2, 3, 4], manyL[i]? = some ((m : Nat) : Int) := by decide +kernel
  obtain ⟨m, hm, e⟩ := all i h
  refine ⟨m, by rw [List.getElem?_map, e]; rfl, ?_⟩
  simp only [List.mem_cons, List.not_mem_nil, or_false] at hm
  omega
theorem step_at {i : Nat} (h : i < 4) : ∃ s : Int, (stepsLL.map V.int)[i]? = some (.int s) ∧ (s = 1 ∨ s = 4 ∨ s = 5 ∨ s = 7) := by
  have all : ∀ i < 4, ∃ s ∈ [1, 4, 5, 7], stepsLL[i]? = some (s : Int) := by decide +kernel
  obtain ⟨s, hs, e⟩ := all i h
  refine ⟨s, by rw [List.getElem?_map, e]; rfl, ?_⟩
  simp only [List.mem_cons, List.not_mem_nil, or_false] at hs
  exact hs
def spotL (c s : Int) (k : Nat) : Int := (c / 64 + s * (k : Int)) % 16
def kindL (xs ys : List Str) (c s : Int) (k : Nat) : Kd := (xs.getD (spotL c s k % 4).toNat "", ys.getD (spotL c s k / 4).toNat "")
theorem Names.at_ {xs : List Str} (h : Names xs) {i : Nat} (hi : i < 4) : xs[i]? = some (xs.getD i "") ∧ NameOk (xs.getD i "") := by
  have hl := h.len
  have e : xs[i]? = some (xs.getD i "") := by
    rw [List.getD_eq_getElem?_getD, List.getElem?_eq_getElem (by omega)]; rfl
  exact ⟨e, h.ok _ (List.mem_of_getElem? e)⟩
theorem Names.inj {xs : List Str} (h : Names xs) {i j : Nat} (hi : i < 4) (hj : j < 4) (e : xs.getD i "" = xs.getD j "") : i = j := by
  have hl := h.len
  have h1 := (h.at_ hi).1
  have h2 := (h.at_ hj).1
  rw [e, ← h2] at h1
  exact (List.getElem?_inj (by omega) h.nd).mp h1
theorem spot_ok (c s : Int) (k : Nat) : 0 ≤ spotL c s k ∧ spotL c s k < 16 := by
  unfold spotL
  omega
theorem kindL_ok {xs ys : List Str} (hx : Names xs) (hy : Names ys) (c s : Int) (k : Nat) : KdOk (kindL xs ys c s k) := by
  have := spot_ok c s k
  exact ⟨(hx.at_ (by omega)).2, (hy.at_ (by omega)).2⟩
theorem kindL_inj {xs ys : List Str} (hx : Names xs) (hy : Names ys) {c s : Int} (hs : s = 1 ∨ s = 4 ∨ s = 5 ∨ s = 7) {i j : Nat} (hi : i < 4) (hj : j < 4) (e : kindL xs ys c s i = kindL xs ys c s j) : i = j := by
  have b1 := spot_ok c s i
  have b2 := spot_ok c s j
  have e1 := hx.inj (by omega) (by omega) (congrArg Prod.fst e)
  have e2 := hy.inj (by omega) (by omega) (congrArg Prod.snd e)
  have e3 : spotL c s i = spotL c s j := by omega
  unfold spotL at e3
  rcases hs with rfl | rfl | rfl | rfl <;> omega
theorem kinds_nd {xs ys : List Str} (hx : Names xs) (hy : Names ys) {c s : Int} (hs : s = 1 ∨ s = 4 ∨ s = 5 ∨ s = 7) {m : Nat} (hm : m ≤ 4) : ((List.range m).map (kindL xs ys c s)).Nodup := by
  rw [List.nodup_iff_pairwise_ne, List.pairwise_map]
  refine List.Pairwise.imp_of_mem (R := fun a b => a ≠ b) ?_ List.nodup_range
  intro i j hi hj hne e
  have := List.mem_range.mp hi
  have := List.mem_range.mp hj
  exact hne (kindL_inj hx hy hs (by omega) (by omega) e)
section
variable {P : Program} {w : World} {K : PySem.W.Frag} {mg : Str → Option Value} {base : Heap}
def spKinds (K : PySem.W.Frag) : Sp := fun vs H Q _ => ∃ (a : Addr) (ns : List Int), vs = [.ref a] ∧ SqL K H a (ns.map V.int) ∧
  ∀ (H' : Hp) (b : Addr) (ps : List Addr) (ks : List Kd), Same H H' → H b = none → Kds K H' b ps ks → Q (.ref b) H'
theorem ok_law_kinds (T : Txt K mg) : Ok P w K mg base 2 (He.ga K "_law_kinds") ["_law_script"] (spKinds K) := by
  refine def__law_kinds T (fun vs H Q E h => ?_) (fun cdv A outer s H vs Q E hr h => ?_)
  · obtain ⟨a, ns, rfl, _⟩ := h; rfl
  · obtain ⟨a, ns, rfl, hA, q⟩ := h
    refine ⟨_, pss_cons (ps_set (i := 1) sc__law_kinds.nd rfl (.inl rfl) (pe_callO (ok_cell_at T) hr (by rfl) T.mg__law_cell_at (pa_cons (pv 0) (pa_cons pe_int pa_nil))))
      (pss_cons (ps_set (i := 2) sc__law_kinds.nd rfl (.inl rfl) (pe_callO (ok_names T) hr (by rfl) T.mg__law_names (pa_cons (pe_callO (ok_cell_at T) hr (by rfl) T.mg__law_cell_at (pa_cons (pv 0) (pa_cons pe_int pa_nil))) (pa_cons (pe_callO (ok_cell_at T) hr (by rfl) T.mg__law_cell_at (pa_cons (pv 0) (pa_cons pe_int pa_nil))) pa_nil))))
      (pss_cons (ps_set (i := 3) sc__law_kinds.nd rfl (.inl rfl) (pe_callO (ok_names T) hr (by rfl) T.mg__law_names (pa_cons (pe_callO (ok_cell_at T) hr (by rfl) T.mg__law_cell_at (pa_cons (pv 0) (pa_cons pe_int pa_nil))) (pa_cons (pe_callO (ok_cell_at T) hr (by rfl) T.mg__law_cell_at (pa_cons (pv 0) (pa_cons pe_int pa_nil))) pa_nil))))
      (pss_cons (ps_set (i := 4) sc__law_kinds.nd rfl (.inl rfl) (pe_ix ix_list (pe_lst (pa_cons pe_int (pa_cons pe_int (pa_cons pe_int (pa_cons pe_int (pa_cons pe_int (pa_cons pe_int (pa_cons pe_int (pa_cons pe_int (pa_cons pe_int (pa_cons pe_int (pa_cons pe_int (pa_cons pe_int (pa_cons pe_int (pa_cons pe_int (pa_cons pe_int (pa_cons pe_int pa_nil))))))))))))))))) (pe_op op_mod (pv 1) pe_int) (fun _ _ => rfl)))
      (pss_cons (ps_set (i := 5) sc__law_kinds.nd rfl (.inl rfl) (pe_ix ix_list (pe_lst (pa_cons pe_int (pa_cons pe_int (pa_cons pe_int (pa_cons pe_int pa_nil))))) (pe_op op_mod (pe_op op_fdiv (pv 1) pe_int) pe_int) (fun _ _ => rfl)))
      (pss_cons (ps_set (i := 6) sc__law_kinds.nd rfl (.inl rfl) (pe_lst pa_nil))
      (pss_cons (ps_for PassesOwn.never rfl (pi_range1 (by rfl) T.no_range (pa_cons (pv 4) pa_nil)) (pg_name (i := 7) sc__law_kinds.nd rfl (.inl rfl))
        (pss_cons (ps_set (i := 8) sc__law_kinds.nd rfl (.inl rfl) (pe_op op_mod (pe_op op_add (pe_op op_fdiv (pv 1) pe_int) (pe_op op_mul (pv 5) (pv 7))) pe_int))
        (pss_one (ps_expr (pe_bm PySem.F.plainAttrs_list PySem.F.slot_list_append PySem.F.type_list_append mt_append (pv 6) (pa_cons (pe_tup (pa_cons (pe_ix ix_list (pv 2) (pe_op op_mod (pv 8) pe_int) (fun _ _ => rfl)) (pa_cons (pe_ix ix_list (pv 3) (pe_op op_fdiv (pv 8) pe_int) (fun _ _ => rfl)) pa_nil))) pa_nil))))))
      (pss_one (ps_ret (pv 6))))))))), ?_⟩
    have p16 : (0 : Int) < 16 := by decide
    have p4 : (0 : Int) < 4 := by decide
    refine ⟨_, rfl, a, ns, 0, rfl, hA, ?_⟩
    generalize cellL ns 0 = c
    refine ⟨_, rfl, a, ns, 1, rfl, hA, _, rfl, a, ns, 2, rfl, hA, _, _, rfl, fun H1 bx xs s1 hbx hX nX => ?_⟩
    refine ⟨_, rfl, a, ns, 3, rfl, SqL.keep hA s1, _, rfl, a, ns, 4, rfl, SqL.keep hA s1, _, _, rfl, fun H2 by_ ys s2 hby hY nY => ?_⟩
    have s02 := s1.trans s2
    obtain ⟨m, hm, m1, m4⟩ := many_at (i := (c % 16).toNat) (by omega)
    obtain ⟨sp, hsp, spc⟩ := step_at (i := (c / 16 % 4).toNat) (by omega)
    refine ⟨by show (16 : Nat) ≤ sizeLine; decide, fun q1 hq1 => ⟨_, rfl, _, _, rfl, rfl, p16, q1, manyL.map V.int, _, _, rfl, rfl, SqL.of upd_same, atI_ok (by omega) hm, ?_⟩⟩
    have s3 : Same H2 (upd H2 q1 (.lst (manyL.map V.int))) := same_new hq1
    refine ⟨by show (4 : Nat) ≤ sizeLine; decide, fun q2 hq2 => ⟨_, rfl, _, _, rfl, rfl, ⟨by decide, by decide⟩, _, _, rfl, rfl, p4, q2, stepsLL.map V.int, _, _, rfl, rfl, SqL.of upd_same, atI_ok (by omega) hsp, ?_⟩⟩
    have s4 : Same H2 (upd (upd H2 q1 (.lst (manyL.map V.int))) q2 (.lst (stepsLL.map V.int))) := s3.trans (same_new hq2)
    refine ⟨by show (0 : Nat) ≤ sizeLine; decide, fun so hso => ?_⟩
    have hso4 : (upd H2 q1 (.lst (manyL.map V.int))) so = none := (same_new hq2).free hso
    have hso0 : H so = none := s02.free (s3.free hso4)
    have s5 : Same H2 (upd (upd (upd H2 q1 (.lst (manyL.map V.int))) q2 (.lst (stepsLL.map V.int))) so (.lst [])) := s4.trans (same_new hso)
    have hs5 : (upd (upd (upd H2 q1 (.lst (manyL.map V.int))) q2 (.lst (stepsLL.map V.int))) so (.lst [])) so = some (.lst []) := upd_same
    have hX5 := s5 _ _ (s2 _ _ hX)
    have hY5 := s5 _ _ hY
    have nxs : bx ≠ so := ne_of_none (s4 _ _ (s2 _ _ hX)) hso
    have nys : by_ ≠ so := ne_of_none (s4 _ _ hY) hso
    refine ⟨_, rfl, _, rfl, by omega, by omega, for_it walk_range
      (fun i σ' H' => Same H H' ∧ H' bx = some (.lst (xs.map V.str)) ∧ H' by_ = some (.lst (ys.map V.str)) ∧ (∃ ps : List Addr, H' so = some (.lst (ps.map V.ref)) ∧ KdsAt H' ps ((List.range i).map (kindL xs ys c sp))) ∧
        ∃ v7 v8, σ' = [some (.ref a), some (.int c), some (.ref bx), some (.ref by_), some (.int (m : Int)), some (.int sp), some (.ref so), v7, v8]) ⟨s02.trans s5, hX5, hY5, ⟨[], hs5, .nil⟩, _, _, rfl⟩ (fun _ _ _ _ _ => trivial) ?_ ?_⟩
    · rintro i v σ' H3 H4 hi ⟨s6, hX, hY, ⟨ps, hS, hK⟩, v7, v8, rfl⟩ ⟨rfl, rfl⟩
      have hi4 : i < 4 := by
        have : i < (m : Int).toNat := hi
        omega
      have b := spot_ok c sp i
      have hl := Paired.length hK
      rw [List.length_map, List.length_range] at hl
      obtain ⟨ax, okx⟩ := nX.at_ (show (spotL c sp i % 4).toNat < 4 by omega)
      obtain ⟨ay, oky⟩ := nY.at_ (show (spotL c sp i / 4).toNat < 4 by omega)
      have ax2 : (xs.map V.str)[(spotL c sp i % 4).toNat]? = some (.str (xs.getD (spotL c sp i % 4).toNat "")) := by rw [List.getElem?_map, ax]; rfl
      have ay2 : (ys.map V.str)[(spotL c sp i / 4).toNat]? = some (.str (ys.getD (spotL c sp i / 4).toNat "")) := by rw [List.getElem?_map, ay]; rfl
      refine ⟨_, rfl, _, _, rfl, rfl, ⟨by decide, by decide⟩, _, rfl, _, rfl, _, _, rfl, rfl, .inl ⟨by omega, by omega⟩, _, _, rfl, rfl, _, _, rfl, rfl, p16, ?_⟩
      rw [Int.zero_add]
      refine ⟨_, rfl, .inl ⟨rfl, _, SqL.of hS⟩, _, rfl, _, rfl, _, _, rfl, rfl, p4, bx, _, _, _, rfl, rfl, SqL.of hX, atI_ok (by omega) ax2, _, rfl, _, rfl, _, _, rfl, rfl, ⟨by decide, by decide⟩, by_, _, _, _, rfl, rfl, SqL.of hY, atI_ok (by omega) ay2,
        by show (2 : Nat) ≤ sizeLine; decide, fun p hp => ⟨so, _, _, rfl, rfl, same_new hp _ _ hS, small1000 (by rw [List.length_map]; omega), ?_⟩⟩
      have nso : so ≠ p := ne_of_none hS hp
      have s7 : Same H4 (upd H4 p (.tup [.str (xs.getD (spotL c sp i % 4).toNat ""), .str (ys.getD (spotL c sp i / 4).toNat "")])) := same_new hp
      have hP : (upd H4 p (.tup [.str (xs.getD (spotL c sp i % 4).toNat ""), .str (ys.getD (spotL c sp i / 4).toNat "")])) p = some (.tup [.str (xs.getD (spotL c sp i % 4).toNat ""), .str (ys.getD (spotL c sp i / 4).toNat "")]) := upd_same
      show Same H (upd (upd H4 p (.tup [.str (xs.getD (spotL c sp i % 4).toNat ""), .str (ys.getD (spotL c sp i / 4).toNat "")])) so _) ∧ _
      generalize upd H4 p (.tup [.str (xs.getD (spotL c sp i % 4).toNat ""), .str (ys.getD (spotL c sp i / 4).toNat "")]) = H5 at s7 hP ⊢
      have hS5 := s7 _ _ hS
      refine ⟨same_upd (s6.trans s7) hso0, ?_, ?_, ⟨ps ++ [p], ?_, ?_⟩, _, _, rfl⟩
      · rw [upd_ne nxs]; exact s7 _ _ hX
      · rw [upd_ne nys]; exact s7 _ _ hY
      · rw [upd_same, List.map_append]; rfl
      · rw [List.range_succ, List.map_append]
        refine paired_app (Paired.mapP hK fun q k r => ?_) (.cons ?_ .nil)
        · have r2 := s7 _ _ r
          show upd H5 so _ q = _
          rw [upd_ne (ne_of r2 hS5 (by intro z; cases z))]
          exact r2
        · show upd H5 so _ p = _
          rw [upd_ne nso.symm]
          exact hP
    · rintro σ' H3 ⟨s6, hX, hY, ⟨ps, hS, hK⟩, v7, v8, rfl⟩
      have e : (m : Int).toNat = m := Int.toNat_natCast m
      rw [e] at hK
      refine ⟨_, rfl, q H3 so ps _ s6 hso0 ⟨hS, hK, ?_, kinds_nd nX nY spc m4, by rw [List.length_map, List.length_range]; exact m1, by rw [List.length_map, List.length_range]; exact m4⟩⟩
      intro k hk
      obtain ⟨i, _, e⟩ := List.mem_map.mp hk
      rw [← e]
      exact kindL_ok nX nY c sp i
def spThere (K : PySem.W.Frag) : Sp := fun vs H Q _ => ∃ (a l : Addr) (ps : List Addr) (ks : List Kd) (lk : List Int) (sd : Int) (nm : Str) (least : Int),
  vs = [.ref a, .ref l, .int sd, .str nm, .int least] ∧ Kds K H a ps ks ∧ H l = some (.tup (lk.map V.int)) ∧ lk.length = ks.length ∧ (sd = 0 ∨ sd = 1) ∧ Q (.bl (hasL ks lk sd nm least)) H
theorem ok_there (T : Txt K mg) : Ok P w K mg base 1 (He.ga K "_law_there") ["_law_kinds_here", "_law_look", "_law_side", "_law_name", "_law_least"] (spThere K) := by
  refine def__law_there T (fun vs H Q E h => ?_) (fun cdv A outer s H vs Q E hr h => ?_)
  · obtain ⟨a, l, ps, ks, lk, sd, nm, least, rfl, _⟩ := h; rfl
  · obtain ⟨a, l, ps, ks, lk, sd, nm, least, rfl, D, hL, hlen, hsd, q⟩ := h
    have hpl := D.len
    have hhi := D.hi
    refine ⟨_, pss_cons (ps_for PassesOwn.never rfl (pi_range1 (by rfl) T.no_range (pa_cons (pe_callB call_len_seq (by rfl) T.no_len PySem.boot_len (pa_cons (pv 0) pa_nil)) pa_nil)) (pg_name (i := 5) sc__law_there.nd rfl (.inl rfl))
        (pss_one (ps_if (PW.pt (pw_and (pt_cmpR op_ge (pe_ix ix_tup (pv 1) (pv 5) (fun _ _ => rfl)) (pv 4) (nomark _))
          (pw_and1 (pt_cmpR op_eq (pe_ix ix_tup (pe_ix ix_list (pv 0) (pv 5) (fun _ _ => rfl)) (pv 2) (fun _ _ => rfl)) (pv 3) (nomark _))))) (pss_one (ps_ret pe_bl)) pss_nil)))
      (pss_one (ps_ret pe_bl)), ?_⟩
    refine ⟨_, rfl, a, _, rfl, .inl (SqL.of D.lst), _, rfl, by omega, by rw [List.length_map]; omega, for_it walk_range
      (fun i σ' H' => H' = H ∧ ((ks.zip lk).take i).any (fun p => decide (least ≤ p.2) && decide (sideL sd p.1 = nm)) = false ∧ ∃ v, σ' = [some (.ref a), some (.ref l), some (.int sd), some (.str nm), some (.int least), v])
      ⟨rfl, by simp, _, rfl⟩ (fun _ _ _ _ _ => trivial) ?_ ?_⟩
    · rintro i v σ' H2 H1 hi ⟨rfl, hno, v', rfl⟩ ⟨rfl, rfl⟩
      have hi' : i < ks.length := by
        have := hi
        rw [List.length_map] at this
        omega
      have hil : i < lk.length := by omega
      have hip : i < ps.length := by omega
      obtain ⟨k, hk, hpk⟩ := paired_at D.at_ (List.getElem?_eq_getElem hip)
      have hz := zip_at hk (List.getElem?_eq_getElem hil)
      refine ⟨_, rfl, _, rfl, l, _, _, .int lk[i], rfl, rfl, SqT.of hL, ?_, _, rfl, _, _, rfl, rfl, _, rfl, ?_⟩
      · rw [Int.zero_add]; exact atI_nat (by simp [hil])
      · by_cases h0 : least ≤ lk[i]
        · rw [decide_eq_true h0]
          refine iteT ⟨_, rfl, _, rfl, a, _, _, .ref ps[i], rfl, rfl, SqL.of D.lst, ?_, _, rfl, ps[i], _, _, .str (sideL sd k), rfl, rfl, SqT.of hpk, ?_, _, rfl, rfl, _, rfl, ?_⟩
          · rw [Int.zero_add]; exact atI_nat (by simp [hip])
          · rcases hsd with rfl | rfl <;> rfl
          · by_cases h1 : sideL sd k = nm
            · refine iteDT (by rw [h1]) ?_
              have e : hasL ks lk sd nm least = true := List.any_eq_true.mpr ⟨_, List.mem_of_getElem? hz, by rw [decide_eq_true h0, decide_eq_true h1]; rfl⟩
              rw [e] at q
              exact q
            · refine iteDF (fun z => h1 (by injection z)) ⟨rfl, any_take hz hno ?_, _, rfl⟩
              rw [decide_eq_false h1, Bool.and_false]
        · rw [decide_eq_false h0]
          refine iteF ?_
          refine iteF ⟨rfl, any_take hz hno ?_, _, rfl⟩
          rw [decide_eq_false h0, Bool.false_and]
    · rintro σ' H1 ⟨rfl, hno, v', rfl⟩
      have e : (ks.zip lk).take (((ps.map V.ref).length : Int)).toNat = ks.zip lk := List.take_of_length_le (by rw [List.length_zip, List.length_map]; omega)
      rw [e] at hno
      have e2 : hasL ks lk sd nm least = false := hno
      rw [e2] at q
      exact q
theorem rankL_at {ks : List Kd} {lk : List Int} {kd : Kd} {j : Nat} {v : Int} (nd : ks.Nodup) (hk : ks[j]? = some kd) (hv : lk[j]? = some v) : rankL ks lk kd = v := by
  have hz := zip_at hk hv
  have h0 : ((ks.zip lk).take j).any (fun p => decide (p.1 = kd)) = false := by
    rw [List.any_eq_false]
    intro p hp
    obtain ⟨i, hi, ei⟩ := List.mem_take_iff_getElem.mp hp
    have hij : i < j := by omega
    have e : ks[i]? = some p.1 := by
      have h1 : (ks.zip lk)[i]? = some (p.1, p.2) := by rw [List.getElem?_eq_getElem (by omega), ei]
      exact ((List.getElem?_zip_eq_some).mp h1).1
    simp only [decide_eq_true_eq]
    intro z
    rw [z, ← hk] at e
    have hjl := (List.getElem?_eq_some_iff.mp hk).1
    have := (List.getElem?_inj (by omega) nd).mp e
    omega
  have e := find_take hz h0 (decide_eq_true rfl)
  unfold rankL
  rw [e]
theorem rankL_no {ks : List Kd} {lk : List Int} {kd : Kd} (h : ¬ kd ∈ ks) : rankL ks lk kd = 0 := by
  have e : (ks.zip lk).find? (fun p => decide (p.1 = kd)) = none := by
    rw [List.find?_eq_none]
    intro p hp z
    have h2 : p.1 = kd := of_decide_eq_true z
    have h3 := (List.of_mem_zip (show (p.1, p.2) ∈ ks.zip lk from hp)).1
    rw [h2] at h3
    exact h h3
  unfold rankL
  rw [e]
theorem ok_law_rank (T : Txt K mg) : Ok P w K mg base 1 (He.ga K "_law_rank") ["_law_kinds_here", "_law_look", "_law_kind"] (spRank K) := by
  refine def__law_rank T (fun vs H Q E h => ?_) (fun cdv A outer s H vs Q E hr h => ?_)
  · obtain ⟨a, l, b, ps, ks, lk, kd, rfl, _⟩ := h; rfl
  · obtain ⟨a, l, b, ps, ks, lk, kd, rfl, D, hL, hlen, hB, hkd, q⟩ := h
    refine ⟨_, pss_cons (ps_if (pt_cmpR (op_inD (hu65 hr)) (pv 2) (pv 0) (by rfl)) (pss_one (ps_ret (pe_ix ix_tup (pv 1) (pe_bm PySem.F.plainAttrs_list PySem.F.slot_list_index PySem.F.type_list_index (mt_indexD (hu65 hr)) (pv 0) (pa_cons (pv 2) pa_nil)) (fun _ _ => rfl)))) pss_nil)
      (pss_one (ps_ret pe_int)), ?_⟩
    refine ⟨_, rfl, _, rfl, kD kd, ks.map kD, kD_dp hB, .lst (SqL.of D.lst) (kDs_dp D.at_), kD_shaped hkd, kDs_shaped D.ok, _, rfl, ?_⟩
    rw [kDs_any]
    by_cases h : kd ∈ ks
    · rw [decide_eq_true h]
      obtain ⟨j, hj, ej⟩ := List.mem_iff_getElem.mp h
      have hk : ks[j]? = some kd := by rw [List.getElem?_eq_getElem hj, ej]
      have hjl : j < lk.length := by omega
      rw [rankL_at D.nd hk (List.getElem?_eq_getElem hjl)] at q
      refine iteT ⟨_, rfl, _, rfl, .inl ⟨rfl, _, SqL.of D.lst⟩, _, rfl, a, _, kD kd, ks.map kD, j, kD kd, rfl, rfl, .lst (SqL.of D.lst) (kDs_dp D.at_), kD_dp hB, kDs_shaped D.ok, kD_shaped hkd, ?_, ?_, ?_, l, _, _, .int lk[j], rfl, rfl, SqT.of hL, atI_nat ?_, q⟩
      · rw [List.getElem?_map, hk]; rfl
      · rw [kD_eqv, decide_eq_true rfl]
      · intro m z' hm hz
        obtain ⟨k', hk', rfl⟩ := map_at hz
        rw [kD_eqv]
        refine decide_eq_false fun z => ?_
        rw [z, ← hk] at hk'
        have := (List.getElem?_inj (by omega) D.nd).mp hk'
        omega
      · rw [List.getElem?_map, List.getElem?_eq_getElem hjl]; rfl
    · rw [decide_eq_false h]
      rw [rankL_no h] at q
      exact iteF q
end
end K43
set_option Elab.async false
set_option linter.all false
set_option maxRecDepth 100000
set_option maxHeartbeats 4000000
namespace K43
open PySem PySem.Spec PyProof.Rows L2
section
variable {P : Program} {w : World} {K : PySem.W.Frag} {mg : Str → Option Value} {base : Heap}
/-! ### what a told note claims -/
def spLClaims (K : PySem.W.Frag) (n : Nt) : Sp := fun vs H Q _ => ∃ (p a l : Addr) (ps : List Addr) (ks : List Kd) (lk : List Int),
  vs = [.ref p, .ref a, .ref l] ∧ Kds K H a ps ks ∧ H l = some (.tup (lk.map V.int)) ∧ lk.length = ks.length ∧ TN H n p ∧ Q (.bl (claimsL ks lk n)) H
theorem ok_lclaims_leaf (T : Txt K mg) (n : Nt) (hl : n.leaf = true) : Ok P w K mg base 2 (He.ga K "_law_claims") ["_law_note_here", "_law_kinds_here", "_law_look"] (spLClaims K n) := by
  refine def__law_claims T (fun vs H Q E h => ?_) (fun cdv A outer s H vs Q E hr h => ?_)
  · obtain ⟨p, a, l, ps, ks, lk, rfl, _⟩ := h; rfl
  · obtain ⟨p, a, l, ps, ks, lk, rfl, D, hL, hlen, hN, q⟩ := h
    have hlo := D.lo
    refine ⟨_, pss_cons (ps_set (i := 3) sc__law_claims.nd rfl (.inl rfl) (pe_ix ix_tup (pv 0) pe_int (fun _ _ => rfl)))
      (pss_cons (ps_if (pt_cmpR op_eq (pv 3) pe_str (nomark _)) (pss_one ps_never) pss_nil)
      (pss_cons (ps_if (pt_cmpR op_eq (pv 3) pe_str (nomark _)) (pss_one ps_never) pss_nil)
      (pss_cons (ps_if (pt_cmpR op_eq (pv 3) pe_str (nomark _)) (pss_one ps_never) pss_nil)
      (pss_cons (ps_if (pt_cmpR op_eq (pv 3) pe_str (nomark _)) (pss_one (ps_ret (pe_cmpR op_gt (pe_callO (ok_law_rank T) hr (by rfl) T.mg__law_rank (pa_cons (pv 1) (pa_cons (pv 2) (pa_cons (pe_ix ix_tup (pv 0) pe_int (fun _ _ => rfl)) pa_nil)))) (pe_callO (ok_law_rank T) hr (by rfl) T.mg__law_rank (pa_cons (pv 1) (pa_cons (pv 2) (pa_cons (pe_ix ix_tup (pv 0) pe_int (fun _ _ => rfl)) pa_nil)))) (nomark _)))) pss_nil)
      (pss_cons (ps_if (pt_cmpR op_eq (pv 3) pe_str (nomark _)) (pss_one (ps_ret (pe_callO (ok_there T) hr (by rfl) T.mg__law_there (pa_cons (pv 1) (pa_cons (pv 2) (pa_cons pe_int (pa_cons (pe_ix ix_tup (pv 0) pe_int (fun _ _ => rfl)) (pa_cons pe_int pa_nil)))))))) pss_nil)
      (pss_cons (ps_if (pt_cmpR op_eq (pv 3) pe_str (nomark _)) (pss_one (ps_ret (pe_callO (ok_there T) hr (by rfl) T.mg__law_there (pa_cons (pv 1) (pa_cons (pv 2) (pa_cons pe_int (pa_cons (pe_ix ix_tup (pv 0) pe_int (fun _ _ => rfl)) (pa_cons pe_int pa_nil)))))))) pss_nil)
      (pss_cons (ps_if (pt_cmpR op_eq (pv 3) pe_str (nomark _)) (pss_one (ps_ret (pe_callO (ok_there T) hr (by rfl) T.mg__law_there (pa_cons (pv 1) (pa_cons (pv 2) (pa_cons pe_int (pa_cons (pe_ix ix_tup (pv 0) pe_int (fun _ _ => rfl)) (pa_cons (pe_callB (r := rMaxT K) (cr_maxT rfl) (by rfl) T.no_max (by decide +kernel) (pa_cons (pv 2) pa_nil)) pa_nil)))))))) pss_nil)
      (pss_one (ps_ret pe_bl))))))))), ?_⟩
    cases n with
    | any =>
      refine ⟨_, rfl, p, _, _, _, rfl, rfl, SqT.of hN, rfl, ?_⟩
      refine ⟨_, rfl, rfl, _, rfl, iteDF (strNe (by decide)) ?_⟩
      refine ⟨_, rfl, rfl, _, rfl, iteDF (strNe (by decide)) ?_⟩
      refine ⟨_, rfl, rfl, _, rfl, iteDF (strNe (by decide)) ?_⟩
      refine ⟨_, rfl, rfl, _, rfl, iteDF (strNe (by decide)) ?_⟩
      refine ⟨_, rfl, rfl, _, rfl, iteDF (strNe (by decide)) ?_⟩
      refine ⟨_, rfl, rfl, _, rfl, iteDF (strNe (by decide)) ?_⟩
      refine ⟨_, rfl, rfl, _, rfl, iteDF (strNe (by decide)) ?_⟩
      exact q
    | made z =>
      obtain ⟨hN, hz⟩ := hN
      refine ⟨_, rfl, p, _, _, _, rfl, rfl, SqT.of hN, rfl, ?_⟩
      refine ⟨_, rfl, rfl, _, rfl, iteDF (strNe (by decide)) ?_⟩
      refine ⟨_, rfl, rfl, _, rfl, iteDF (strNe (by decide)) ?_⟩
      refine ⟨_, rfl, rfl, _, rfl, iteDF (strNe (by decide)) ?_⟩
      refine ⟨_, rfl, rfl, _, rfl, iteDF (strNe (by decide)) ?_⟩
      exact ⟨_, rfl, rfl, _, rfl, iteDT rfl ⟨_, rfl, _, rfl, _, rfl, p, _, _, _, rfl, rfl, SqT.of hN, rfl, a, l, ps, ks, lk, 0, z, 1, rfl, D, hL, hlen, by decide, q⟩⟩
    | used z =>
      obtain ⟨hN, hz⟩ := hN
      refine ⟨_, rfl, p, _, _, _, rfl, rfl, SqT.of hN, rfl, ?_⟩
      refine ⟨_, rfl, rfl, _, rfl, iteDF (strNe (by decide)) ?_⟩
      refine ⟨_, rfl, rfl, _, rfl, iteDF (strNe (by decide)) ?_⟩
      refine ⟨_, rfl, rfl, _, rfl, iteDF (strNe (by decide)) ?_⟩
      refine ⟨_, rfl, rfl, _, rfl, iteDF (strNe (by decide)) ?_⟩
      refine ⟨_, rfl, rfl, _, rfl, iteDF (strNe (by decide)) ?_⟩
      exact ⟨_, rfl, rfl, _, rfl, iteDT rfl ⟨_, rfl, _, rfl, _, rfl, p, _, _, _, rfl, rfl, SqT.of hN, rfl, a, l, ps, ks, lk, 1, z, 1, rfl, D, hL, hlen, by decide, q⟩⟩
    | chief z =>
      obtain ⟨hN, hz⟩ := hN
      refine ⟨_, rfl, p, _, _, _, rfl, rfl, SqT.of hN, rfl, ?_⟩
      refine ⟨_, rfl, rfl, _, rfl, iteDF (strNe (by decide)) ?_⟩
      refine ⟨_, rfl, rfl, _, rfl, iteDF (strNe (by decide)) ?_⟩
      refine ⟨_, rfl, rfl, _, rfl, iteDF (strNe (by decide)) ?_⟩
      refine ⟨_, rfl, rfl, _, rfl, iteDF (strNe (by decide)) ?_⟩
      refine ⟨_, rfl, rfl, _, rfl, iteDF (strNe (by decide)) ?_⟩
      refine ⟨_, rfl, rfl, _, rfl, iteDF (strNe (by decide)) ?_⟩
      refine ⟨_, rfl, rfl, _, rfl, iteDT rfl ⟨_, rfl, _, rfl, _, rfl, p, _, _, _, rfl, rfl, SqT.of hN, rfl, _, rfl, l, lk, rfl, SqT.of hL, by omega, fun m hm hle => ⟨a, l, ps, ks, lk, 0, z, m, rfl, D, hL, hlen, by decide, ?_⟩⟩⟩
      rw [maxL_eq hm hle]
      exact q
    | over j k =>
      obtain ⟨y, z, hN, hj, hk, oj, ok⟩ := hN
      refine ⟨_, rfl, p, _, _, _, rfl, rfl, SqT.of hN, rfl, ?_⟩
      refine ⟨_, rfl, rfl, _, rfl, iteDF (strNe (by decide)) ?_⟩
      refine ⟨_, rfl, rfl, _, rfl, iteDF (strNe (by decide)) ?_⟩
      refine ⟨_, rfl, rfl, _, rfl, iteDF (strNe (by decide)) ?_⟩
      refine ⟨_, rfl, rfl, _, rfl, iteDT rfl ⟨_, rfl, _, rfl, _, rfl, p, _, _, _, rfl, rfl, SqT.of hN, rfl, a, l, y, ps, ks, lk, j, rfl, D, hL, hlen, hj, oj, ?_⟩⟩
      exact ⟨_, rfl, _, rfl, _, rfl, p, _, _, _, rfl, rfl, SqT.of hN, rfl, a, l, z, ps, ks, lk, k, rfl, D, hL, hlen, hk, ok, _, _, rfl, rfl, q⟩
    | both _ _ => cases hl
    | either _ _ => cases hl
    | but _ _ => cases hl
theorem ok_lclaims_both (T : Txt K mg) (m n : Nt) {d : Nat} (h1 : 1 ≤ d) (G1 : Ok P w K mg base d (He.ga K "_law_claims") ["_law_note_here", "_law_kinds_here", "_law_look"] (spLClaims K m))
    (G2 : Ok P w K mg base d (He.ga K "_law_claims") ["_law_note_here", "_law_kinds_here", "_law_look"] (spLClaims K n)) : Ok P w K mg base (d + 1) (He.ga K "_law_claims") ["_law_note_here", "_law_kinds_here", "_law_look"] (spLClaims K (.both m n)) := by
  refine def__law_claims T (fun vs H Q E h => ?_) (fun cdv A outer s H vs Q E hr h => ?_)
  · obtain ⟨p, a, l, ps, ks, lk, rfl, _⟩ := h; rfl
  · obtain ⟨p, a, l, ps, ks, lk, rfl, D, hL, hlen, ⟨y, z, hN, hm, hn⟩, q⟩ := h
    refine ⟨_, pss_cons (ps_set (i := 3) sc__law_claims.nd rfl (.inl rfl) (pe_ix ix_tup (pv 0) pe_int (fun _ _ => rfl)))
      (pss_cons (ps_if (pt_cmpR op_eq (pv 3) pe_str (nomark _)) (pss_one (ps_ret (pe_and (pe_callO G1 hr (by rfl) T.mg__law_claims (pa_cons (pe_ix ix_tup (pv 0) pe_int (fun _ _ => rfl)) (pa_cons (pv 1) (pa_cons (pv 2) pa_nil)))) (pe_one (pe_callO G2 hr (by rfl) T.mg__law_claims (pa_cons (pe_ix ix_tup (pv 0) pe_int (fun _ _ => rfl)) (pa_cons (pv 1) (pa_cons (pv 2) pa_nil)))))))) pss_nil)
      (pss_cons (ps_if (pt_cmpR op_eq (pv 3) pe_str (nomark _)) (pss_one (ps_ret (pe_or (pe_callO G1 hr (by rfl) T.mg__law_claims (pa_cons (pe_ix ix_tup (pv 0) pe_int (fun _ _ => rfl)) (pa_cons (pv 1) (pa_cons (pv 2) pa_nil)))) (pe_one (pe_callO G2 hr (by rfl) T.mg__law_claims (pa_cons (pe_ix ix_tup (pv 0) pe_int (fun _ _ => rfl)) (pa_cons (pv 1) (pa_cons (pv 2) pa_nil)))))))) pss_nil)
      (pss_cons (ps_if (pt_cmpR op_eq (pv 3) pe_str (nomark _)) (pss_one (ps_ret (pe_and (pe_callO G1 hr (by rfl) T.mg__law_claims (pa_cons (pe_ix ix_tup (pv 0) pe_int (fun _ _ => rfl)) (pa_cons (pv 1) (pa_cons (pv 2) pa_nil)))) (pe_one (pe_not (pe_callO G2 hr (by rfl) T.mg__law_claims (pa_cons (pe_ix ix_tup (pv 0) pe_int (fun _ _ => rfl)) (pa_cons (pv 1) (pa_cons (pv 2) pa_nil))))))))) pss_nil)
      (pss_cons (ps_if (pt_cmpR op_eq (pv 3) pe_str (nomark _)) (pss_one (ps_ret (pe_cmpR op_gt (pe_callO (ok_law_rank T) (hr.mono h1) (by rfl) T.mg__law_rank (pa_cons (pv 1) (pa_cons (pv 2) (pa_cons (pe_ix ix_tup (pv 0) pe_int (fun _ _ => rfl)) pa_nil)))) (pe_callO (ok_law_rank T) (hr.mono h1) (by rfl) T.mg__law_rank (pa_cons (pv 1) (pa_cons (pv 2) (pa_cons (pe_ix ix_tup (pv 0) pe_int (fun _ _ => rfl)) pa_nil)))) (nomark _)))) pss_nil)
      (pss_cons (ps_if (pt_cmpR op_eq (pv 3) pe_str (nomark _)) (pss_one (ps_ret (pe_callO (ok_there T) (hr.mono h1) (by rfl) T.mg__law_there (pa_cons (pv 1) (pa_cons (pv 2) (pa_cons pe_int (pa_cons (pe_ix ix_tup (pv 0) pe_int (fun _ _ => rfl)) (pa_cons pe_int pa_nil)))))))) pss_nil)
      (pss_cons (ps_if (pt_cmpR op_eq (pv 3) pe_str (nomark _)) (pss_one (ps_ret (pe_callO (ok_there T) (hr.mono h1) (by rfl) T.mg__law_there (pa_cons (pv 1) (pa_cons (pv 2) (pa_cons pe_int (pa_cons (pe_ix ix_tup (pv 0) pe_int (fun _ _ => rfl)) (pa_cons pe_int pa_nil)))))))) pss_nil)
      (pss_cons (ps_if (pt_cmpR op_eq (pv 3) pe_str (nomark _)) (pss_one (ps_ret (pe_callO (ok_there T) (hr.mono h1) (by rfl) T.mg__law_there (pa_cons (pv 1) (pa_cons (pv 2) (pa_cons pe_int (pa_cons (pe_ix ix_tup (pv 0) pe_int (fun _ _ => rfl)) (pa_cons (pe_callB (r := rMaxT K) (cr_maxT rfl) (by rfl) T.no_max (by decide +kernel) (pa_cons (pv 2) pa_nil)) pa_nil)))))))) pss_nil)
      (pss_one (ps_ret pe_bl))))))))), ?_⟩
    refine ⟨_, rfl, p, _, _, _, rfl, rfl, SqT.of hN, rfl, ?_⟩
    refine ⟨_, rfl, rfl, _, rfl, iteDT rfl ⟨_, rfl, p, _, _, _, rfl, rfl, SqT.of hN, rfl, _, rfl, _, rfl, y, a, l, ps, ks, lk, rfl, D, hL, hlen, hm, _, rfl, ?_⟩⟩
    have e : claimsL ks lk (.both m n) = (claimsL ks lk m && claimsL ks lk n) := rfl
    rw [e] at q
    generalize claimsL ks lk m = c1 at q ⊢
    cases c1 with
    | true => exact iteT ⟨_, rfl, p, _, _, _, rfl, rfl, SqT.of hN, rfl, _, rfl, _, rfl, z, a, l, ps, ks, lk, rfl, D, hL, hlen, hn, q⟩
    | false => exact iteF q
theorem ok_lclaims_either (T : Txt K mg) (m n : Nt) {d : Nat} (h1 : 1 ≤ d) (G1 : Ok P w K mg base d (He.ga K "_law_claims") ["_law_note_here", "_law_kinds_here", "_law_look"] (spLClaims K m))
    (G2 : Ok P w K mg base d (He.ga K "_law_claims") ["_law_note_here", "_law_kinds_here", "_law_look"] (spLClaims K n)) : Ok P w K mg base (d + 1) (He.ga K "_law_claims") ["_law_note_here", "_law_kinds_here", "_law_look"] (spLClaims K (.either m n)) := by
  refine def__law_claims T (fun vs H Q E h => ?_) (fun cdv A outer s H vs Q E hr h => ?_)
  · obtain ⟨p, a, l, ps, ks, lk, rfl, _⟩ := h; rfl
  · obtain ⟨p, a, l, ps, ks, lk, rfl, D, hL, hlen, ⟨y, z, hN, hm, hn⟩, q⟩ := h
    refine ⟨_, pss_cons (ps_set (i := 3) sc__law_claims.nd rfl (.inl rfl) (pe_ix ix_tup (pv 0) pe_int (fun _ _ => rfl)))
      (pss_cons (ps_if (pt_cmpR op_eq (pv 3) pe_str (nomark _)) (pss_one (ps_ret (pe_and (pe_callO G1 hr (by rfl) T.mg__law_claims (pa_cons (pe_ix ix_tup (pv 0) pe_int (fun _ _ => rfl)) (pa_cons (pv 1) (pa_cons (pv 2) pa_nil)))) (pe_one (pe_callO G2 hr (by rfl) T.mg__law_claims (pa_cons (pe_ix ix_tup (pv 0) pe_int (fun _ _ => rfl)) (pa_cons (pv 1) (pa_cons (pv 2) pa_nil)))))))) pss_nil)
      (pss_cons (ps_if (pt_cmpR op_eq (pv 3) pe_str (nomark _)) (pss_one (ps_ret (pe_or (pe_callO G1 hr (by rfl) T.mg__law_claims (pa_cons (pe_ix ix_tup (pv 0) pe_int (fun _ _ => rfl)) (pa_cons (pv 1) (pa_cons (pv 2) pa_nil)))) (pe_one (pe_callO G2 hr (by rfl) T.mg__law_claims (pa_cons (pe_ix ix_tup (pv 0) pe_int (fun _ _ => rfl)) (pa_cons (pv 1) (pa_cons (pv 2) pa_nil)))))))) pss_nil)
      (pss_cons (ps_if (pt_cmpR op_eq (pv 3) pe_str (nomark _)) (pss_one (ps_ret (pe_and (pe_callO G1 hr (by rfl) T.mg__law_claims (pa_cons (pe_ix ix_tup (pv 0) pe_int (fun _ _ => rfl)) (pa_cons (pv 1) (pa_cons (pv 2) pa_nil)))) (pe_one (pe_not (pe_callO G2 hr (by rfl) T.mg__law_claims (pa_cons (pe_ix ix_tup (pv 0) pe_int (fun _ _ => rfl)) (pa_cons (pv 1) (pa_cons (pv 2) pa_nil))))))))) pss_nil)
      (pss_cons (ps_if (pt_cmpR op_eq (pv 3) pe_str (nomark _)) (pss_one (ps_ret (pe_cmpR op_gt (pe_callO (ok_law_rank T) (hr.mono h1) (by rfl) T.mg__law_rank (pa_cons (pv 1) (pa_cons (pv 2) (pa_cons (pe_ix ix_tup (pv 0) pe_int (fun _ _ => rfl)) pa_nil)))) (pe_callO (ok_law_rank T) (hr.mono h1) (by rfl) T.mg__law_rank (pa_cons (pv 1) (pa_cons (pv 2) (pa_cons (pe_ix ix_tup (pv 0) pe_int (fun _ _ => rfl)) pa_nil)))) (nomark _)))) pss_nil)
      (pss_cons (ps_if (pt_cmpR op_eq (pv 3) pe_str (nomark _)) (pss_one (ps_ret (pe_callO (ok_there T) (hr.mono h1) (by rfl) T.mg__law_there (pa_cons (pv 1) (pa_cons (pv 2) (pa_cons pe_int (pa_cons (pe_ix ix_tup (pv 0) pe_int (fun _ _ => rfl)) (pa_cons pe_int pa_nil)))))))) pss_nil)
      (pss_cons (ps_if (pt_cmpR op_eq (pv 3) pe_str (nomark _)) (pss_one (ps_ret (pe_callO (ok_there T) (hr.mono h1) (by rfl) T.mg__law_there (pa_cons (pv 1) (pa_cons (pv 2) (pa_cons pe_int (pa_cons (pe_ix ix_tup (pv 0) pe_int (fun _ _ => rfl)) (pa_cons pe_int pa_nil)))))))) pss_nil)
      (pss_cons (ps_if (pt_cmpR op_eq (pv 3) pe_str (nomark _)) (pss_one (ps_ret (pe_callO (ok_there T) (hr.mono h1) (by rfl) T.mg__law_there (pa_cons (pv 1) (pa_cons (pv 2) (pa_cons pe_int (pa_cons (pe_ix ix_tup (pv 0) pe_int (fun _ _ => rfl)) (pa_cons (pe_callB (r := rMaxT K) (cr_maxT rfl) (by rfl) T.no_max (by decide +kernel) (pa_cons (pv 2) pa_nil)) pa_nil)))))))) pss_nil)
      (pss_one (ps_ret pe_bl))))))))), ?_⟩
    refine ⟨_, rfl, p, _, _, _, rfl, rfl, SqT.of hN, rfl, ?_⟩
    refine ⟨_, rfl, rfl, _, rfl, iteDF (strNe (by decide)) ?_⟩
    refine ⟨_, rfl, rfl, _, rfl, iteDT rfl ⟨_, rfl, p, _, _, _, rfl, rfl, SqT.of hN, rfl, _, rfl, _, rfl, y, a, l, ps, ks, lk, rfl, D, hL, hlen, hm, _, rfl, ?_⟩⟩
    have e : claimsL ks lk (.either m n) = (claimsL ks lk m || claimsL ks lk n) := rfl
    rw [e] at q
    generalize claimsL ks lk m = c1 at q ⊢
    cases c1 with
    | true => exact iteT q
    | false => exact iteF ⟨_, rfl, p, _, _, _, rfl, rfl, SqT.of hN, rfl, _, rfl, _, rfl, z, a, l, ps, ks, lk, rfl, D, hL, hlen, hn, q⟩
theorem ok_lclaims_but (T : Txt K mg) (m n : Nt) {d : Nat} (h1 : 1 ≤ d) (G1 : Ok P w K mg base d (He.ga K "_law_claims") ["_law_note_here", "_law_kinds_here", "_law_look"] (spLClaims K m))
    (G2 : Ok P w K mg base d (He.ga K "_law_claims") ["_law_note_here", "_law_kinds_here", "_law_look"] (spLClaims K n)) : Ok P w K mg base (d + 1) (He.ga K "_law_claims") ["_law_note_here", "_law_kinds_here", "_law_look"] (spLClaims K (.but m n)) := by
  refine def__law_claims T (fun vs H Q E h => ?_) (fun cdv A outer s H vs Q E hr h => ?_)
  · obtain ⟨p, a, l, ps, ks, lk, rfl, _⟩ := h; rfl
  · obtain ⟨p, a, l, ps, ks, lk, rfl, D, hL, hlen, ⟨y, z, hN, hm, hn⟩, q⟩ := h
    refine ⟨_, pss_cons (ps_set (i := 3) sc__law_claims.nd rfl (.inl rfl) (pe_ix ix_tup (pv 0) pe_int (fun _ _ => rfl)))
      (pss_cons (ps_if (pt_cmpR op_eq (pv 3) pe_str (nomark _)) (pss_one (ps_ret (pe_and (pe_callO G1 hr (by rfl) T.mg__law_claims (pa_cons (pe_ix ix_tup (pv 0) pe_int (fun _ _ => rfl)) (pa_cons (pv 1) (pa_cons (pv 2) pa_nil)))) (pe_one (pe_callO G2 hr (by rfl) T.mg__law_claims (pa_cons (pe_ix ix_tup (pv 0) pe_int (fun _ _ => rfl)) (pa_cons (pv 1) (pa_cons (pv 2) pa_nil)))))))) pss_nil)
      (pss_cons (ps_if (pt_cmpR op_eq (pv 3) pe_str (nomark _)) (pss_one (ps_ret (pe_or (pe_callO G1 hr (by rfl) T.mg__law_claims (pa_cons (pe_ix ix_tup (pv 0) pe_int (fun _ _ => rfl)) (pa_cons (pv 1) (pa_cons (pv 2) pa_nil)))) (pe_one (pe_callO G2 hr (by rfl) T.mg__law_claims (pa_cons (pe_ix ix_tup (pv 0) pe_int (fun _ _ => rfl)) (pa_cons (pv 1) (pa_cons (pv 2) pa_nil)))))))) pss_nil)
      (pss_cons (ps_if (pt_cmpR op_eq (pv 3) pe_str (nomark _)) (pss_one (ps_ret (pe_and (pe_callO G1 hr (by rfl) T.mg__law_claims (pa_cons (pe_ix ix_tup (pv 0) pe_int (fun _ _ => rfl)) (pa_cons (pv 1) (pa_cons (pv 2) pa_nil)))) (pe_one (pe_not (pe_callO G2 hr (by rfl) T.mg__law_claims (pa_cons (pe_ix ix_tup (pv 0) pe_int (fun _ _ => rfl)) (pa_cons (pv 1) (pa_cons (pv 2) pa_nil))))))))) pss_nil)
      (pss_cons (ps_if (pt_cmpR op_eq (pv 3) pe_str (nomark _)) (pss_one (ps_ret (pe_cmpR op_gt (pe_callO (ok_law_rank T) (hr.mono h1) (by rfl) T.mg__law_rank (pa_cons (pv 1) (pa_cons (pv 2) (pa_cons (pe_ix ix_tup (pv 0) pe_int (fun _ _ => rfl)) pa_nil)))) (pe_callO (ok_law_rank T) (hr.mono h1) (by rfl) T.mg__law_rank (pa_cons (pv 1) (pa_cons (pv 2) (pa_cons (pe_ix ix_tup (pv 0) pe_int (fun _ _ => rfl)) pa_nil)))) (nomark _)))) pss_nil)
      (pss_cons (ps_if (pt_cmpR op_eq (pv 3) pe_str (nomark _)) (pss_one (ps_ret (pe_callO (ok_there T) (hr.mono h1) (by rfl) T.mg__law_there (pa_cons (pv 1) (pa_cons (pv 2) (pa_cons pe_int (pa_cons (pe_ix ix_tup (pv 0) pe_int (fun _ _ => rfl)) (pa_cons pe_int pa_nil)))))))) pss_nil)
      (pss_cons (ps_if (pt_cmpR op_eq (pv 3) pe_str (nomark _)) (pss_one (ps_ret (pe_callO (ok_there T) (hr.mono h1) (by rfl) T.mg__law_there (pa_cons (pv 1) (pa_cons (pv 2) (pa_cons pe_int (pa_cons (pe_ix ix_tup (pv 0) pe_int (fun _ _ => rfl)) (pa_cons pe_int pa_nil)))))))) pss_nil)
      (pss_cons (ps_if (pt_cmpR op_eq (pv 3) pe_str (nomark _)) (pss_one (ps_ret (pe_callO (ok_there T) (hr.mono h1) (by rfl) T.mg__law_there (pa_cons (pv 1) (pa_cons (pv 2) (pa_cons pe_int (pa_cons (pe_ix ix_tup (pv 0) pe_int (fun _ _ => rfl)) (pa_cons (pe_callB (r := rMaxT K) (cr_maxT rfl) (by rfl) T.no_max (by decide +kernel) (pa_cons (pv 2) pa_nil)) pa_nil)))))))) pss_nil)
      (pss_one (ps_ret pe_bl))))))))), ?_⟩
    refine ⟨_, rfl, p, _, _, _, rfl, rfl, SqT.of hN, rfl, ?_⟩
    refine ⟨_, rfl, rfl, _, rfl, iteDF (strNe (by decide)) ?_⟩
    refine ⟨_, rfl, rfl, _, rfl, iteDF (strNe (by decide)) ?_⟩
    refine ⟨_, rfl, rfl, _, rfl, iteDT rfl ⟨_, rfl, p, _, _, _, rfl, rfl, SqT.of hN, rfl, _, rfl, _, rfl, y, a, l, ps, ks, lk, rfl, D, hL, hlen, hm, _, rfl, ?_⟩⟩
    have e : claimsL ks lk (.but m n) = (claimsL ks lk m && !claimsL ks lk n) := rfl
    rw [e] at q
    generalize claimsL ks lk m = c1 at q ⊢
    cases c1 with
    | true => exact iteT ⟨_, rfl, p, _, _, _, rfl, rfl, SqT.of hN, rfl, _, rfl, _, rfl, z, a, l, ps, ks, lk, rfl, D, hL, hlen, hn, _, rfl, q⟩
    | false => exact iteF q
theorem ok_lclaims (T : Txt K mg) : ∀ (n : Nt) {d : Nat}, n.depth + 1 ≤ d → Ok P w K mg base d (He.ga K "_law_claims") ["_law_note_here", "_law_kinds_here", "_law_look"] (spLClaims K n)
  | .any, _, h => (ok_lclaims_leaf T .any rfl).mono (by have : Nt.any.depth = 1 := rfl; omega)
  | .made x, _, h => (ok_lclaims_leaf T (.made x) rfl).mono (by have : (Nt.made x).depth = 1 := rfl; omega)
  | .used x, _, h => (ok_lclaims_leaf T (.used x) rfl).mono (by have : (Nt.used x).depth = 1 := rfl; omega)
  | .chief x, _, h => (ok_lclaims_leaf T (.chief x) rfl).mono (by have : (Nt.chief x).depth = 1 := rfl; omega)
  | .over j k, _, h => (ok_lclaims_leaf T (.over j k) rfl).mono (by have : (Nt.over j k).depth = 1 := rfl; omega)
  | .both m n, _, h => (ok_lclaims_both T m n (d := 1 + max m.depth n.depth) (by omega) (ok_lclaims T m (by omega)) (ok_lclaims T n (by omega))).mono (by have : (Nt.both m n).depth = 1 + max m.depth n.depth := rfl; omega)
  | .either m n, _, h => (ok_lclaims_either T m n (d := 1 + max m.depth n.depth) (by omega) (ok_lclaims T m (by omega)) (ok_lclaims T n (by omega))).mono (by have : (Nt.either m n).depth = 1 + max m.depth n.depth := rfl; omega)
  | .but m n, _, h => (ok_lclaims_but T m n (d := 1 + max m.depth n.depth) (by omega) (ok_lclaims T m (by omega)) (ok_lclaims T n (by omega))).mono (by have : (Nt.but m n).depth = 1 + max m.depth n.depth := rfl; omega)
def spIs : Sp := fun vs H Q _ => ∃ x y : Int, vs = [.int x, .int y] ∧ Q (.bl (decide (x = y))) H
theorem ok_law_is (T : Txt K mg) : Ok P w K mg base 1 (He.ga K "_law_is") ["_law_found", "_law_due"] spIs := by
  refine def__law_is T (fun vs H Q E h => ?_) (fun cdv A outer s H vs Q E hr h => ?_)
  · obtain ⟨x, y, rfl, _⟩ := h; rfl
  · obtain ⟨x, y, rfl, q⟩ := h
    refine ⟨_, pss_one (ps_ret (pe_and (pe_callB call_isi (by rfl) T.no_isinstance (by decide +kernel) (pa_cons (pv 0) (pa_cons (pe_bltn (v := .ty "int") (by rfl) T.no_int (by decide +kernel) rfl) pa_nil)))
      (pe_and (pe_not (pe_callB call_isi (by rfl) T.no_isinstance (by decide +kernel) (pa_cons (pv 0) (pa_cons (pe_bltn (v := .ty "bool") (by rfl) T.no_bool (by decide +kernel) rfl) pa_nil))))
      (pe_one (pe_cmpR op_eq (pv 0) (pv 1) (nomark _)))))), ?_⟩
    refine ⟨_, rfl, _, _, _, _, true, rfl, .ty _, .base (.int _), kit_ty (by decide +kernel), _, rfl, iteT ?_⟩
    refine ⟨_, rfl, _, _, _, _, false, rfl, .ty _, .base (.int _), kit_ty (by decide +kernel), _, rfl, _, rfl, iteT ?_⟩
    refine ⟨_, rfl, _, rfl, rfl, ?_⟩
    have e : decide (V.int x = V.int y) = decide (x = y) := by
      by_cases h : x = y
      · rw [h, decide_eq_true rfl, decide_eq_true rfl]
      · rw [decide_eq_false h, decide_eq_false fun z => h (V.int.inj z)]
    show Q (.bl (decide (V.int x = V.int y))) H
    rw [e]
    exact q
def spCount (K : PySem.W.Frag) : Sp := fun vs H Q _ => ∃ (p a lb : Addr) (n : Nt) (ps : List Addr) (ks : List Kd) (xs : List V) (L : List (List Int)), vs = [.ref p, .ref a, .ref lb] ∧ TN H n p ∧ n.depth ≤ 5 ∧ Kds K H a ps ks ∧
  H lb = some (.lst xs) ∧ RowsV H xs L ∧ (∀ lk ∈ L, lk.length = ks.length) ∧ Q (.int ((L.countP fun lk => claimsL ks lk n : Nat) : Int)) H
theorem ok_law_count (T : Txt K mg) : Ok P w K mg base 7 (He.ga K "_law_count") ["_law_note_here", "_law_kinds_here", "_law_looks"] (spCount K) := by
  refine def__law_count T (fun vs H Q E h => ?_) (fun cdv A outer s H vs Q E hr h => ?_)
  · obtain ⟨p, a, lb, n, ps, ks, xs, L, rfl, _⟩ := h; rfl
  · obtain ⟨p, a, lb, n, ps, ks, xs, L, rfl, hN, hd, D, hB, hR, hw, q⟩ := h
    refine ⟨_, pss_cons (ps_set (i := 3) sc__law_count.nd rfl (.inl rfl) pe_int)
      (pss_cons (ps_for PassesOwn.never rfl (pi_list (pv 2)) (pg_name (i := 4) sc__law_count.nd rfl (.inl rfl))
        (pss_one (ps_if (pt_val (pe_callO (ok_lclaims T n (by omega)) hr (by rfl) T.mg__law_claims (pa_cons (pv 0) (pa_cons (pv 1) (pa_cons (pv 4) pa_nil)))))
          (pss_one (ps_set (i := 3) sc__law_count.nd rfl (.inl rfl) (pe_op op_add (pv 3) pe_int))) pss_nil)))
      (pss_one (ps_ret (pv 3)))), ?_⟩
    refine ⟨_, rfl, lb, rfl, ⟨_, SqL.of hB⟩, for_it (walk_list (xs := xs)) (fun i σ' H' => H' = H ∧ ∃ v, σ' = [some (.ref p), some (.ref a), some (.ref lb), some (.int (((L.take i).countP fun lk => claimsL ks lk n : Nat) : Int)), v]) ⟨rfl, _, rfl⟩ ?_ ?_ ?_⟩
    · rintro i σ' H' _ ⟨rfl, _⟩
      exact SqL.of hB
    · rintro i v σ' H1 H2 hi ⟨rfl, v', rfl⟩ ⟨rfl, hv⟩
      obtain ⟨lk, hl, q1, rfl, hq⟩ := paired_at hR hv
      refine ⟨_, rfl, _, rfl, _, rfl, p, a, q1, ps, ks, lk, rfl, D, hq, hw lk (List.mem_of_getElem? hl), hN, _, rfl, ?_⟩
      have hcp : (L.take (i + 1)).countP (fun lk => claimsL ks lk n) = (L.take i).countP (fun lk => claimsL ks lk n) + (if claimsL ks lk n = true then 1 else 0) := by
        rw [take_next hl, List.countP_append, List.countP_cons, List.countP_nil, Nat.zero_add]
      refine ite2 (fun hg => ?_) (fun hg => ?_)
      · refine ⟨_, rfl, _, _, rfl, rfl, rfl, some (.ref q1), ?_⟩
        rw [hcp, if_pos hg]; rfl
      · refine ⟨rfl, some (.ref q1), ?_⟩
        rw [hcp, if_neg hg, Nat.add_zero]; rfl
    · rintro σ' H1 ⟨rfl, v', rfl⟩
      rw [Paired.length hR, list_end]
      exact ⟨_, rfl, q⟩
def spDepth (n : Nt) : Sp := fun vs H Q _ => ∃ p : Addr, vs = [.ref p] ∧ TN H n p ∧ ∀ H', Same H H' → Q (.int (n.depth : Int)) H'

theorem ok_depth_leaf (T : Txt K mg) (n : Nt) (hl : n.leaf = true) : Ok P w K mg base 1 (He.ga K "_law_depth") ["_law_note_here"] (spDepth n) := by
  refine def__law_depth T (fun vs H Q E h => ?_) (fun cdv A outer s H vs Q E hr h => ?_)
  · obtain ⟨p, rfl, _⟩ := h; rfl
  · obtain ⟨p, rfl, hN0, q⟩ := h
    refine ⟨_, pss_cons (ps_if (pt_cmpR op_in_seq (pe_ix ix_tup (pv 0) pe_int (fun _ _ => rfl)) (pe_tup (pa_cons pe_str (pa_cons pe_str (pa_cons pe_str pa_nil)))) (by rfl)) (pss_one ps_never) pss_nil)
      (pss_one (ps_ret pe_int)), ?_⟩
    have hx : ∃ (wd : Str) (xs : List V), H p = some (.tup (.str wd :: xs)) ∧ inV (.str wd) [.str "both", .str "either", .str "but"] = false ∧ n.depth = 1 := by
      cases n with
      | any => exact ⟨_, [], hN0, by decide, rfl⟩
      | made z => exact ⟨_, [_], hN0.1, by decide, rfl⟩
      | used z => exact ⟨_, [_], hN0.1, by decide, rfl⟩
      | chief z => exact ⟨_, [_], hN0.1, by decide, rfl⟩
      | over a b => obtain ⟨y, z, hN, _⟩ := hN0; exact ⟨_, [_, _], hN, by decide, rfl⟩
      | both _ _ => cases hl
      | either _ _ => cases hl
      | but _ _ => cases hl
    obtain ⟨wd, xs, hN, hi, hd⟩ := hx
    refine ⟨_, rfl, p, _, _, _, rfl, rfl, SqT.of hN, atI_nat (j := 0) rfl, by show (3 : Nat) ≤ sizeLine; decide, fun b hb => ⟨_, _, rfl, .inr (SqT.of upd_same), rfl, rfl, _, rfl, ?_⟩⟩
    have s1 : Same H (upd H b (.tup [.str "both", .str "either", .str "but"])) := same_new hb
    show if inV (.str wd) [.str "both", .str "either", .str "but"] = true then _ else _
    rw [hi]
    have q2 := q _ s1
    rw [hd] at q2
    exact iteF q2
theorem ok_depth_both (T : Txt K mg) (m n : Nt) {d : Nat} (G1 : Ok P w K mg base d (He.ga K "_law_depth") ["_law_note_here"] (spDepth m)) (G2 : Ok P w K mg base d (He.ga K "_law_depth") ["_law_note_here"] (spDepth n)) :
    Ok P w K mg base (d + 1) (He.ga K "_law_depth") ["_law_note_here"] (spDepth (.both m n)) := by
  refine def__law_depth T (fun vs H Q E h => ?_) (fun cdv A outer s H vs Q E hr h => ?_)
  · obtain ⟨p, rfl, _⟩ := h; rfl
  · obtain ⟨p, rfl, ⟨y, z, hN, hm, hn⟩, q⟩ := h
    refine ⟨_, pss_cons (ps_if (pt_cmpR op_in_seq (pe_ix ix_tup (pv 0) pe_int (fun _ _ => rfl)) (pe_tup (pa_cons pe_str (pa_cons pe_str (pa_cons pe_str pa_nil)))) (by rfl)) (pss_one (ps_ret (pe_op op_add pe_int (pe_callB (call_max2 rfl) (by rfl) T.no_max (by decide +kernel) (pa_cons (pe_callO G1 hr (by rfl) T.mg__law_depth (pa_cons (pe_ix ix_tup (pv 0) pe_int (fun _ _ => rfl)) pa_nil)) (pa_cons (pe_callO G2 hr (by rfl) T.mg__law_depth (pa_cons (pe_ix ix_tup (pv 0) pe_int (fun _ _ => rfl)) pa_nil)) pa_nil)))))) pss_nil)
      (pss_one (ps_ret pe_int)), ?_⟩
    refine ⟨_, rfl, p, _, _, _, rfl, rfl, SqT.of hN, atI_nat (j := 0) rfl, by show (3 : Nat) ≤ sizeLine; decide, fun b hb => ⟨_, _, rfl, .inr (SqT.of upd_same), rfl, rfl, _, rfl, ?_⟩⟩
    have s1 : Same H (upd H b (.tup [.str "both", .str "either", .str "but"])) := same_new hb
    show if inV (.str "both") [.str "both", .str "either", .str "but"] = true then _ else _
    rw [show inV (.str "both") [.str "both", .str "either", .str "but"] = true by decide]
    generalize upd H b (.tup [.str "both", .str "either", .str "but"]) = H1 at s1 ⊢
    refine iteT ⟨_, rfl, p, _, _, _, rfl, rfl, SqT.of (s1 _ _ hN), rfl, y, rfl, hm.kept (Kept.of s1), fun H2 s2 => ?_⟩
    have s12 := s1.trans s2
    refine ⟨_, rfl, p, _, _, _, rfl, rfl, SqT.of (s12 _ _ hN), rfl, z, rfl, hn.kept (Kept.of s12), fun H3 s3 => ⟨_, _, rfl, _, _, rfl, rfl, ?_⟩⟩
    have e : (1 : Int) + (if ((n.depth : Nat) : Int) > ((m.depth : Nat) : Int) then ((n.depth : Nat) : Int) else ((m.depth : Nat) : Int)) = (((Nt.both m n).depth : Nat) : Int) := by
      have : (Nt.both m n).depth = 1 + max m.depth n.depth := rfl
      split <;> omega
    have q2 := q _ (s12.trans s3)
    rw [← e] at q2
    exact q2
theorem ok_depth_either (T : Txt K mg) (m n : Nt) {d : Nat} (G1 : Ok P w K mg base d (He.ga K "_law_depth") ["_law_note_here"] (spDepth m)) (G2 : Ok P w K mg base d (He.ga K "_law_depth") ["_law_note_here"] (spDepth n)) :
    Ok P w K mg base (d + 1) (He.ga K "_law_depth") ["_law_note_here"] (spDepth (.either m n)) := by
  refine def__law_depth T (fun vs H Q E h => ?_) (fun cdv A outer s H vs Q E hr h => ?_)
  · obtain ⟨p, rfl, _⟩ := h; rfl
  · obtain ⟨p, rfl, ⟨y, z, hN, hm, hn⟩, q⟩ := h
    refine ⟨_, pss_cons (ps_if (pt_cmpR op_in_seq (pe_ix ix_tup (pv 0) pe_int (fun _ _ => rfl)) (pe_tup (pa_cons pe_str (pa_cons pe_str (pa_cons pe_str pa_nil)))) (by rfl)) (pss_one (ps_ret (pe_op op_add pe_int (pe_callB (call_max2 rfl) (by rfl) T.no_max (by decide +kernel) (pa_cons (pe_callO G1 hr (by rfl) T.mg__law_depth (pa_cons (pe_ix ix_tup (pv 0) pe_int (fun _ _ => rfl)) pa_nil)) (pa_cons (pe_callO G2 hr (by rfl) T.mg__law_depth (pa_cons (pe_ix ix_tup (pv 0) pe_int (fun _ _ => rfl)) pa_nil)) pa_nil)))))) pss_nil)
      (pss_one (ps_ret pe_int)), ?_⟩
    refine ⟨_, rfl, p, _, _, _, rfl, rfl, SqT.of hN, atI_nat (j := 0) rfl, by show (3 : Nat) ≤ sizeLine; decide, fun b hb => ⟨_, _, rfl, .inr (SqT.of upd_same), rfl, rfl, _, rfl, ?_⟩⟩
    have s1 : Same H (upd H b (.tup [.str "both", .str "either", .str "but"])) := same_new hb
    show if inV (.str "either") [.str "both", .str "either", .str "but"] = true then _ else _
    rw [show inV (.str "either") [.str "both", .str "either", .str "but"] = true by decide]
    generalize upd H b (.tup [.str "both", .str "either", .str "but"]) = H1 at s1 ⊢
    refine iteT ⟨_, rfl, p, _, _, _, rfl, rfl, SqT.of (s1 _ _ hN), rfl, y, rfl, hm.kept (Kept.of s1), fun H2 s2 => ?_⟩
    have s12 := s1.trans s2
    refine ⟨_, rfl, p, _, _, _, rfl, rfl, SqT.of (s12 _ _ hN), rfl, z, rfl, hn.kept (Kept.of s12), fun H3 s3 => ⟨_, _, rfl, _, _, rfl, rfl, ?_⟩⟩
    have e : (1 : Int) + (if ((n.depth : Nat) : Int) > ((m.depth : Nat) : Int) then ((n.depth : Nat) : Int) else ((m.depth : Nat) : Int)) = (((Nt.either m n).depth : Nat) : Int) := by
      have : (Nt.either m n).depth = 1 + max m.depth n.depth := rfl
      split <;> omega
    have q2 := q _ (s12.trans s3)
    rw [← e] at q2
    exact q2
theorem ok_depth_but (T : Txt K mg) (m n : Nt) {d : Nat} (G1 : Ok P w K mg base d (He.ga K "_law_depth") ["_law_note_here"] (spDepth m)) (G2 : Ok P w K mg base d (He.ga K "_law_depth") ["_law_note_here"] (spDepth n)) :
    Ok P w K mg base (d + 1) (He.ga K "_law_depth") ["_law_note_here"] (spDepth (.but m n)) := by
  refine def__law_depth T (fun vs H Q E h => ?_) (fun cdv A outer s H vs Q E hr h => ?_)
  · obtain ⟨p, rfl, _⟩ := h; rfl
  · obtain ⟨p, rfl, ⟨y, z, hN, hm, hn⟩, q⟩ := h
    refine ⟨_, pss_cons (ps_if (pt_cmpR op_in_seq (pe_ix ix_tup (pv 0) pe_int (fun _ _ => rfl)) (pe_tup (pa_cons pe_str (pa_cons pe_str (pa_cons pe_str pa_nil)))) (by rfl)) (pss_one (ps_ret (pe_op op_add pe_int (pe_callB (call_max2 rfl) (by rfl) T.no_max (by decide +kernel) (pa_cons (pe_callO G1 hr (by rfl) T.mg__law_depth (pa_cons (pe_ix ix_tup (pv 0) pe_int (fun _ _ => rfl)) pa_nil)) (pa_cons (pe_callO G2 hr (by rfl) T.mg__law_depth (pa_cons (pe_ix ix_tup (pv 0) pe_int (fun _ _ => rfl)) pa_nil)) pa_nil)))))) pss_nil)
      (pss_one (ps_ret pe_int)), ?_⟩
    refine ⟨_, rfl, p, _, _, _, rfl, rfl, SqT.of hN, atI_nat (j := 0) rfl, by show (3 : Nat) ≤ sizeLine; decide, fun b hb => ⟨_, _, rfl, .inr (SqT.of upd_same), rfl, rfl, _, rfl, ?_⟩⟩
    have s1 : Same H (upd H b (.tup [.str "both", .str "either", .str "but"])) := same_new hb
    show if inV (.str "but") [.str "both", .str "either", .str "but"] = true then _ else _
    rw [show inV (.str "but") [.str "both", .str "either", .str "but"] = true by decide]
    generalize upd H b (.tup [.str "both", .str "either", .str "but"]) = H1 at s1 ⊢
    refine iteT ⟨_, rfl, p, _, _, _, rfl, rfl, SqT.of (s1 _ _ hN), rfl, y, rfl, hm.kept (Kept.of s1), fun H2 s2 => ?_⟩
    have s12 := s1.trans s2
    refine ⟨_, rfl, p, _, _, _, rfl, rfl, SqT.of (s12 _ _ hN), rfl, z, rfl, hn.kept (Kept.of s12), fun H3 s3 => ⟨_, _, rfl, _, _, rfl, rfl, ?_⟩⟩
    have e : (1 : Int) + (if ((n.depth : Nat) : Int) > ((m.depth : Nat) : Int) then ((n.depth : Nat) : Int) else ((m.depth : Nat) : Int)) = (((Nt.but m n).depth : Nat) : Int) := by
      have : (Nt.but m n).depth = 1 + max m.depth n.depth := rfl
      split <;> omega
    have q2 := q _ (s12.trans s3)
    rw [← e] at q2
    exact q2
theorem ok_depth (T : Txt K mg) : ∀ (n : Nt) {d : Nat}, n.depth ≤ d → Ok P w K mg base d (He.ga K "_law_depth") ["_law_note_here"] (spDepth n)
  | .any, _, h => (ok_depth_leaf T .any rfl).mono (by have : Nt.any.depth = 1 := rfl; omega)
  | .made x, _, h => (ok_depth_leaf T (.made x) rfl).mono (by have : (Nt.made x).depth = 1 := rfl; omega)
  | .used x, _, h => (ok_depth_leaf T (.used x) rfl).mono (by have : (Nt.used x).depth = 1 := rfl; omega)
  | .chief x, _, h => (ok_depth_leaf T (.chief x) rfl).mono (by have : (Nt.chief x).depth = 1 := rfl; omega)
  | .over j k, _, h => (ok_depth_leaf T (.over j k) rfl).mono (by have : (Nt.over j k).depth = 1 := rfl; omega)
  | .both m n, _, h => (ok_depth_both T m n (d := max m.depth n.depth) (ok_depth T m (by omega)) (ok_depth T n (by omega))).mono (by have : (Nt.both m n).depth = 1 + max m.depth n.depth := rfl; omega)
  | .either m n, _, h => (ok_depth_either T m n (d := max m.depth n.depth) (ok_depth T m (by omega)) (ok_depth T n (by omega))).mono (by have : (Nt.either m n).depth = 1 + max m.depth n.depth := rfl; omega)
  | .but m n, _, h => (ok_depth_but T m n (d := max m.depth n.depth) (ok_depth T m (by omega)) (ok_depth T n (by omega))).mono (by have : (Nt.but m n).depth = 1 + max m.depth n.depth := rfl; omega)
end
end K43
set_option Elab.async false
set_option linter.all false
set_option maxRecDepth 100000
set_option maxHeartbeats 4000000
namespace K43
open PySem PySem.Spec PyProof.Rows L2
theorem new_tup {H : Hp} {p : Addr} {o : HO} (h : H p = none) : (upd H p o) p = some o ∧ Same H (upd H p o) := ⟨upd_same, same_new h⟩
theorem leaf_depth {n : Nt} (h : n.leaf = true) : n.depth = 1 := by
  cases n <;> first | rfl | cases h
section
variable {P : Program} {w : World} {K : PySem.W.Frag} {mg : Str → Option Value} {base : Heap}
/-! ### drawn notes -/
def spTold : (Nt → Prop) → Hp → VK → Prop := fun C H Q => ∀ (H' : Hp) (p : Addr) (n : Nt), Same H H' → H p = none → TN H' n p → C n → Q (.ref p) H'
def spPlainL (K : PySem.W.Frag) : Sp := fun vs H Q _ => ∃ (cell : Int) (a : Addr) (ps : List Addr) (ks : List Kd), vs = [.int cell, .ref a] ∧ Kds K H a ps ks ∧ spTold (fun n => n.leaf = true) H Q
theorem ok_law_plain (T : Txt K mg) : Ok P w K mg base 1 (He.ga K "_law_plain") ["_law_cell", "_law_kinds_here"] (spPlainL K) := by
  refine def__law_plain T (fun vs H Q E h => ?_) (fun cdv A outer s H vs Q E hr h => ?_)
  · obtain ⟨cell, a, ps, ks, rfl, _⟩ := h; rfl
  · obtain ⟨cell, a, ps, ks, rfl, D, q⟩ := h
    have hlo := D.lo
    have hpl := D.len
    refine ⟨_, pss_cons (ps_set (i := 2) sc__law_plain.nd rfl (.inl rfl) (pe_ix ix_list (pv 1) (pe_op op_mod (pe_op op_fdiv (pv 0) pe_int) (pe_callB call_len_seq (by rfl) T.no_len PySem.boot_len (pa_cons (pv 1) pa_nil))) (fun _ _ => rfl)))
      (pss_cons (ps_set (i := 3) sc__law_plain.nd rfl (.inl rfl) (pe_ix ix_list (pv 1) (pe_op op_mod (pe_op op_fdiv (pv 0) pe_int) (pe_callB call_len_seq (by rfl) T.no_len PySem.boot_len (pa_cons (pv 1) pa_nil))) (fun _ _ => rfl)))
      (pss_cons (ps_if (pt_cmpR op_eq (pe_op op_mod (pe_op op_fdiv (pv 0) pe_int) pe_int) pe_int (nomark _)) (pss_one (ps_set (i := 2) sc__law_plain.nd rfl (.inl rfl) (pe_tup (pa_cons (pe_ix ix_tup (pv 2) pe_int (fun _ _ => rfl)) (pa_cons (pe_ix ix_tup (pv 2) pe_int (fun _ _ => rfl)) pa_nil))))) pss_nil)
      (pss_one (ps_ret (pe_ix ix_list (pe_lst (pa_cons (pe_tup (pa_cons pe_str pa_nil)) (pa_cons (pe_tup (pa_cons pe_str (pa_cons (pe_ix ix_tup (pv 2) pe_int (fun _ _ => rfl)) pa_nil))) (pa_cons (pe_tup (pa_cons pe_str (pa_cons (pe_ix ix_tup (pv 2) pe_int (fun _ _ => rfl)) pa_nil)))
        (pa_cons (pe_tup (pa_cons pe_str (pa_cons (pe_ix ix_tup (pv 2) pe_int (fun _ _ => rfl)) pa_nil))) (pa_cons (pe_tup (pa_cons pe_str (pa_cons (pv 2) (pa_cons (pv 3) pa_nil)))) pa_nil)))))) (pe_op op_mod (pv 0) pe_int) (fun _ _ => rfl)))))), ?_⟩
    have p5 : (0 : Int) < 5 := by decide
    have p6 : (0 : Int) < 6 := by decide
    have hm : (0 : Int) < ((ps.map V.ref).length : Int) := by rw [List.length_map]; omega
    have pick : ∀ c : Int, ∃ (x : Addr) (k : Kd), (ps.map V.ref)[(c % ((ps.map V.ref).length : Int)).toNat]? = some (.ref x) ∧ 0 ≤ c % ((ps.map V.ref).length : Int) ∧ KdAt H x k ∧ KdOk k := by
      intro c
      have h0 := Int.emod_nonneg c (show ((ps.map V.ref).length : Int) ≠ 0 by omega)
      have h1 := Int.emod_lt_of_pos c hm
      have hl : (ps.map V.ref).length = ps.length := List.length_map ..
      have h2 : (c % ((ps.map V.ref).length : Int)).toNat < ps.length := by omega
      obtain ⟨k, hk, hpk⟩ := paired_at D.at_ (List.getElem?_eq_getElem h2)
      exact ⟨_, k, by rw [List.getElem?_map, List.getElem?_eq_getElem h2]; rfl, h0, hpk, D.ok k (List.mem_of_getElem? hk)⟩
    obtain ⟨x1, k1, i1, z1, hk1, ok1⟩ := pick (cell / 5)
    obtain ⟨x2, k2, i2, z2, hk2, ok2⟩ := pick (cell / 20)
    refine ⟨_, rfl, _, rfl, _, _, rfl, rfl, ⟨by decide, by decide⟩, _, rfl, a, _, rfl, .inl (SqL.of D.lst), _, _, rfl, rfl, hm, a, _, _, _, rfl, rfl, SqL.of D.lst, atI_ok z1 i1, ?_⟩
    refine ⟨_, rfl, _, rfl, _, _, rfl, rfl, ⟨by decide, by decide⟩, _, rfl, a, _, rfl, .inl (SqL.of D.lst), _, _, rfl, rfl, hm, a, _, _, _, rfl, rfl, SqL.of D.lst, atI_ok z2 i2, ?_⟩
    have tail : ∀ (Ha : Hp) (x : Addr) (k : Kd), Same H Ha → KdAt Ha x k → KdOk k →
        tRet (tOp (rIxL K) (tLst (tCons (tTup (tCons (tC (.str "any")) tNil)) (tCons (tTup (tCons (tC (.str "made")) (tCons (tOp (rIxT K) (tVar 2) (tC (.int 0))) tNil))) (tCons (tTup (tCons (tC (.str "used")) (tCons (tOp (rIxT K) (tVar 2) (tC (.int 1))) tNil)))
          (tCons (tTup (tCons (tC (.str "chief")) (tCons (tOp (rIxT K) (tVar 2) (tC (.int 0))) tNil))) (tCons (tTup (tCons (tC (.str "over")) (tCons (tVar 2) (tCons (tVar 3) tNil)))) tNil)))))) (tOp (rI (fun _ j => 0 < j) fun i j => .int (i % j)) (tVar 0) (tC (.int 5))))
        { nx := fun _ H' => Q .non H', rt := Q } [some (.int cell), some (.ref a), some (.ref x), some (.ref x2)] Ha := by
      intro Ha x k sa hx okx
      refine ⟨by show (1 : Nat) ≤ sizeLine; decide, fun p0 h0 => ?_⟩
      obtain ⟨e0, s0⟩ := new_tup (o := .tup [.str "any"]) h0
      have f0 := sa.free h0
      generalize upd Ha p0 (.tup [.str "any"]) = H0 at e0 s0 ⊢
      have t0 := sa.trans s0
      refine ⟨_, rfl, x, _, _, _, rfl, rfl, SqT.of (s0 _ _ hx), rfl, by show (2 : Nat) ≤ sizeLine; decide, fun p1 h1 => ?_⟩
      obtain ⟨e1, s1⟩ := new_tup (o := .tup [.str "made", .str k.1]) h1
      have f1 := t0.free h1
      generalize upd H0 p1 (.tup [.str "made", .str k.1]) = H1 at e1 s1 ⊢
      have t1 := t0.trans s1
      have hx1 := s1 _ _ (s0 _ _ hx)
      refine ⟨_, rfl, x, _, _, _, rfl, rfl, SqT.of hx1, rfl, by show (2 : Nat) ≤ sizeLine; decide, fun p2 h2 => ?_⟩
      obtain ⟨e2, s2⟩ := new_tup (o := .tup [.str "used", .str k.2]) h2
      have f2 := t1.free h2
      generalize upd H1 p2 (.tup [.str "used", .str k.2]) = H2 at e2 s2 ⊢
      have t2 := t1.trans s2
      have hx2 := s2 _ _ hx1
      refine ⟨_, rfl, x, _, _, _, rfl, rfl, SqT.of hx2, rfl, by show (2 : Nat) ≤ sizeLine; decide, fun p3 h3 => ?_⟩
      obtain ⟨e3, s3⟩ := new_tup (o := .tup [.str "chief", .str k.1]) h3
      have f3 := t2.free h3
      generalize upd H2 p3 (.tup [.str "chief", .str k.1]) = H3 at e3 s3 ⊢
      have t3 := t2.trans s3
      have hx3 := s3 _ _ hx2
      refine ⟨_, rfl, _, rfl, by show (3 : Nat) ≤ sizeLine; decide, fun p4 h4 => ?_⟩
      obtain ⟨e4, s4⟩ := new_tup (o := .tup [.str "over", .ref x, .ref x2]) h4
      have f4 := t3.free h4
      generalize upd H3 p4 (.tup [.str "over", .ref x, .ref x2]) = H4 at e4 s4 ⊢
      have t4 := t3.trans s4
      refine ⟨by show (5 : Nat) ≤ sizeLine; decide, fun pl hl => ?_⟩
      obtain ⟨e5, s5⟩ := new_tup (o := .lst [.ref p0, .ref p1, .ref p2, .ref p3, .ref p4]) hl
      generalize upd H4 pl (.lst [.ref p0, .ref p1, .ref p2, .ref p3, .ref p4]) = H5 at e5 s5 ⊢
      have t5 := t4.trans s5
      refine ⟨_, rfl, _, _, rfl, rfl, p5, ?_⟩
      have h0 := Int.emod_nonneg cell (show (5 : Int) ≠ 0 by decide)
      have hc : cell % 5 = 0 ∨ cell % 5 = 1 ∨ cell % 5 = 2 ∨ cell % 5 = 3 ∨ cell % 5 = 4 := by omega
      rcases hc with hc | hc | hc | hc | hc
      · exact ⟨pl, _, _, .ref p0, rfl, rfl, SqL.of e5, atI_ok h0 (by rw [hc]; rfl), q H5 p0 .any t5 f0 (s5 _ _ (s4 _ _ (s3 _ _ (s2 _ _ (s1 _ _ e0))))) rfl⟩
      · exact ⟨pl, _, _, .ref p1, rfl, rfl, SqL.of e5, atI_ok h0 (by rw [hc]; rfl), q H5 p1 (.made k.1) t5 f1 ⟨s5 _ _ (s4 _ _ (s3 _ _ (s2 _ _ e1))), okx.1⟩ rfl⟩
      · exact ⟨pl, _, _, .ref p2, rfl, rfl, SqL.of e5, atI_ok h0 (by rw [hc]; rfl), q H5 p2 (.used k.2) t5 f2 ⟨s5 _ _ (s4 _ _ (s3 _ _ e2)), okx.2⟩ rfl⟩
      · exact ⟨pl, _, _, .ref p3, rfl, rfl, SqL.of e5, atI_ok h0 (by rw [hc]; rfl), q H5 p3 (.chief k.1) t5 f3 ⟨s5 _ _ (s4 _ _ e3), okx.1⟩ rfl⟩
      · exact ⟨pl, _, _, .ref p4, rfl, rfl, SqL.of e5, atI_ok h0 (by rw [hc]; rfl), q H5 p4 (.over k k2) t5 f4 ⟨x, x2, s5 _ _ e4, s5 _ _ (s4 _ _ hx3), t5 _ _ hk2, okx, ok2⟩ rfl⟩
    refine ⟨_, rfl, _, _, rfl, rfl, ⟨by decide, by decide⟩, _, _, rfl, rfl, p6, rfl, _, rfl, ite2 (fun _ => ?_) (fun _ => tail H x1 k1 (Same.refl H) hk1 ok1)⟩
    refine ⟨_, rfl, x1, _, _, _, rfl, rfl, SqT.of hk1, rfl, _, rfl, x1, _, _, _, rfl, rfl, SqT.of hk1, rfl, by show (2 : Nat) ≤ sizeLine; decide, fun p hp => ?_⟩
    exact tail _ p (k1.2, k1.1) (same_new hp) upd_same ⟨ok1.2, ok1.1⟩
end
end K43
set_option Elab.async false
set_option linter.all false
set_option maxRecDepth 100000
set_option maxHeartbeats 4000000
namespace K43
open PySem PySem.Spec PyProof.Rows L2
section
variable {P : Program} {w : World} {K : PySem.W.Frag} {mg : Str → Option Value} {base : Heap}
def spLNote (K : PySem.W.Frag) (d : Nat) : Sp := fun vs H Q _ => ∃ (cell dd : Int) (a : Addr) (ps : List Addr) (ks : List Kd), vs = [.int cell, .ref a, .int dd] ∧ dd = (d : Int) ∧ Kds K H a ps ks ∧ spTold (fun n => n.depth ≤ d) H Q
theorem ok_law_note1 (T : Txt K mg) : Ok P w K mg base 2 (He.ga K "_law_note") ["_law_cell", "_law_kinds_here", "_law_deep"] (spLNote K 1) := by
  refine def__law_note T (fun vs H Q E h => ?_) (fun cdv A outer s H vs Q E hr h => ?_)
  · obtain ⟨cell, dd, a, ps, ks, rfl, _⟩ := h; rfl
  · obtain ⟨cell, dd, a, ps, ks, rfl, hdd, D, q⟩ := h
    refine ⟨_, pss_cons (ps_if (PW.pt (pw_or (pt_cmpR op_eq (pv 2) pe_int (nomark _)) (pw_or1 (pt_cmpR op_eq (pe_op op_mod (pv 0) pe_int) pe_int (nomark _)))))
        (pss_one (ps_ret (pe_callO (ok_law_plain T) hr (by rfl) T.mg__law_plain (pa_cons (pe_op op_fdiv (pv 0) pe_int) (pa_cons (pv 1) pa_nil))))) pss_nil)
      (pss_cons ps_never (pss_cons ps_never (pss_one ps_never))), ?_⟩
    refine ⟨_, rfl, rfl, _, rfl, iteDT (by rw [hdd]; rfl) (iteT ?_)⟩
    exact ⟨_, rfl, _, _, rfl, rfl, ⟨by decide, by decide⟩, _, rfl, cell / 3, a, ps, ks, rfl, D, fun H' p n s f t l => q H' p n s f t (Nat.le_of_eq (leaf_depth l))⟩
theorem ok_law_noteS (T : Txt K mg) {d : Nat} (hd : 1 ≤ d) (G : Ok P w K mg base (d + 1) (He.ga K "_law_note") ["_law_cell", "_law_kinds_here", "_law_deep"] (spLNote K d)) :
    Ok P w K mg base (d + 2) (He.ga K "_law_note") ["_law_cell", "_law_kinds_here", "_law_deep"] (spLNote K (d + 1)) := by
  refine def__law_note T (fun vs H Q E h => ?_) (fun cdv A outer s H vs Q E hr h => ?_)
  · obtain ⟨cell, dd, a, ps, ks, rfl, _⟩ := h; rfl
  · obtain ⟨cell, dd, a, ps, ks, rfl, hdd, D, q⟩ := h
    refine ⟨_, pss_cons (ps_if (PW.pt (pw_or (pt_cmpR op_eq (pv 2) pe_int (nomark _)) (pw_or1 (pt_cmpR op_eq (pe_op op_mod (pv 0) pe_int) pe_int (nomark _)))))
        (pss_one (ps_ret (pe_callO (ok_law_plain T) (hr.mono (by omega)) (by rfl) T.mg__law_plain (pa_cons (pe_op op_fdiv (pv 0) pe_int) (pa_cons (pv 1) pa_nil))))) pss_nil)
      (pss_cons (ps_set (i := 3) sc__law_note.nd rfl (.inl rfl) (pe_callO G hr (by rfl) T.mg__law_note (pa_cons (pe_op op_mod (pe_op op_mul (pv 0) pe_int) pe_int) (pa_cons (pv 1) (pa_cons (pe_op op_sub (pv 2) pe_int) pa_nil)))))
      (pss_cons (ps_set (i := 4) sc__law_note.nd rfl (.inl rfl) (pe_callO G hr (by rfl) T.mg__law_note (pa_cons (pe_op op_mod (pe_op op_mul (pv 0) pe_int) pe_int) (pa_cons (pv 1) (pa_cons (pe_op op_sub (pv 2) pe_int) pa_nil)))))
      (pss_one (ps_ret (pe_tup (pa_cons (pe_ix ix_list (pe_lst (pa_cons pe_str (pa_cons pe_str (pa_cons pe_str pa_nil)))) (pe_op op_mod (pe_op op_fdiv (pv 0) pe_int) pe_int) (fun _ _ => rfl)) (pa_cons (pv 3) (pa_cons (pv 4) pa_nil)))))))), ?_⟩
    have p3 : (0 : Int) < 3 := by decide
    have pA : (0 : Int) < 1000003 := by decide
    have pB : (0 : Int) < 999983 := by decide
    refine ⟨_, rfl, rfl, _, rfl, iteDF (by intro z; have := V.int.inj z; omega) ?_⟩
    refine ⟨_, rfl, _, _, rfl, rfl, p3, rfl, _, rfl, ite2 (fun _ => ?_) (fun _ => ?_)⟩
    · exact ⟨_, rfl, _, _, rfl, rfl, ⟨by decide, by decide⟩, _, rfl, cell / 3, a, ps, ks, rfl, D, fun H' p n s f t l => q H' p n s f t (by have := leaf_depth l; omega)⟩
    · refine ⟨_, rfl, _, _, rfl, rfl, .inr ⟨by decide, by decide⟩, _, _, rfl, rfl, pA, _, rfl, _, rfl, _, _, rfl, rfl, _, _, a, ps, ks, rfl, by omega, D, fun H1 x m s1 fx tx dx => ?_⟩
      refine ⟨_, rfl, _, _, rfl, rfl, .inr ⟨by decide, by decide⟩, _, _, rfl, rfl, pB, _, rfl, _, rfl, _, _, rfl, rfl, _, _, a, ps, ks, rfl, by omega, D.keep s1, fun H2 y n s2 fy ty dy => ?_⟩
      have s02 := s1.trans s2
      have hc : cell / 3 % 3 = 0 ∨ cell / 3 % 3 = 1 ∨ cell / 3 % 3 = 2 := by omega
      have h0 := Int.emod_nonneg (cell / 3) (show (3 : Int) ≠ 0 by decide)
      refine ⟨by show (3 : Nat) ≤ sizeLine; decide, fun pl hl => ?_⟩
      obtain ⟨el, sl⟩ := new_tup (o := .lst [.str "both", .str "either", .str "but"]) hl
      generalize upd H2 pl (.lst [.str "both", .str "either", .str "but"]) = H3 at el sl ⊢
      have s03 := s02.trans sl
      refine ⟨_, rfl, _, _, rfl, rfl, ⟨by decide, by decide⟩, _, _, rfl, rfl, p3, ?_⟩
      rcases hc with hc | hc | hc
      · refine ⟨pl, _, _, .str "both", rfl, rfl, SqL.of el, atI_ok h0 (by rw [hc]; rfl), _, rfl, _, rfl, by show (3 : Nat) ≤ sizeLine; decide, fun p hp => ?_⟩
        have s4 : Same H3 (upd H3 p (.tup [.str "both", .ref x, .ref y])) := same_new hp
        exact q _ p (.both m n) (s03.trans s4) (s03.free hp) ⟨x, y, upd_same, tx.kept (Kept.of ((s2.trans sl).trans s4)), ty.kept (Kept.of (sl.trans s4))⟩ (by show 1 + max m.depth n.depth ≤ d + 1; omega)
      · refine ⟨pl, _, _, .str "either", rfl, rfl, SqL.of el, atI_ok h0 (by rw [hc]; rfl), _, rfl, _, rfl, by show (3 : Nat) ≤ sizeLine; decide, fun p hp => ?_⟩
        have s4 : Same H3 (upd H3 p (.tup [.str "either", .ref x, .ref y])) := same_new hp
        exact q _ p (.either m n) (s03.trans s4) (s03.free hp) ⟨x, y, upd_same, tx.kept (Kept.of ((s2.trans sl).trans s4)), ty.kept (Kept.of (sl.trans s4))⟩ (by show 1 + max m.depth n.depth ≤ d + 1; omega)
      · refine ⟨pl, _, _, .str "but", rfl, rfl, SqL.of el, atI_ok h0 (by rw [hc]; rfl), _, rfl, _, rfl, by show (3 : Nat) ≤ sizeLine; decide, fun p hp => ?_⟩
        have s4 : Same H3 (upd H3 p (.tup [.str "but", .ref x, .ref y])) := same_new hp
        exact q _ p (.but m n) (s03.trans s4) (s03.free hp) ⟨x, y, upd_same, tx.kept (Kept.of ((s2.trans sl).trans s4)), ty.kept (Kept.of (sl.trans s4))⟩ (by show 1 + max m.depth n.depth ≤ d + 1; omega)
theorem ok_law_note (T : Txt K mg) : ∀ (d : Nat), 1 ≤ d → Ok P w K mg base (d + 1) (He.ga K "_law_note") ["_law_cell", "_law_kinds_here", "_law_deep"] (spLNote K d)
  | 1, _ => ok_law_note1 T
  | d + 2, _ => ok_law_noteS T (Nat.succ_le_succ (Nat.zero_le d)) (ok_law_note T (d + 1) (Nat.succ_le_succ (Nat.zero_le d)))
def spOther : Sp := fun vs H Q _ => ∃ (p o : Addr) (cell : Int) (n m : Nt), vs = [.ref p, .ref o, .int cell] ∧ TN H n p ∧ n.depth ≤ 4 ∧ TN H m o ∧ m.leaf = true ∧
  ∀ (H' : Hp) (r : Addr) (n' : Nt), Same H H' → TN H' n' r → n'.depth ≤ 5 → (∀ ks lk, claimsL ks lk n' = claimsL ks lk n) → Q (.ref r) H'
theorem ok_law_other (T : Txt K mg) : Ok P w K mg base 6 (He.ga K "_law_otherwise") ["_law_note_here", "_law_other", "_law_cell"] spOther := by
  refine def__law_otherwise T (fun vs H Q E h => ?_) (fun cdv A outer s H vs Q E hr h => ?_)
  · obtain ⟨p, o, cell, n, m, rfl, _⟩ := h; rfl
  · obtain ⟨p, o, cell, n, m, rfl, hN, hd, hM, hl, q⟩ := h
    refine ⟨_, pss_cons (ps_set (i := 3) sc__law_otherwise.nd rfl (.inl rfl) (pe_lst (pa_cons (pe_tup (pa_cons pe_str (pa_cons (pv 0) (pa_cons (pv 0) pa_nil)))) (pa_cons (pe_tup (pa_cons pe_str (pa_cons (pv 0) (pa_cons (pv 0) pa_nil)))) pa_nil))))
      (pss_cons (ps_if (pt_cmpR op_lt (pe_callO (ok_depth T n (d := 5) (by omega)) hr (by rfl) T.mg__law_depth (pa_cons (pv 0) pa_nil)) pe_int (nomark _))
        (pss_cons (ps_expr (pe_bm PySem.F.plainAttrs_list PySem.F.slot_list_append PySem.F.type_list_append mt_append (pv 3) (pa_cons (pe_tup (pa_cons pe_str (pa_cons (pv 0) (pa_cons (pe_tup (pa_cons pe_str (pa_cons (pv 0) (pa_cons (pv 0) pa_nil)))) pa_nil)))) pa_nil)))
        (pss_one (ps_expr (pe_bm PySem.F.plainAttrs_list PySem.F.slot_list_append PySem.F.type_list_append mt_append (pv 3) (pa_cons (pe_tup (pa_cons pe_str (pa_cons (pe_tup (pa_cons pe_str (pa_cons (pv 0) (pa_cons (pv 1) pa_nil)))) (pa_cons (pe_tup (pa_cons pe_str (pa_cons (pv 1) (pa_cons (pv 0) pa_nil)))) pa_nil)))) pa_nil))))) pss_nil)
      (pss_one (ps_ret (pe_ix ix_list (pv 3) (pe_op op_mod (pv 2) (pe_callB call_len_seq (by rfl) T.no_len PySem.boot_len (pa_cons (pv 3) pa_nil))) (fun _ _ => rfl))))), ?_⟩
    have dm := leaf_depth hl
    have dn := n.depth_pos
    refine ⟨_, rfl, _, rfl, by show (3 : Nat) ≤ sizeLine; decide, fun p1 h1 => ?_⟩
    obtain ⟨e1, s1⟩ := new_tup (o := .tup [.str "both", .ref p, .ref p]) h1
    generalize upd H p1 (.tup [.str "both", .ref p, .ref p]) = H1 at e1 s1 ⊢
    refine ⟨_, rfl, _, rfl, by show (3 : Nat) ≤ sizeLine; decide, fun p2 h2 => ?_⟩
    obtain ⟨e2, s2⟩ := new_tup (o := .tup [.str "either", .ref p, .ref p]) h2
    generalize upd H1 p2 (.tup [.str "either", .ref p, .ref p]) = H2 at e2 s2 ⊢
    refine ⟨by show (2 : Nat) ≤ sizeLine; decide, fun so h3 => ?_⟩
    obtain ⟨e3, s3⟩ := new_tup (o := .lst [.ref p1, .ref p2]) h3
    have so0 : H so = none := (s1.trans s2).free h3
    generalize upd H2 so (.lst [.ref p1, .ref p2]) = H3 at e3 s3 ⊢
    have t3 := (s1.trans s2).trans s3
    refine ⟨_, rfl, p, rfl, hN.kept (Kept.of t3), fun H4 s4 => ⟨_, _, rfl, rfl, _, rfl, ?_⟩⟩
    have t4 := t3.trans s4
    have e14 := s4 _ _ (s3 _ _ (s2 _ _ e1))
    have e24 := s4 _ _ (s3 _ _ e2)
    have eso := s4 _ _ e3
    have hN4 := hN.kept (Kept.of t4)
    have hM4 := hM.kept (Kept.of t4)
    have c1 : ∀ ks lk, claimsL ks lk (.both n n) = claimsL ks lk n := fun ks lk => Bool.and_self _
    have c2 : ∀ ks lk, claimsL ks lk (.either n n) = claimsL ks lk n := fun ks lk => Bool.or_self _
    have c3 : ∀ ks lk, claimsL ks lk (.but n (.but n n)) = claimsL ks lk n := fun ks lk => by
      show (claimsL ks lk n && !(claimsL ks lk n && !claimsL ks lk n)) = _
      cases claimsL ks lk n <;> rfl
    have c4 : ∀ ks lk, claimsL ks lk (.either (.but n m) (.both m n)) = claimsL ks lk n := fun ks lk => by
      show ((claimsL ks lk n && !claimsL ks lk m) || (claimsL ks lk m && claimsL ks lk n)) = _
      cases claimsL ks lk n <;> cases claimsL ks lk m <;> rfl
    by_cases h4 : n.depth < 4
    · refine iteDT (by omega) ?_
      refine ⟨_, rfl, .inl ⟨rfl, _, SqL.of eso⟩, _, rfl, _, rfl, _, rfl, by show (3 : Nat) ≤ sizeLine; decide, fun p3 hp3 => ?_⟩
      obtain ⟨e3', s5⟩ := new_tup (o := .tup [.str "but", .ref p, .ref p]) hp3
      generalize upd H4 p3 (.tup [.str "but", .ref p, .ref p]) = H5 at e3' s5 ⊢
      refine ⟨by show (3 : Nat) ≤ sizeLine; decide, fun p4 hp4 => ?_⟩
      obtain ⟨e4', s6⟩ := new_tup (o := .tup [.str "but", .ref p, .ref p3]) hp4
      generalize upd H5 p4 (.tup [.str "but", .ref p, .ref p3]) = H6 at e4' s6 ⊢
      have t6 := (t4.trans s5).trans s6
      have eso6 := s6 _ _ (s5 _ _ eso)
      refine ⟨so, _, _, rfl, rfl, eso6, by show (2 : Nat) < sizeLine; decide, ?_⟩
      have k7 : Kept H4 (upd H6 so (.lst ([.ref p1, .ref p2] ++ [.ref p4]))) := kept_upd (Kept.of (s5.trans s6)) eso6 rfl
      have k76 : Kept H6 (upd H6 so (.lst ([.ref p1, .ref p2] ++ [.ref p4]))) := kept_upd (Kept.refl H6) eso6 rfl
      have s7 : Same H (upd H6 so (.lst ([.ref p1, .ref p2] ++ [.ref p4]))) := same_upd t6 so0
      have eso7 : (upd H6 so (.lst ([.ref p1, .ref p2] ++ [.ref p4]))) so = some (.lst [.ref p1, .ref p2, .ref p4]) := upd_same
      generalize upd H6 so (.lst ([.ref p1, .ref p2] ++ [.ref p4])) = H7 at k7 k76 s7 eso7 ⊢
      have e17 := k7 _ _ e14 rfl
      have e27 := k7 _ _ e24 rfl
      have e37 := k76 _ _ (s6 _ _ e3') rfl
      have e47 := k76 _ _ e4' rfl
      refine ⟨_, rfl, .inl ⟨rfl, _, SqL.of eso7⟩, _, rfl, _, rfl, by show (3 : Nat) ≤ sizeLine; decide, fun p5 hp5 => ?_⟩
      obtain ⟨e5', s8⟩ := new_tup (o := .tup [.str "but", .ref p, .ref o]) hp5
      generalize upd H7 p5 (.tup [.str "but", .ref p, .ref o]) = H8 at e5' s8 ⊢
      refine ⟨_, rfl, _, rfl, by show (3 : Nat) ≤ sizeLine; decide, fun p6 hp6 => ?_⟩
      obtain ⟨e6', s9⟩ := new_tup (o := .tup [.str "both", .ref o, .ref p]) hp6
      generalize upd H8 p6 (.tup [.str "both", .ref o, .ref p]) = H9 at e6' s9 ⊢
      refine ⟨by show (3 : Nat) ≤ sizeLine; decide, fun p7 hp7 => ?_⟩
      obtain ⟨e7', s10⟩ := new_tup (o := .tup [.str "either", .ref p5, .ref p6]) hp7
      generalize upd H9 p7 (.tup [.str "either", .ref p5, .ref p6]) = H10 at e7' s10 ⊢
      have s810 := (s8.trans s9).trans s10
      have eso10 := s810 _ _ eso7
      refine ⟨so, _, _, rfl, rfl, eso10, by show (3 : Nat) < sizeLine; decide, ?_⟩
      have k11 : Kept H10 (upd H10 so (.lst ([.ref p1, .ref p2, .ref p4] ++ [.ref p7]))) := kept_upd (Kept.refl H10) eso10 rfl
      have s11 : Same H (upd H10 so (.lst ([.ref p1, .ref p2, .ref p4] ++ [.ref p7]))) := same_upd (s7.trans s810) so0
      have eso11 : (upd H10 so (.lst ([.ref p1, .ref p2, .ref p4] ++ [.ref p7]))) so = some (.lst [.ref p1, .ref p2, .ref p4, .ref p7]) := upd_same
      generalize upd H10 so (.lst ([.ref p1, .ref p2, .ref p4] ++ [.ref p7])) = H11 at k11 s11 eso11 ⊢
      have g : ∀ a u, H7 a = some (.tup u) → H11 a = some (.tup u) := fun a u h => k11 _ _ (s810 _ _ h) rfl
      have hN11 := hN.kept (Kept.of s11)
      have hM11 := hM.kept (Kept.of s11)
      have hc : cell % 4 = 0 ∨ cell % 4 = 1 ∨ cell % 4 = 2 ∨ cell % 4 = 3 := by omega
      have h0 := Int.emod_nonneg cell (show (4 : Int) ≠ 0 by decide)
      refine ⟨_, rfl, _, rfl, _, rfl, so, _, rfl, .inl (SqL.of eso11), _, _, rfl, rfl, by show (0 : Int) < 4; decide, ?_⟩
      rcases hc with hc | hc | hc | hc
      · exact ⟨so, _, _, .ref p1, rfl, rfl, SqL.of eso11, atI_ok h0 (by show [V.ref p1, V.ref p2, V.ref p4, V.ref p7][(cell % 4).toNat]? = _; rw [hc]; rfl), q H11 p1 (.both n n) s11 ⟨p, p, g _ _ e17, hN11, hN11⟩ (by show 1 + max n.depth n.depth ≤ 5; omega) c1⟩
      · exact ⟨so, _, _, .ref p2, rfl, rfl, SqL.of eso11, atI_ok h0 (by show [V.ref p1, V.ref p2, V.ref p4, V.ref p7][(cell % 4).toNat]? = _; rw [hc]; rfl), q H11 p2 (.either n n) s11 ⟨p, p, g _ _ e27, hN11, hN11⟩ (by show 1 + max n.depth n.depth ≤ 5; omega) c2⟩
      · exact ⟨so, _, _, .ref p4, rfl, rfl, SqL.of eso11, atI_ok h0 (by show [V.ref p1, V.ref p2, V.ref p4, V.ref p7][(cell % 4).toNat]? = _; rw [hc]; rfl), q H11 p4 (.but n (.but n n)) s11 ⟨p, p3, g _ _ e47, hN11, p, p, g _ _ e37, hN11, hN11⟩ (by show 1 + max n.depth (1 + max n.depth n.depth) ≤ 5; omega) c3⟩
      · exact ⟨so, _, _, .ref p7, rfl, rfl, SqL.of eso11, atI_ok h0 (by show [V.ref p1, V.ref p2, V.ref p4, V.ref p7][(cell % 4).toNat]? = _; rw [hc]; rfl), q H11 p7 (.either (.but n m) (.both m n)) s11 ⟨p5, p6, k11 _ _ e7' rfl, ⟨p, o, k11 _ _ (s10 _ _ (s9 _ _ e5')) rfl, hN11, hM11⟩, o, p, k11 _ _ (s10 _ _ e6') rfl, hM11, hN11⟩ (by show 1 + max (1 + max n.depth m.depth) (1 + max m.depth n.depth) ≤ 5; omega) c4⟩
    · refine iteDF (by omega) ?_
      have hc : cell % 2 = 0 ∨ cell % 2 = 1 := by omega
      have h0 := Int.emod_nonneg cell (show (2 : Int) ≠ 0 by decide)
      refine ⟨_, rfl, _, rfl, _, rfl, so, _, rfl, .inl (SqL.of eso), _, _, rfl, rfl, by show (0 : Int) < 2; decide, ?_⟩
      rcases hc with hc | hc
      · exact ⟨so, _, _, .ref p1, rfl, rfl, SqL.of eso, atI_ok h0 (by show [V.ref p1, V.ref p2][(cell % 2).toNat]? = _; rw [hc]; rfl), q H4 p1 (.both n n) t4 ⟨p, p, e14, hN4, hN4⟩ (by show 1 + max n.depth n.depth ≤ 5; omega) c1⟩
      · exact ⟨so, _, _, .ref p2, rfl, rfl, SqL.of eso, atI_ok h0 (by show [V.ref p1, V.ref p2][(cell % 2).toNat]? = _; rw [hc]; rfl), q H4 p2 (.either n n) t4 ⟨p, p, e24, hN4, hN4⟩ (by show 1 + max n.depth n.depth ≤ 5; omega) c2⟩
end
end K43
set_option Elab.async false
set_option linter.all false
set_option maxRecDepth 100000
set_option maxHeartbeats 4000000
namespace K43
open PySem PySem.Spec PyProof.Rows L2
/-! ### rows as data -/
def ntD : Nt → PyData
  | .any => .tuple [.str "any"]
  | .made s => .tuple [.str "made", .str s]
  | .used s => .tuple [.str "used", .str s]
  | .chief s => .tuple [.str "chief", .str s]
  | .over a b => .tuple [.str "over", kD a, kD b]
  | .both m n => .tuple [.str "both", ntD m, ntD n]
  | .either m n => .tuple [.str "either", ntD m, ntD n]
  | .but m n => .tuple [.str "but", ntD m, ntD n]
theorem lay2 {a b : PyData} (ha : a.canLay0 = true) (hb : b.canLay0 = true) : PyData.canLay0 (.tuple [a, b]) = true := by
  show (a.canLay0 && (b.canLay0 && true)) = true
  rw [ha, hb]; rfl
theorem lay3 {a b c : PyData} (ha : a.canLay0 = true) (hb : b.canLay0 = true) (hc : c.canLay0 = true) : PyData.canLay0 (.tuple [a, b, c]) = true := by
  show (a.canLay0 && (b.canLay0 && (c.canLay0 && true))) = true
  rw [ha, hb, hc]; rfl
theorem tn_lay {H : Hp} : ∀ {n : Nt} {p : Addr}, TN H n p → (ntD n).canLay0 = true
  | .any, _, _ => by decide +kernel
  | .made _, _, h => lay2 (by decide +kernel) (name_lay h.2)
  | .used _, _, h => lay2 (by decide +kernel) (name_lay h.2)
  | .chief _, _, h => lay2 (by decide +kernel) (name_lay h.2)
  | .over _ _, _, ⟨_, _, _, _, _, oa, ob⟩ => lay3 (by decide +kernel) (kD_lay oa) (kD_lay ob)
  | .both _ _, _, ⟨_, _, _, a, b⟩ => lay3 (by decide +kernel) (tn_lay a) (tn_lay b)
  | .either _ _, _, ⟨_, _, _, a, b⟩ => lay3 (by decide +kernel) (tn_lay a) (tn_lay b)
  | .but _ _, _, ⟨_, _, _, a, b⟩ => lay3 (by decide +kernel) (tn_lay a) (tn_lay b)
theorem tn_dp {K : PySem.W.Frag} {H : Hp} : ∀ {n : Nt} {p : Addr}, TN H n p → Dp K H (.ref p) (ntD n)
  | .any, _, h => .tup (SqT.of h) (.cons (.str _) .nil)
  | .made _, _, h => .tup (SqT.of h.1) (.cons (.str _) (.cons (.str _) .nil))
  | .used _, _, h => .tup (SqT.of h.1) (.cons (.str _) (.cons (.str _) .nil))
  | .chief _, _, h => .tup (SqT.of h.1) (.cons (.str _) (.cons (.str _) .nil))
  | .over _ _, _, ⟨_, _, h, a, b, _, _⟩ => .tup (SqT.of h) (.cons (.str _) (.cons (kD_dp a) (.cons (kD_dp b) .nil)))
  | .both _ _, _, ⟨_, _, h, a, b⟩ => .tup (SqT.of h) (.cons (.str _) (.cons (tn_dp a) (.cons (tn_dp b) .nil)))
  | .either _ _, _, ⟨_, _, h, a, b⟩ => .tup (SqT.of h) (.cons (.str _) (.cons (tn_dp a) (.cons (tn_dp b) .nil)))
  | .but _ _, _, ⟨_, _, h, a, b⟩ => .tup (SqT.of h) (.cons (.str _) (.cons (tn_dp a) (.cons (tn_dp b) .nil)))
theorem dep3 (x : Str) (a b : PyData) : PyData.depth (.tuple [.str x, a, b]) = 1 + max a.depth b.depth := by
  simp only [PyData.depth, PyData.depthAll]
  omega
theorem nt_depth : ∀ n : Nt, (ntD n).depth ≤ n.depth + 1
  | .any => by decide
  | .made _ => by simp [ntD, PyData.depth, PyData.depthAll]
  | .used _ => by simp [ntD, PyData.depth, PyData.depthAll]
  | .chief _ => by simp [ntD, PyData.depth, PyData.depthAll]
  | .over a b => by
    have h1 := kD_depth a
    have h2 := kD_depth b
    have h3 := dep3 "over" (kD a) (kD b)
    show PyData.depth (.tuple [.str "over", kD a, kD b]) ≤ 1 + 1
    omega
  | .both m n => by
    have h1 := nt_depth m
    have h2 := nt_depth n
    have h3 := dep3 "both" (ntD m) (ntD n)
    show PyData.depth (.tuple [.str "both", ntD m, ntD n]) ≤ 1 + max m.depth n.depth + 1
    omega
  | .either m n => by
    have h1 := nt_depth m
    have h2 := nt_depth n
    have h3 := dep3 "either" (ntD m) (ntD n)
    show PyData.depth (.tuple [.str "either", ntD m, ntD n]) ≤ 1 + max m.depth n.depth + 1
    omega
  | .but m n => by
    have h1 := nt_depth m
    have h2 := nt_depth n
    have h3 := dep3 "but" (ntD m) (ntD n)
    show PyData.depth (.tuple [.str "but", ntD m, ntD n]) ≤ 1 + max m.depth n.depth + 1
    omega
def nsD (ns : List Int) : PyData := .tuple (ns.map .int)
def rwD (r : Rw) : PyData := .tuple [nsD r.ns, ntD r.nt, .str r.rule]
theorem nsD_dp {K : PySem.W.Frag} {H : Hp} {p : Addr} {ns : List Int} (h : H p = some (.tup (ns.map V.int))) : Dp K H (.ref p) (nsD ns) := .tup (SqT.of h) (dpAll_ints _)
theorem nsD_shaped (ns : List Int) : SeqAt.shaped (nsD ns) = true := shaped_ints ns
theorem nsD_eqv (a b : List Int) : PyData.eqv (nsD a) (nsD b) = decide (a = b) := by
  show PyData.eqvAll (a.map .int) (b.map .int) = _
  exact eqv_ints _ _
theorem rule_lay {x : Str} (h : RuleOk x) : PyData.canLay0 (.str x) = true := by
  rcases h with rfl | rfl <;> decide +kernel
def RwLow (r : Rw) : Prop := NumOk r.ns ∧ r.ns ≠ [] ∧ RuleOk r.rule ∧ r.nt.depth ≤ 4
theorem rw_lay {H : Hp} {p : Addr} {r : Rw} (h : RwAt H p r) (o : RwLow r) : (rwD r).canLay0 = true := by
  obtain ⟨x, y, _, _, h3⟩ := h
  have h1 := nsD_shaped r.ns
  unfold SeqAt.shaped at h1
  exact lay3 (Bool.and_eq_true_iff.mp h1).1 (tn_lay h3) (rule_lay o.2.2.1)
theorem ns_depth (ns : List Int) : (nsD ns).depth ≤ 1 := by
  have e : ∀ l : List Int, PyData.depthAll (l.map .int) = 0 := by
    intro l
    induction l with
    | nil => rfl
    | cons x l ih => simp [PyData.depthAll, ih, PyData.depth]
  unfold nsD
  simp only [PyData.depth, e]
  omega
theorem rw_depth {r : Rw} (o : RwLow r) : (rwD r).depth ≤ 6 := by
  have h1 := ns_depth r.ns
  have h2 := nt_depth r.nt
  have h3 := o.2.2.2
  unfold rwD
  simp only [PyData.depth, PyData.depthAll]
  omega
theorem rows_dp {K : PySem.W.Frag} {H : Hp} {ps : List Addr} {rs : List Rw} (h : Paired (RwAt H) ps rs) : DpAll K H (ps.map V.ref) (rs.map rwD) := by
  induction h with
  | nil => exact .nil
  | cons r t ih =>
    obtain ⟨x, y, h1, h2, h3⟩ := r
    exact .cons (.tup (SqT.of h1) (.cons (nsD_dp h2) (.cons (tn_dp h3) (.cons (.str _) .nil)))) ih
theorem rows_lay {H : Hp} {ps : List Addr} {rs : List Rw} (h : Paired (RwAt H) ps rs) : (∀ r ∈ rs, RwLow r) → PyData.canLayAll0 (rs.map rwD) = true ∧ PyData.depthAll (rs.map rwD) ≤ 6 := by
  induction h with
  | nil => intro _; exact ⟨rfl, by simp [PyData.depthAll]⟩
  | @cons p r ps rs z t ih =>
    intro o
    obtain ⟨h1, h2⟩ := ih fun q hq => o q (List.mem_cons_of_mem _ hq)
    have l := rw_lay z (o r List.mem_cons_self)
    have d := rw_depth (o r List.mem_cons_self)
    refine ⟨?_, ?_⟩
    · show ((rwD r).canLay0 && PyData.canLayAll0 (rs.map rwD)) = true
      rw [l, h1]; rfl
    · simp only [List.map_cons, PyData.depthAll]
      omega
theorem rows_shaped {H : Hp} {ps : List Addr} {rs : List Rw} (h : Paired (RwAt H) ps rs) (o : ∀ r ∈ rs, RwLow r) : SeqAt.shaped (.list (rs.map rwD)) = true := by
  obtain ⟨h1, h2⟩ := rows_lay h o
  have h3 : PyData.depth (.list (rs.map rwD)) ≤ 64 := by
    simp only [PyData.depth]
    omega
  show (PyData.canLay0 (.list (rs.map rwD)) && decide (PyData.depth (.list (rs.map rwD)) ≤ 64)) = true
  rw [Bool.and_eq_true]
  exact ⟨by simp only [PyData.canLay0]; exact h1, decide_eq_true h3⟩
theorem eqv_nil (rs : List Rw) : PyData.eqv (.list (rs.map rwD)) (.list []) = decide (rs = []) := by
  cases rs with
  | nil => rfl
  | cons r rs => simp [PyData.eqv, PyData.eqvAll]
/-! ### rows as they grow -/
def kin (rs : List Rw) (at_ : List Int) : List Rw := rs.filter fun q => decide (q.ns.dropLast = at_)
structure Grown (c : Int) (rs : List Rw) : Prop where
  ok : ∀ r ∈ rs, RwLow r
  nd : (rs.map (·.ns)).Nodup
  up : ∀ r ∈ rs, r.ns.dropLast = [] ∨ r.ns.dropLast ∈ rs.map (·.ns)
  sq : ∀ r ∈ rs, ∃ j : Nat, j < (kin rs r.ns.dropLast).length ∧ r.ns = r.ns.dropLast ++ [1 + (c + 37 * (j : Int)) % 99] ∧ (j = 0 → r.nt.depth ≤ 3)
def AtOk (rs : List Rw) (at_ : List Int) : Prop := at_ = [] ∨ ∃ r ∈ rs, at_ = r.ns.take 3
theorem Grown.nil (c : Int) : Grown c [] := ⟨(fun _ h => nomatch h), List.nodup_nil, (fun _ h => nomatch h), (fun _ h => nomatch h)⟩
theorem Grown.step {c : Int} {rs : List Rw} {at_ : List Int} {n : Nt} {x : Str} (G : Grown c rs) (hl : rs.length ≤ 7) (ha : AtOk rs at_) (hx : RuleOk x) (hd : n.depth ≤ 4) (h0 : (kin rs at_).length = 0 → n.depth ≤ 3) :
    Grown c (rs ++ [⟨at_ ++ [1 + (c + 37 * ((kin rs at_).length : Int)) % 99], n, x⟩]) := by
  have hk : (kin rs at_).length ≤ rs.length := List.length_filter_le _ _
  have hat : at_.length ≤ 3 ∧ (∀ y ∈ at_, 1 ≤ y ∧ y ≤ 99) ∧ (at_ = [] ∨ at_ ∈ rs.map (·.ns)) := by
    rcases ha with rfl | ⟨r, hr, rfl⟩
    · exact ⟨by simp, (fun y hy => nomatch hy), .inl rfl⟩
    · have o := G.ok r hr
      have h4 := o.1.1
      refine ⟨by rw [List.length_take]; omega, fun y hy => o.1.2 y (List.mem_of_mem_take hy), .inr ?_⟩
      by_cases h3 : r.ns.length ≤ 3
      · rw [List.take_of_length_le h3]
        exact List.mem_map_of_mem (f := (·.ns)) hr
      · have e : r.ns.take 3 = r.ns.dropLast := by
          rw [List.dropLast_eq_take]
          congr 1
          omega
        rw [e]
        rcases G.up r hr with u | u
        · have hl2 := congrArg List.length u
          rw [List.length_dropLast, List.length_nil] at hl2
          omega
        · exact u
  have keep : ∀ (a : List Int) (r : Rw), (kin rs a).length ≤ (kin (rs ++ [r]) a).length := by
    intro a r
    unfold kin
    rw [List.filter_append, List.length_append]
    omega
  have hnew : (at_ ++ [1 + (c + 37 * ((kin rs at_).length : Int)) % 99]).dropLast = at_ := List.dropLast_concat
  refine ⟨fun r hr => ?_, ?_, fun r hr => ?_, fun r hr => ?_⟩
  · rcases List.mem_append.mp hr with hr | hr
    · exact G.ok r hr
    · obtain rfl := List.mem_singleton.mp hr
      refine ⟨⟨by simp only [List.length_append, List.length_singleton]; omega, fun y hy => ?_⟩, by simp, hx, hd⟩
      rcases List.mem_append.mp hy with hy | hy
      · exact hat.2.1 y hy
      · rw [List.mem_singleton.mp hy]; omega
  · rw [List.map_append, List.nodup_append]
    refine ⟨G.nd, by simp, fun a ha2 b hb => ?_⟩
    intro e
    subst e
    obtain ⟨r, hr, e⟩ := List.mem_map.mp ha2
    have e2 : a = at_ ++ [1 + (c + 37 * ((kin rs at_).length : Int)) % 99] := by simpa using hb
    obtain ⟨j, h1, h2, _⟩ := G.sq r hr
    have e3 : r.ns = at_ ++ [1 + (c + 37 * ((kin rs at_).length : Int)) % 99] := e.trans e2
    have e4 : r.ns.dropLast = at_ := by rw [e3]; exact hnew
    rw [e4] at h1 h2
    rw [h2] at e3
    have e5 := List.append_cancel_left e3
    have e6 := (List.cons.inj e5).1
    omega
  · rcases List.mem_append.mp hr with hr | hr
    · rcases G.up r hr with u | u
      · exact .inl u
      · exact .inr (by rw [List.map_append]; exact List.mem_append_left _ u)
    · obtain rfl := List.mem_singleton.mp hr
      show (at_ ++ _).dropLast = [] ∨ (at_ ++ _).dropLast ∈ _
      rw [hnew]
      rcases hat.2.2 with u | u
      · exact .inl u
      · exact .inr (by rw [List.map_append]; exact List.mem_append_left _ u)
  · rcases List.mem_append.mp hr with hr | hr
    · obtain ⟨j, h1, h2, h3⟩ := G.sq r hr
      exact ⟨j, Nat.lt_of_lt_of_le h1 (keep _ _), h2, h3⟩
    · obtain rfl := List.mem_singleton.mp hr
      refine ⟨(kin rs at_).length, ?_, ?_, h0⟩
      · show (kin rs at_).length < (kin _ (at_ ++ _).dropLast).length
        rw [hnew]
        unfold kin
        rw [List.filter_append, List.length_append, List.filter_cons]
        have e : decide ((at_ ++ [1 + (c + 37 * ((kin rs at_).length : Int)) % 99]).dropLast = at_) = true := decide_eq_true hnew
        unfold kin at e
        rw [if_pos e]
        simp
      · show at_ ++ _ = (at_ ++ _).dropLast ++ _
        rw [hnew]
theorem Grown.first {c : Int} {rs : List Rw} {at_ : List Int} (G : Grown c rs) {r : Rw} (h : kin rs at_ = [r]) : r.nt.depth ≤ 3 := by
  have hr : r ∈ kin rs at_ := by rw [h]; exact List.mem_singleton_self r
  obtain ⟨h1, h2⟩ := List.mem_filter.mp hr
  obtain ⟨j, h3, _, h5⟩ := G.sq r h1
  have e : r.ns.dropLast = at_ := of_decide_eq_true h2
  rw [e, h] at h3
  have : j < 1 := h3
  exact h5 (by omega)
end K43
set_option Elab.async false
set_option linter.all false
set_option maxRecDepth 100000
set_option maxHeartbeats 4000000
namespace K43
open PySem PySem.Spec PyProof.Rows L2
theorem sIx3 (n : Nat) : HT.sIx n n (some 3) = min 3 n := rfl
theorem countL4 {m : Nat} (h1 : 1 ≤ m) (h4 : m ≤ 4) : ∃ e : Int, ([V.int 8, V.int 8, V.int 8, V.int 4])[((m : Int) - 1).toNat]? = some (.int e) ∧ 1 ≤ e ∧ e ≤ 8 := by
  have hm : m = 1 ∨ m = 2 ∨ m = 3 ∨ m = 4 := by omega
  rcases hm with rfl | rfl | rfl | rfl
  · exact ⟨8, rfl, by decide, by decide⟩
  · exact ⟨8, rfl, by decide, by decide⟩
  · exact ⟨8, rfl, by decide, by decide⟩
  · exact ⟨4, rfl, by decide, by decide⟩
theorem kin_next {rs : List Rw} {j : Nat} {r : Rw} {a : List Int} (h : rs[j]? = some r) : kin (rs.take (j + 1)) a = kin (rs.take j) a ++ (if r.ns.dropLast = a then [r] else []) := by
  unfold kin
  rw [take_next h, List.filter_append, List.filter_cons, List.filter_nil]
  by_cases e : r.ns.dropLast = a
  · rw [if_pos (decide_eq_true e), if_pos e]
  · rw [if_neg (by rw [decide_eq_false e]; decide), if_neg e]
section
variable {P : Program} {w : World} {K : PySem.W.Frag} {mg : Str → Option Value} {base : Heap}
def spLRows (K : PySem.W.Frag) : Sp := fun vs H Q _ => ∃ (a b : Addr) (ns : List Int) (kps : List Addr) (ks : List Kd), vs = [.ref a, .ref b] ∧ SqL K H a (ns.map V.int) ∧ Kds K H b kps ks ∧
  ∀ (H' : Hp) (p : Addr) (ps : List Addr) (rs : List Rw), Same H H' → H p = none → Rws H' p ps rs → (∀ r ∈ rs, r.nt.depth ≤ 4) → rs.length ≤ 8 → Q (.ref p) H'
theorem ok_law_rows (T : Txt K mg) : Ok P w K mg base 5 (He.ga K "_law_rows") ["_law_script", "_law_kinds_here"] (spLRows K) := by
  refine def__law_rows T (fun vs H Q E h => ?_) (fun cdv A outer s H vs Q E hr h => ?_)
  · obtain ⟨a, b, ns, kps, ks, rfl, _⟩ := h; rfl
  · obtain ⟨a, b, ns, kps, ks, rfl, hA, D, q⟩ := h
    have hlo := D.lo
    have hhi := D.hi
    have hkl : (kps.map V.ref).length = ks.length := by rw [List.length_map]; exact D.len
    refine ⟨_, pss_cons (ps_set (i := 2) sc__law_rows.nd rfl (.inl rfl) (pe_callO (ok_cell_at T) (hr.mono (by decide)) (by rfl) T.mg__law_cell_at (pa_cons (pv 0) (pa_cons pe_int pa_nil))))
      (pss_cons (ps_set (i := 3) sc__law_rows.nd rfl (.inl rfl) (pe_lst pa_nil))
      (pss_cons (ps_for PassesOwn.never rfl (pi_range1 (by rfl) T.no_range (pa_cons (pe_op op_add pe_int (pe_op op_mod (pv 2) (pe_ix ix_list (pe_lst (pa_cons pe_int (pa_cons pe_int (pa_cons pe_int (pa_cons pe_int pa_nil))))) (pe_op op_sub (pe_callB call_len_seq (by rfl) T.no_len PySem.boot_len (pa_cons (pv 1) pa_nil)) pe_int) (fun _ _ => rfl)))) pa_nil)) (pg_name (i := 4) sc__law_rows.nd rfl (.inl rfl))
        (pss_cons (ps_set (i := 5) sc__law_rows.nd rfl (.inl rfl) (pe_callO (ok_cell_at T) (hr.mono (by decide)) (by rfl) T.mg__law_cell_at (pa_cons (pv 0) (pa_cons (pe_op op_add pe_int (pv 4)) pa_nil))))
        (pss_cons (ps_set (i := 6) sc__law_rows.nd rfl (.inr rfl) (pe_tup pa_nil))
        (C8.pss_cut (ps_if (PW.pt (pw_and (pt_cmpR (op_neD (hu64 hr)) (pv 3) (pe_lst pa_nil) (nomark _)) (pw_and1 (pt_cmpR op_eq (pe_op op_mod (pv 5) pe_int) pe_int (nomark _)))))
          (pss_one (ps_set (i := 6) sc__law_rows.nd rfl (.inr rfl) (pe_slice sl_tupA (pe_ix ix_tup (pe_ix ix_list (pv 3) (pe_op op_mod (pe_op op_fdiv (pv 5) pe_int) (pe_callB call_len_seq (by rfl) T.no_len PySem.boot_len (pa_cons (pv 3) pa_nil))) (fun _ _ => rfl)) pe_int (fun _ _ => rfl)) po_none (po_some pe_int)))) pss_nil)
        (pss_cons (ps_setLc (i := 7) (own := [("_law_row", 10)]) (g := gName 10) rfl sc__law_rows.nd rfl rfl (sw_true rfl rfl rfl (by decide +kernel))
          (pi_list (pv 3)) (blkOk_by (N := n__law_rows) (sc := defScope s__law_rows) (by decide +kernel)) (fun _ _ _ _ _ => pg_name (i := 10) sc__law_rows.nd rfl (Or.inl rfl))
          (fun _ _ _ _ _ => pts_one (pt_cmpR (r := rEqD K) (op_eqD (hu64 hr)) (pe_slice (r := rSlA K) sl_tupA (pe_ix (r := rIxT K) ix_tup (pv 10) pe_int (fun _ _ => rfl)) po_none (po_some (pe_un un_neg pe_int))) (pv 6) (nomark _))) (fun _ _ _ _ _ => pv 10))
        (pss_cons (ps_set (i := 8) sc__law_rows.nd rfl (.inl rfl) (pe_callO (ok_law_note T (3 - ks.length / 4) (by omega)) (hr.mono (by omega)) (by rfl) T.mg__law_note (pa_cons (pe_op op_mod (pe_op op_mul (pv 5) pe_int) pe_int) (pa_cons (pv 1) (pa_cons (pe_op op_sub pe_int (pe_op op_fdiv (pe_callB call_len_seq (by rfl) T.no_len PySem.boot_len (pa_cons (pv 1) pa_nil)) pe_int)) pa_nil)))))
        (C8.pss_cut (ps_if (pt_cmpR op_eq (pe_op op_mod (pe_op op_fdiv (pv 5) pe_int) pe_int) pe_int (nomark _)) (pss_one (ps_set (i := 8) sc__law_rows.nd rfl (.inl rfl) (pe_tup (pa_cons pe_str pa_nil)))) pss_nil)
        (C8.pss_cut (ps_if (PW.pt (pw_and (pt_cmpR op_gt (pe_op op_mod (pe_op op_fdiv (pv 5) pe_int) pe_int) pe_int (nomark _)) (pw_and1 (pt_cmpR op_eq (pe_callB call_len_seq (by rfl) T.no_len PySem.boot_len (pa_cons (pv 7) pa_nil)) pe_int (nomark _)))))
          (pss_one (ps_set (i := 8) sc__law_rows.nd rfl (.inl rfl) (pe_tup (pa_cons pe_str (pa_cons (pe_tup (pa_cons pe_str pa_nil)) (pa_cons (pe_ix ix_tup (pe_ix ix_list (pv 7) pe_int (fun _ _ => rfl)) pe_int (fun _ _ => rfl)) pa_nil)))))) pss_nil)
        (C8.pss_cut (ps_set (i := 9) sc__law_rows.nd rfl (.inl rfl) (pe_op op_catA (pv 6) (pe_tup (pa_cons (pe_op op_add pe_int (pe_op op_mod (pe_op op_add (pe_op op_fdiv (pv 2) pe_int) (pe_op op_mul pe_int (pe_callB call_len_seq (by rfl) T.no_len PySem.boot_len (pa_cons (pv 7) pa_nil)))) pe_int)) pa_nil))))
        (pss_one (ps_expr (pe_bm PySem.F.plainAttrs_list PySem.F.slot_list_append PySem.F.type_list_append mt_append (pv 3) (pa_cons (pe_tup (pa_cons (pv 9) (pa_cons (pv 8) (pa_cons (pe_ix ix_list (pe_lst (pa_cons pe_str (pa_cons pe_str pa_nil))) (pe_op op_mod (pe_op op_fdiv (pv 5) pe_int) pe_int) (fun _ _ => rfl)) pa_nil)))) pa_nil)))))))))))))
      (pss_one (ps_ret (pv 3))))), ?_⟩
    refine ⟨_, rfl, a, ns, 5, rfl, hA, ?_⟩
    generalize cellL ns 5 = c
    refine ⟨by show (0 : Nat) ≤ sizeLine; decide, fun ro hro => ?_⟩
    have ero : (upd H ro (.lst [])) ro = some (.lst []) := upd_same
    have sro : Same H (upd H ro (.lst [])) := same_new hro
    generalize upd H ro (.lst []) = H1 at ero sro ⊢
    obtain ⟨e, he, e1, e8⟩ := countL4 hlo hhi
    refine ⟨_, rfl, by show (4 : Nat) ≤ sizeLine; decide, fun pl hpl => ?_⟩
    obtain ⟨epl, spl⟩ := new_tup (o := .lst [.int 8, .int 8, .int 8, .int 4]) hpl
    have ero2 := spl _ _ ero
    generalize upd H1 pl (.lst [.int 8, .int 8, .int 8, .int 4]) = H2 at epl spl ero2 ⊢
    have s02 := sro.trans spl
    refine ⟨_, rfl, b, _, rfl, .inl (SqL.of (s02 _ _ D.lst)), _, _, rfl, rfl, pl, _, _, .int e, rfl, rfl, SqL.of epl, atI_ok (by rw [hkl]; omega) (by rw [hkl]; exact he), _, _, rfl, rfl, by show 0 < e; omega, _, _, rfl, rfl, ?_⟩
    have h0 := Int.emod_nonneg c (show e ≠ 0 by omega)
    have h1 := Int.emod_lt_of_pos c (show 0 < e by omega)
    refine ⟨_, rfl, by omega, by omega, for_it walk_range (fun i σ' H' => Same H H' ∧ (∃ (ps : List Addr) (rs : List Rw), H' ro = some (.lst (ps.map V.ref)) ∧ Paired (RwAt H') ps rs ∧ Grown (c / 8) rs ∧ rs.length = i) ∧
      ∃ v4 v5 v6 v7 v8 v9, σ' = [some (.ref a), some (.ref b), some (.int c), some (.ref ro), v4, v5, v6, v7, v8, v9, none]) ⟨s02, ⟨[], [], ero2, .nil, Grown.nil _, rfl⟩, _, _, _, _, _, _, rfl⟩ (fun _ _ _ _ _ => trivial) ?_ ?_⟩
    · rintro i v σ' H3 H4 hi ⟨s4, ⟨ps, rs, hL, hR, G, hlen⟩, v4, v5, v6, v7, v8, v9, rfl⟩ ⟨rfl, rfl⟩
      have hi7 : i ≤ 7 := by
        have : i < (1 + c % e).toNat := hi
        omega
      have D4 := D.keep s4
      have hpl2 : ps.length = rs.length := Paired.length hR
      refine ⟨_, rfl, _, rfl, _, _, rfl, rfl, a, ns, 6 + i, by show [V.ref a, V.int (6 + (0 + (i : Int)))] = _; rw [show (6 : Int) + (0 + (i : Int)) = ((6 + i : Nat) : Int) by omega], SqL.keep hA s4, ?_⟩
      generalize cellL ns (6 + i) = more
      refine ⟨by show (0 : Nat) ≤ sizeLine; decide, fun t0 ht0 => ?_⟩
      obtain ⟨et0, st0⟩ := new_tup (o := .tup []) ht0
      generalize upd H4 t0 (.tup []) = H5 at et0 st0 ⊢
      have L5 := st0 _ _ hL
      have R5 : Paired (RwAt H5) ps rs := Paired.mapP hR fun _ _ z => z.keep st0
      have p2 : (0 : Int) < 2 := by decide
      have p4 : (0 : Int) < 4 := by decide
      have pA : (0 : Int) < 1000003 := by decide
      have p99 : (0 : Int) < 99 := by decide
      refine ⟨fun σ' H' => ∃ (ta : Addr) (at_ : List Int), σ' = [some (.ref a), some (.ref b), some (.int c), some (.ref ro), some (.int (0 + (i : Int))), some (.int more), some (.ref ta), v7, v8, v9, none] ∧ Same H4 H' ∧ H' ta = some (.tup (at_.map V.int)) ∧ AtOk rs at_, ?_, ?_⟩
      · refine ⟨_, rfl, by show (0 : Nat) ≤ sizeLine; decide, fun p0 hp0 => ?_⟩
        obtain ⟨e0, s0⟩ := new_tup (o := .lst []) hp0
        generalize upd H5 p0 (.lst []) = H6 at e0 s0 ⊢
        have L6 := s0 _ _ L5
        have R6 : Paired (RwAt H6) ps rs := Paired.mapP R5 fun _ _ z => z.keep s0
        have s46 := st0.trans s0
        refine ⟨.list (rs.map rwD), .list [], .lst (SqL.of L6) (rows_dp R6), .lst (SqL.of e0) .nil, rows_shaped R6 G.ok, rfl, _, rfl, ?_⟩
        rw [eqv_nil]
        by_cases hne : rs = []
        · rw [decide_eq_true hne]
          exact iteF (iteF ⟨t0, [], rfl, s46, s0 _ _ et0, .inl rfl⟩)
        · rw [decide_eq_false hne]
          refine iteT ⟨_, rfl, _, _, rfl, rfl, p2, rfl, _, rfl, ite2 (fun _ => ?_) (fun _ => ⟨t0, [], rfl, s46, s0 _ _ et0, .inl rfl⟩)⟩
          have hpos : 0 < rs.length := List.length_pos_iff.mpr hne
          have hm : (ps.map V.ref).length = rs.length := by rw [List.length_map]; exact hpl2
          have hmp : (0 : Int) < ((ps.map V.ref).length : Int) := by omega
          have z0 := Int.emod_nonneg (more / 2) (show ((ps.map V.ref).length : Int) ≠ 0 by omega)
          have z1 := Int.emod_lt_of_pos (more / 2) hmp
          have hix : (more / 2 % ((ps.map V.ref).length : Int)).toNat < ps.length := by omega
          obtain ⟨r, hr', x1, y1, w1, w2, w3⟩ := paired_at R6 (List.getElem?_eq_getElem hix)
          have hmem := List.mem_of_getElem? hr'
          have o := G.ok r hmem
          have h4 := o.1.1
          refine ⟨_, rfl, _, rfl, _, _, rfl, rfl, ⟨by decide, by decide⟩, _, rfl, ro, _, rfl, .inl (SqL.of L6), _, _, rfl, rfl, hmp, ro, _, _, .ref ps[(more / 2 % ((ps.map V.ref).length : Int)).toNat], rfl, rfl, SqL.of L6, atI_ok z0 (by rw [List.getElem?_map, List.getElem?_eq_getElem hix]; rfl), ?_⟩
          refine ⟨_, _, _, _, rfl, rfl, SqT.of w1, rfl, _, rfl, x1, _, rfl, SqT.of w2, fun hw => ?_, fun _ t1 ht1 => ?_⟩
          · have h5 := hw.2
            rw [List.length_map, sIx3] at h5
            refine ⟨x1, r.ns.take 3, rfl, s46, ?_, .inr ⟨r, hmem, rfl⟩⟩
            rw [List.take_of_length_le (by omega)]
            exact w2
          · refine ⟨t1, r.ns.take 3, rfl, s46.trans (same_new ht1), ?_, .inr ⟨r, hmem, rfl⟩⟩
            rw [cut_to _ (by decide)]
            exact upd_same
      · rintro σ' H6 ⟨ta, at_, rfl, s6, hta, hat⟩
        have L6 := s6 _ _ hL
        have R6 : Paired (RwAt H6) ps rs := Paired.mapP hR fun _ _ z => z.keep s6
        refine ⟨_, rfl, ro, rfl, ⟨_, SqL.of L6⟩, fun D7 hD7 => lc_it (walk_list (xs := ps.map V.ref)) (fun j H' => Same H6 H' ∧ ∃ es : List Addr, H' D7 = some (.lst (es.map V.ref)) ∧ Paired (RwAt H') es (kin (rs.take j) at_)) ⟨same_new hD7, [], upd_same, .nil⟩ (fun j H' _ p => SqL.of (p.1 _ _ L6)) ?_ ?_⟩
        · rintro j v' H7 H8 hj ⟨s7, es, hE, hEs⟩ ⟨rfl, hv⟩
          obtain ⟨p, hp, rfl⟩ := map_at hv
          obtain ⟨r, hr', hpr⟩ := paired_at R6 hp
          have hmem := List.mem_of_getElem? hr'
          have o := G.ok r hmem
          obtain ⟨x1, y1, w1, w2, w3⟩ := hpr.keep s7
          have hnil : r.ns.length ≠ 0 := fun z => o.2.1 (List.length_eq_zero_iff.mp z)
          refine ⟨rfl, _, rfl, p, _, _, _, rfl, rfl, SqT.of w1, rfl, _, rfl, _, rfl, x1, _, rfl, SqT.of w2, fun hw => ?_, fun _ t1 ht1 => ?_⟩
          · exfalso
            have h5 := hw.2
            rw [List.length_map, sIx_last] at h5
            omega
          · obtain ⟨et1, st1⟩ := new_tup (o := .tup (cutV (r.ns.map V.int) none (some (-1)))) ht1
            generalize upd H8 t1 (.tup (cutV (r.ns.map V.int) none (some (-1)))) = H9 at et1 st1 ⊢
            rw [cut_last] at et1
            refine ⟨_, rfl, nsD r.ns.dropLast, nsD at_, nsD_dp et1, nsD_dp (st1 _ _ (s7 _ _ hta)), nsD_shaped _, nsD_shaped _, _, rfl, ?_⟩
            rw [nsD_eqv]
            have lenE : es.length ≤ 7 := by
              have h1 := Paired.length hEs
              have h2 : (kin (rs.take j) at_).length ≤ (rs.take j).length := List.length_filter_le _ _
              rw [List.length_take] at h2
              omega
            by_cases hq : r.ns.dropLast = at_
            · refine iteDT hq ⟨_, rfl, _, st1 _ _ hE, small1000 (by rw [List.length_map]; omega), same_upd (s7.trans st1) hD7, es ++ [p], by rw [upd_same, List.map_append]; rfl, ?_⟩
              rw [kin_next hr', if_pos hq]
              have k9 : Kept H8 (upd H9 D7 (.lst (es.map V.ref ++ [.ref p]))) := kept_upd (Kept.of st1) (st1 _ _ hE) rfl
              exact paired_app (Paired.mapP hEs fun _ _ z => z.kept k9) (.cons ((hpr.keep s7).kept k9) .nil)
            · refine iteDF hq ⟨s7.trans st1, es, st1 _ _ hE, ?_⟩
              rw [kin_next hr', if_neg hq, List.append_nil]
              exact Paired.mapP hEs fun _ _ z => z.keep st1
        · rintro H7 ⟨s7, es, hE, hEs⟩
          rw [List.length_map, hpl2, list_end] at hEs
          have hem : es.length = (kin rs at_).length := Paired.length hEs
          have hel : (es.map V.ref).length = (kin rs at_).length := by rw [List.length_map]; exact hem
          have D7k := D4.keep (s6.trans s7)
          refine ⟨_, rfl, _, _, rfl, rfl, .inr ⟨by decide, by decide⟩, _, _, rfl, rfl, pA, _, rfl, _, rfl, b, _, rfl, .inl (SqL.of D7k.lst), _, _, rfl, rfl, ⟨by decide, by decide⟩, _, _, rfl, rfl, _, _, b, kps, ks, rfl, by rw [hkl]; omega, D7k, fun H8 tn n s8 ftn ttn dn => ?_⟩
          refine ⟨fun σ' H' => ∃ (tn : Addr) (nt : Nt), σ' = [some (.ref a), some (.ref b), some (.int c), some (.ref ro), some (.int (0 + (i : Int))), some (.int more), some (.ref ta), some (.ref D7), some (.ref tn), v9, none] ∧ Same H7 H' ∧ TN H' nt tn ∧ nt.depth ≤ 3, ?_, ?_⟩
          · exact ⟨_, rfl, _, _, rfl, rfl, ⟨by decide, by decide⟩, _, _, rfl, rfl, p4, rfl, _, rfl, ite2 (fun _ => ⟨by show (1 : Nat) ≤ sizeLine; decide, fun t ht => ⟨t, .any, rfl, s8.trans (same_new ht), upd_same, by decide⟩⟩) (fun _ => ⟨tn, n, rfl, s8, ttn, by omega⟩)⟩
          · rintro σ' H8 ⟨tn, nt, rfl, s8, ttn, dn⟩
            have hE8 := s8 _ _ hE
            have hEs8 : Paired (RwAt H8) es (kin rs at_) := Paired.mapP hEs fun _ _ z => z.keep s8
            refine ⟨fun σ' H' => ∃ (tn : Addr) (nt : Nt), σ' = [some (.ref a), some (.ref b), some (.int c), some (.ref ro), some (.int (0 + (i : Int))), some (.int more), some (.ref ta), some (.ref D7), some (.ref tn), v9, none] ∧ Same H8 H' ∧ TN H' nt tn ∧ nt.depth ≤ 4 ∧ ((kin rs at_).length = 0 → nt.depth ≤ 3), ?_, ?_⟩
            · refine ⟨_, rfl, _, _, rfl, rfl, ⟨by decide, by decide⟩, _, _, rfl, rfl, p4, _, _, rfl, rfl, _, rfl, ite2 (fun _ => ?_) (fun _ => iteF ⟨tn, nt, rfl, Same.refl _, ttn, by omega, fun _ => dn⟩)⟩
              refine ⟨_, rfl, D7, _, rfl, .inl (SqL.of hE8), rfl, _, rfl, ?_⟩
              by_cases h1 : (kin rs at_).length = 1
              · refine iteDT (by rw [hel, h1]; rfl) ?_
                obtain ⟨r1, hk⟩ := List.length_eq_one_iff.mp h1
                have d1 := G.first hk
                rw [hk] at hEs8
                cases hEs8 with
                | @cons p1 _ es1 _ z t =>
                  cases t
                  obtain ⟨x1, y1, w1, w2, w3⟩ := z
                  refine ⟨by show (1 : Nat) ≤ sizeLine; decide, fun t1 ht1 => ?_⟩
                  obtain ⟨et1, st1⟩ := new_tup (o := .tup [.str "any"]) ht1
                  generalize upd H8 t1 (.tup [.str "any"]) = H9 at et1 st1 ⊢
                  refine ⟨_, rfl, D7, _, _, .ref p1, rfl, rfl, SqL.of (st1 _ _ hE8), rfl, p1, _, _, _, rfl, rfl, SqT.of (st1 _ _ w1), rfl, by show (3 : Nat) ≤ sizeLine; decide, fun t2 ht2 => ?_⟩
                  have s9 : Same H9 (upd H9 t2 (.tup [.str "but", .ref t1, .ref y1])) := same_new ht2
                  refine ⟨t2, .but .any r1.nt, rfl, st1.trans s9, ⟨t1, y1, upd_same, s9 _ _ et1, w3.kept (Kept.of (st1.trans s9))⟩, ?_, fun h0 => ?_⟩
                  · show 1 + max 1 r1.nt.depth ≤ 4
                    omega
                  · omega
              · refine iteDF (by intro z; have := V.int.inj z; omega) ⟨tn, nt, rfl, Same.refl _, ttn, by omega, fun _ => dn⟩
            · rintro σ' H9 ⟨tn, nt, rfl, s9, ttn, d4, d3⟩
              have t79 := s8.trans s9
              have hE9 := t79 _ _ hE
              have hta9 := t79 _ _ (s7 _ _ hta)
              refine ⟨fun σ' H' => ∃ tm : Addr, σ' = [some (.ref a), some (.ref b), some (.int c), some (.ref ro), some (.int (0 + (i : Int))), some (.int more), some (.ref ta), some (.ref D7), some (.ref tn), some (.ref tm), none] ∧ Same H9 H' ∧ H' tm = some (.tup ((at_ ++ [1 + (c / 8 + 37 * ((kin rs at_).length : Int)) % 99]).map V.int)), ?_, ?_⟩
              · refine ⟨_, rfl, _, rfl, _, _, rfl, rfl, ⟨by decide, by decide⟩, _, rfl, D7, _, rfl, .inl (SqL.of hE9), _, _, rfl, rfl, .inl ⟨by decide, by decide⟩, _, _, rfl, rfl, _, _, rfl, rfl, p99, _, _, rfl, rfl, by show (1 : Nat) ≤ sizeLine; decide, fun t3 ht3 => ?_⟩
                obtain ⟨et3, st3⟩ := new_tup (o := .tup [.int (1 + (c / 8 + 37 * ((es.map V.ref).length : Int)) % 99)]) ht3
                show rCatA K _ _ (upd H9 t3 (.tup [.int (1 + (c / 8 + 37 * ((es.map V.ref).length : Int)) % 99)])) _
                generalize upd H9 t3 (.tup [.int (1 + (c / 8 + 37 * ((es.map V.ref).length : Int)) % 99)]) = H10 at et3 st3 ⊢
                rw [hel] at et3
                have ha3 : at_.length ≤ 3 := by
                  rcases hat with rfl | ⟨r, _, rfl⟩
                  · exact Nat.zero_le 3
                  · rw [List.length_take]; omega
                refine ⟨ta, t3, _, _, rfl, rfl, SqT.of (st3 _ _ hta9), SqT.of et3, ?_, fun h0 => ?_, fun _ h => (nomatch h), fun _ _ t4 ht4 => ?_⟩
                · rw [List.length_map]
                  have : (4 : Nat) ≤ sizeLine := by decide
                  show at_.length + 1 ≤ sizeLine
                  omega
                · have e0 : at_ = [] := List.map_eq_nil_iff.mp h0
                  subst e0
                  exact ⟨t3, rfl, st3, et3⟩
                · refine ⟨t4, rfl, st3.trans (same_new ht4), ?_⟩
                  rw [upd_same, List.map_append]; rfl
              · rintro σ' H10 ⟨tm, rfl, s10, htm⟩
                have s410 := ((s6.trans s7).trans t79).trans s10
                have L10 := s410 _ _ hL
                refine ⟨_, rfl, .inl ⟨rfl, _, SqL.of L10⟩, _, rfl, _, rfl, by show (2 : Nat) ≤ sizeLine; decide, fun pr hpr => ?_⟩
                obtain ⟨epr, spr⟩ := new_tup (o := .lst [.str "one", .str "near"]) hpr
                generalize upd H10 pr (.lst [.str "one", .str "near"]) = H11 at epr spr ⊢
                have z0 := Int.emod_nonneg (more / 64) (show (2 : Int) ≠ 0 by decide)
                have hru : ∃ x : Str, ([V.str "one", V.str "near"])[(more / 64 % 2).toNat]? = some (.str x) ∧ RuleOk x := by
                  have hc2 : more / 64 % 2 = 0 ∨ more / 64 % 2 = 1 := by omega
                  rcases hc2 with hc2 | hc2
                  · exact ⟨"one", by rw [hc2]; rfl, .inl rfl⟩
                  · exact ⟨"near", by rw [hc2]; rfl, .inr rfl⟩
                obtain ⟨x, hx1, hx2⟩ := hru
                refine ⟨_, rfl, _, _, rfl, rfl, ⟨by decide, by decide⟩, _, _, rfl, rfl, p2, pr, _, _, .str x, rfl, rfl, SqL.of epr, atI_ok z0 hx1, by show (3 : Nat) ≤ sizeLine; decide, fun p hp => ?_⟩
                obtain ⟨ep, sp⟩ := new_tup (o := .tup [.ref tm, .ref tn, .str x]) hp
                generalize upd H11 p (.tup [.ref tm, .ref tn, .str x]) = H12 at ep sp ⊢
                have s1012 := spr.trans sp
                have L12 := s1012 _ _ L10
                refine ⟨ro, _, _, rfl, rfl, L12, small1000 (by rw [List.length_map]; omega), ?_⟩
                have k13 : Kept H12 (upd H12 ro (.lst (ps.map V.ref ++ [.ref p]))) := kept_upd (Kept.refl H12) L12 rfl
                have kall : Kept H4 (upd H12 ro (.lst (ps.map V.ref ++ [.ref p]))) := (Kept.of (s410.trans s1012)).trans k13
                refine ⟨same_upd ((s4.trans s410).trans s1012) hro, ⟨ps ++ [p], rs ++ [⟨at_ ++ [1 + (c / 8 + 37 * ((kin rs at_).length : Int)) % 99], nt, x⟩], by rw [upd_same, List.map_append]; rfl, ?_, G.step (by omega) hat hx2 d4 d3, by rw [List.length_append, hlen]; rfl⟩, _, _, _, _, _, _, rfl⟩
                refine paired_app (Paired.mapP hR fun _ _ z => z.kept kall) (.cons ⟨tm, tn, ?_, ?_, ?_⟩ .nil)
                · exact k13 _ _ ep rfl
                · exact k13 _ _ (s1012 _ _ htm) rfl
                · exact ttn.kept ((Kept.of (s10.trans s1012)).trans k13)
    · rintro σ' H3 ⟨s3, ⟨ps, rs, hL, hR, G, hlen⟩, v4, v5, v6, v7, v8, v9, rfl⟩
      refine ⟨_, rfl, q H3 ro ps rs s3 hro ⟨hL, hR, fun r hr => ?_, G.nd, fun r hr h1 => ?_, by omega, by omega⟩ (fun r hr => (G.ok r hr).2.2.2) (by omega)⟩
      · obtain ⟨o1, o2, o3, o4⟩ := G.ok r hr
        exact ⟨o1, o2, o3, by omega⟩
      · rcases G.up r hr with u | u
        · have hl2 := congrArg List.length u
          rw [List.length_dropLast, List.length_nil] at hl2
          omega
        · exact u
end
end K43
set_option Elab.async false
set_option linter.all false
set_option maxRecDepth 100000
set_option maxHeartbeats 4000000
namespace K43
open PySem PySem.Spec PyProof.Rows L2
theorem cut_from {α : Type} (f : α → V) (xs : List α) {n : Nat} (h : n ≤ xs.length) : cutV (xs.map f) (some (n : Int)) none = (xs.drop n).map f := by
  unfold cutV
  have e1 : HT.sIx (xs.map f).length 0 (some (n : Int)) = n := by rw [List.length_map, HT.sIx_nat]; omega
  have e2 : HT.sIx (xs.map f).length (xs.map f).length none = xs.length := by rw [List.length_map]; rfl
  rw [e1, e2, ← List.map_drop, ← List.map_take]
  congr 1
  rw [List.take_of_length_le]
  rw [List.length_drop]
  exact Nat.le_refl _
theorem cut_upto {α : Type} (f : α → V) (xs : List α) {n : Nat} (h : n ≤ xs.length) : cutV (xs.map f) none (some (n : Int)) = (xs.take n).map f := by
  unfold cutV
  have e1 : HT.sIx (xs.map f).length 0 none = 0 := rfl
  have e2 : HT.sIx (xs.map f).length (xs.map f).length (some (n : Int)) = n := by rw [List.length_map, HT.sIx_nat]; omega
  rw [e1, e2, List.drop_zero, Nat.sub_zero, ← List.map_take]
theorem Rws.perm {H H' : Hp} {a b : Addr} {ps qs : List Addr} {rs : List Rw} (h : Rws H a ps rs) (s : Same H H') (hb : H' b = some (.lst (qs.map V.ref))) (hq : qs.Perm ps) : ∃ rs', rs'.Perm rs ∧ Rws H' b qs rs' := by
  obtain ⟨rs', h1, h2⟩ := paired_perm hq h.at_
  refine ⟨rs', h2, hb, Paired.mapP h1 fun _ _ r => r.keep s, fun r hr => h.ok r (h2.mem_iff.mp hr), ?_, fun r hr h3 => ?_, ?_, ?_⟩
  · exact (h2.map _).nodup_iff.mpr h.nd
  · exact (h2.map _).mem_iff.mpr (h.up r (h2.mem_iff.mp hr) h3)
  · rw [h2.length_eq]; exact h.lo
  · rw [h2.length_eq]; exact h.hi
section
variable {P : Program} {w : World} {K : PySem.W.Frag} {mg : Str → Option Value} {base : Heap}
def spTurned : Sp := fun vs H Q _ => ∃ (a : Addr) (cell : Int) (ps : List Addr) (rs : List Rw), vs = [.ref a, .int cell] ∧ Rws H a ps rs ∧
  ∀ (H' : Hp) (b : Addr) (qs : List Addr) (rs' : List Rw), Same H H' → H b = none → rs'.Perm rs → Rws H' b qs rs' → Q (.ref b) H'
theorem ok_law_turned (T : Txt K mg) : Ok P w K mg base 1 (He.ga K "_law_turned") ["_law_rows_here", "_law_cell"] spTurned := by
  refine def__law_turned T (fun vs H Q E h => ?_) (fun cdv A outer s H vs Q E hr h => ?_)
  · obtain ⟨a, cell, ps, rs, rfl, _⟩ := h; rfl
  · obtain ⟨a, cell, ps, rs, rfl, R, q⟩ := h
    have hlo := R.lo
    have hpl : ps.length = rs.length := Paired.length R.at_
    refine ⟨_, pss_cons (ps_set (i := 2) sc__law_turned.nd rfl (.inl rfl) (pe_op op_mod (pv 1) (pe_callB call_len_seq (by rfl) T.no_len PySem.boot_len (pa_cons (pv 0) pa_nil))))
      (pss_cons (ps_set (i := 3) sc__law_turned.nd rfl (.inl rfl) (pe_op op_cat (pe_slice sl_list (pv 0) (po_some (pv 2)) po_none) (pe_slice sl_list (pv 0) po_none (po_some (pv 2)))))
      (pss_cons (ps_if (pt_cmpR op_eq (pe_op op_mod (pe_op op_fdiv (pv 1) pe_int) pe_int) pe_int (nomark _))
        (pss_one (ps_expr (pe_bm0 PySem.F.plainAttrs_list PySem.F.slot_list_reverse PySem.F.type_list_reverse mt_reverse (pv 3)))) pss_nil)
      (pss_one (ps_ret (pv 3))))), ?_⟩
    have hL : (ps.map V.ref).length = ps.length := List.length_map ..
    have hpos : (0 : Int) < ((ps.map V.ref).length : Int) := by omega
    have z0 := Int.emod_nonneg cell (show ((ps.map V.ref).length : Int) ≠ 0 by omega)
    have z1 := Int.emod_lt_of_pos cell hpos
    obtain ⟨m, hm⟩ : ∃ m : Nat, cell % ((ps.map V.ref).length : Int) = (m : Int) := ⟨_, (Int.toNat_of_nonneg z0).symm⟩
    have hle : m ≤ ps.length := by omega
    refine ⟨_, rfl, _, rfl, a, _, rfl, .inl (SqL.of R.lst), _, _, rfl, rfl, hpos, ?_⟩
    refine ⟨_, rfl, _, rfl, _, rfl, a, _, rfl, SqL.of R.lst, fun p1 hp1 => ?_⟩
    obtain ⟨e1, s1⟩ := new_tup (o := .lst (cutV (ps.map V.ref) (some (cell % ((ps.map V.ref).length : Int))) none)) hp1
    generalize upd H p1 (.lst (cutV (ps.map V.ref) (some (cell % ((ps.map V.ref).length : Int))) none)) = H1 at e1 s1 ⊢
    rw [hm, cut_from V.ref ps hle] at e1
    refine ⟨_, rfl, _, rfl, _, rfl, a, _, rfl, SqL.of (s1 _ _ R.lst), fun p2 hp2 => ?_⟩
    obtain ⟨e2, s2⟩ := new_tup (o := .lst (cutV (ps.map V.ref) none (some (cell % ((ps.map V.ref).length : Int))))) hp2
    generalize upd H1 p2 (.lst (cutV (ps.map V.ref) none (some (cell % ((ps.map V.ref).length : Int))))) = H2 at e2 s2 ⊢
    rw [hm, cut_upto V.ref ps hle] at e2
    have e12 := s2 _ _ e1
    refine ⟨p1, p2, _, _, rfl, rfl, e12, e2, ?_, fun p3 hp3 => ?_⟩
    · rw [List.length_map, List.length_map, List.length_drop, List.length_take]
      have := R.hi
      have : (24 : Nat) ≤ sizeLine := by decide
      omega
    obtain ⟨e3, s3⟩ := new_tup (o := .lst ((ps.drop m).map V.ref ++ (ps.take m).map V.ref)) hp3
    have t2 := s1.trans s2
    have f3 := t2.free hp3
    generalize upd H2 p3 (.lst ((ps.drop m).map V.ref ++ (ps.take m).map V.ref)) = H3 at e3 s3 ⊢
    rw [← List.map_append] at e3
    have t3 := t2.trans s3
    have hperm : (ps.drop m ++ ps.take m).Perm ps := List.perm_append_comm.trans (List.Perm.of_eq (List.take_append_drop m ps))
    refine ⟨_, rfl, _, _, rfl, rfl, ⟨by decide, by decide⟩, _, _, rfl, rfl, by show (0 : Int) < 2; decide, rfl, _, rfl, ite2 (fun _ => ?_) (fun _ => ?_)⟩
    · refine ⟨_, rfl, .inl ⟨rfl, _, SqL.of e3⟩, p3, _, rfl, rfl, e3, ?_⟩
      have t4 : Same H (upd H3 p3 (.lst ((ps.drop m ++ ps.take m).map V.ref).reverse)) := same_upd t3 f3
      have e4 : (upd H3 p3 (.lst ((ps.drop m ++ ps.take m).map V.ref).reverse)) p3 = some (.lst (((ps.drop m ++ ps.take m).reverse).map V.ref)) := by rw [upd_same, List.map_reverse]
      obtain ⟨rs', h1, h2⟩ := R.perm t4 e4 ((List.reverse_perm _).trans hperm)
      exact ⟨_, rfl, q _ p3 _ rs' t4 f3 h1 h2⟩
    · obtain ⟨rs', h1, h2⟩ := R.perm t3 e3 hperm
      exact ⟨_, rfl, q _ p3 _ rs' t3 f3 h1 h2⟩
end
end K43
set_option Elab.async false
set_option linter.all false
set_option maxRecDepth 100000
set_option maxHeartbeats 4000000
namespace K43
open PySem PySem.Spec PyProof.Rows L2
theorem Kds.copy {K : PySem.W.Frag} {H H' : Hp} {a b : Addr} {ps : List Addr} {ks : List Kd} (h : Kds K H a ps ks) (s : Same H H') (e : H' b = some (.lst (ps.map V.ref))) : Kds K H' b ps ks :=
  ⟨e, h.at_.keep s, h.ok, h.nd, h.lo, h.hi⟩
theorem Rws.copy {H H' : Hp} {a b : Addr} {ps : List Addr} {rs : List Rw} (h : Rws H a ps rs) (s : Same H H') (e : H' b = some (.lst (ps.map V.ref))) : Rws H' b ps rs :=
  ⟨e, Paired.mapP h.at_ fun _ _ r => r.keep s, h.ok, h.nd, h.up, h.lo, h.hi⟩
section
variable {P : Program} {w : World} {K : PySem.W.Frag} {mg : Str → Option Value} {base : Heap}
def spLaw (K : PySem.W.Frag) : Sp := fun vs H Q _ => ∃ (a : Addr) (ns : List Int), vs = [.ref a] ∧ SqL K H a (ns.map V.int) ∧ ∀ H', Q (.bl true) H'
theorem law_len {K : PySem.W.Frag} (vs : List V) (H : Hp) (Q : VK) (E : XK) (h : spLaw K vs H Q E) : vs.length = 1 := by
  obtain ⟨a, ns, rfl, _⟩ := h; rfl
theorem law_body (T : Txt K mg) (cdv : Value) (A : Around) (outer : List Env) (s : Shared) (H : Hp) (vs : List V) (Q : VK) (E : XK)
    (hr : Room 11 (A.deeper (envOfC "law" (defScope s_law) s.heap.objs.size (He.ga K "law") cdv))) (h : spLaw K vs H Q E) :
    ∃ t, PSs (cxOf CX0 P w K mg base n_law "law" (defScope s_law) (He.ga K "law") cdv A outer s H E).nox (defBody s_law) t ∧ t { nx := fun _ H' => Q .non H', rt := Q } (start n_law vs) H := by
  · obtain ⟨a, ns, rfl, hS, q⟩ := h
    refine ⟨_, pss_cons (ps_set (i := 1) sc_law.nd rfl (.inl rfl) (pe_callO (ok_law_kinds T) (hr.mono (by decide)) (by rfl) T.mg__law_kinds (pa_cons (pv 0) pa_nil)))
      (pss_cons (ps_set (i := 2) sc_law.nd rfl (.inl rfl) (pe_callO (ok_law_turned T) (hr.mono (by decide)) (by rfl) T.mg__law_turned (pa_cons (pe_callO (ok_law_rows T) (hr.mono (by decide)) (by rfl) T.mg__law_rows (pa_cons (pv 0) (pa_cons (pv 1) pa_nil))) (pa_cons (pe_callO (ok_cell_at T) (hr.mono (by decide)) (by rfl) T.mg__law_cell_at (pa_cons (pv 0) (pa_cons pe_int pa_nil))) pa_nil))))
      (pss_cons (ps_set (i := 3) sc_law.nd rfl (.inl rfl) (pe_callO (ok_all_looks T) (hr.mono (by decide)) (by rfl) T.mg_all_looks (pa_cons (pe_callB call_len_seq (by rfl) T.no_len PySem.boot_len (pa_cons (pv 1) pa_nil)) pa_nil)))
      (pss_cons (ps_set (i := 4) sc_law.nd rfl (.inl rfl) (pe_makeO T.mk_Tree (ok_Tree_init T) hr (by rfl) T.mg_Tree (pa_cons (pe_callTy call_list_of (by rfl) T.no_list (by decide +kernel) (pa_cons (pv 1) pa_nil)) (pa_cons pe_str (pa_cons (pe_callTy call_list_of (by rfl) T.no_list (by decide +kernel) (pa_cons (pv 2) pa_nil)) pa_nil)))))
      (pss_cons (ps_for PassesOwn.never rfl (pi_list (pv 2)) (pg_tup rfl (pgs_cons (pg_name (i := 5) sc_law.nd rfl (.inl rfl)) (pgs_cons (pg_name (i := 6) sc_law.nd rfl (.inl rfl)) (pgs_cons (pg_name (i := 7) sc_law.nd rfl (.inl rfl)) pgs_nil)))) (pss_one (ps_if (pt_not (pt_val (pe_callO (ok_law_is T) (hr.mono (by decide)) (by rfl) T.mg__law_is (pa_cons (pe_methO (pv 4) T.cls_Tree T.me_Tree_looked (ok_Tree_looked T) (hr.mono (by decide)) (pa_cons (pv 5) pa_nil)) (pa_cons (pe_callO (ok_law_count T) (hr.mono (by decide)) (by rfl) T.mg__law_count (pa_cons (pv 6) (pa_cons (pv 1) (pa_cons (pv 3) pa_nil)))) pa_nil))))) (pss_one (ps_ret pe_bl)) pss_nil)))
      (pss_cons (ps_asg (pe_ix ix_list (pv 2) (pe_op op_mod (pe_callO (ok_cell_at T) (hr.mono (by decide)) (by rfl) T.mg__law_cell_at (pa_cons (pv 0) (pa_cons pe_int pa_nil))) (pe_callB call_len_seq (by rfl) T.no_len PySem.boot_len (pa_cons (pv 2) pa_nil))) (fun _ _ => rfl)) (pg_tup rfl (pgs_cons (pg_name (i := 5) sc_law.nd rfl (.inl rfl)) (pgs_cons (pg_name (i := 6) sc_law.nd rfl (.inl rfl)) (pgs_cons (pg_name (i := 7) sc_law.nd rfl (.inl rfl)) pgs_nil)))))
      (pss_cons (ps_set (i := 8) sc_law.nd rfl (.inl rfl) (pe_callO (ok_law_plain T) (hr.mono (by decide)) (by rfl) T.mg__law_plain (pa_cons (pe_op op_mod (pe_callO (ok_cell_at T) (hr.mono (by decide)) (by rfl) T.mg__law_cell_at (pa_cons (pv 0) (pa_cons pe_int pa_nil))) (pe_op op_pow pe_int pe_int)) (pa_cons (pv 1) pa_nil))))
      (pss_cons (ps_set (i := 9) sc_law.nd rfl (.inl rfl) (pe_lst (pa_cons (pe_tup (pa_cons (pe_tup (pa_cons pe_int pa_nil)) (pa_cons (pe_callO (ok_law_other T) (hr.mono (by decide)) (by rfl) T.mg__law_otherwise (pa_cons (pv 6) (pa_cons (pv 8) (pa_cons (pe_callO (ok_cell_at T) (hr.mono (by decide)) (by rfl) T.mg__law_cell_at (pa_cons (pv 0) (pa_cons pe_int pa_nil))) pa_nil)))) (pa_cons pe_str pa_nil)))) pa_nil)))
      (pss_cons (ps_set (i := 9) sc_law.nd rfl (.inl rfl) (pe_op op_cat (pv 9) (pe_lst (pa_cons (pe_tup (pa_cons (pe_tup (pa_cons pe_int (pa_cons pe_int pa_nil))) (pa_cons (pe_tup (pa_cons pe_str (pa_cons (pv 8) (pa_cons (pv 6) pa_nil)))) (pa_cons pe_str pa_nil)))) (pa_cons (pe_tup (pa_cons (pe_tup (pa_cons pe_int pa_nil)) (pa_cons (pe_tup (pa_cons pe_str pa_nil)) (pa_cons pe_str pa_nil)))) pa_nil)))))
      (pss_cons (ps_set (i := 10) sc_law.nd rfl (.inl rfl) (pe_makeO T.mk_Tree (ok_Tree_init T) hr (by rfl) T.mg_Tree (pa_cons (pe_callTy call_list_of (by rfl) T.no_list (by decide +kernel) (pa_cons (pv 1) pa_nil)) (pa_cons (pv 7) (pa_cons (pv 9) pa_nil)))))
      (pss_cons (ps_if (PW.pt (pw_or (pt_cmpR op_ne (pe_methO (pv 10) T.cls_Tree T.me_Tree_looked (ok_Tree_looked T) (hr.mono (by decide)) (pa_cons (pe_tup (pa_cons pe_int pa_nil)) pa_nil)) (pe_methO (pv 4) T.cls_Tree T.me_Tree_looked (ok_Tree_looked T) (hr.mono (by decide)) (pa_cons (pv 5) pa_nil)) (nomark _)) (pw_or1 (pt_cmpR op_gt (pe_methO (pv 10) T.cls_Tree T.me_Tree_looked (ok_Tree_looked T) (hr.mono (by decide)) (pa_cons (pe_tup (pa_cons pe_int (pa_cons pe_int pa_nil))) pa_nil)) (pe_methO (pv 4) T.cls_Tree T.me_Tree_looked (ok_Tree_looked T) (hr.mono (by decide)) (pa_cons (pv 5) pa_nil)) (nomark _))))) (pss_one (ps_ret pe_bl)) pss_nil)
      (pss_one (ps_ret (pe_and (pe_callO (ok_law_is T) (hr.mono (by decide)) (by rfl) T.mg__law_is (pa_cons (pe_methO (pv 10) T.cls_Tree T.me_Tree_looked (ok_Tree_looked T) (hr.mono (by decide)) (pa_cons (pe_tup (pa_cons pe_int pa_nil)) pa_nil)) (pa_cons (pe_callB call_len_seq (by rfl) T.no_len PySem.boot_len (pa_cons (pv 3) pa_nil)) pa_nil))) (pe_one (pe_callO (ok_law_is T) (hr.mono (by decide)) (by rfl) T.mg__law_is (pa_cons (pe_methO (pv 4) T.cls_Tree T.me_Tree_looked (ok_Tree_looked T) (hr.mono (by decide)) (pa_cons (pv 5) pa_nil)) (pa_cons (pe_callO (ok_law_count T) (hr.mono (by decide)) (by rfl) T.mg__law_count (pa_cons (pv 6) (pa_cons (pv 1) (pa_cons (pv 3) pa_nil)))) pa_nil))))))))))))))))), ?_⟩
    refine ⟨_, rfl, a, ns, rfl, hS, fun H1 kb kps ks s1 hkb D1 => ?_⟩
    refine ⟨_, rfl, _, rfl, a, kb, ns, kps, ks, rfl, SqL.keep hS s1, D1, fun H2 rb ps0 rs0 s2 hrb R0 d0 l0 => ?_⟩
    have t2 := s1.trans s2
    refine ⟨_, rfl, a, ns, 14, rfl, SqL.keep hS t2, rb, _, ps0, rs0, rfl, R0, fun H3 tb ps rs s3 htb perm R3 => ?_⟩
    have t3 := t2.trans s3
    have D3 := D1.keep (s2.trans s3)
    have dep : ∀ r ∈ rs, r.nt.depth ≤ 4 := fun r h => d0 r (perm.mem_iff.mp h)
    have hk1 := D3.lo
    have hk4 := D3.hi
    have hkl : (kps.map V.ref).length = ks.length := by rw [List.length_map]; exact D3.len
    refine ⟨_, rfl, kb, _, rfl, .inl (SqL.of D3.lst), (kps.map V.ref).length, rfl, by omega, by omega, fun H4 lb xs L s4 hlb hLB4 hRows4 hPerm => ?_⟩
    rw [hkl] at hPerm
    have wid : ∀ lk ∈ L, lk.length = ks.length := fun lk h => looks_width (hPerm.mem_iff.mp h)
    have cnt : ∀ n : Nt, ((L.countP fun lk => claimsL ks lk n : Nat) : Int) = countL ks n := fun n => by
      unfold countL
      rw [hPerm.countP_eq]
    have D4 := D3.keep s4
    have R4 := R3.keep s4
    refine ⟨_, rfl, kb, _, rfl, .inl (SqL.of D4.lst), fun c1 hc1 => ?_⟩
    obtain ⟨e5, s5⟩ := new_tup (o := .lst (kps.map V.ref)) hc1
    generalize upd H4 c1 (.lst (kps.map V.ref)) = H5 at e5 s5 ⊢
    have R5 := R4.keep s5
    refine ⟨_, rfl, tb, _, rfl, .inl (SqL.of R5.lst), fun c2 hc2 => ?_⟩
    obtain ⟨e6, s6⟩ := new_tup (o := .lst (ps.map V.ref)) hc2
    generalize upd H5 c2 (.lst (ps.map V.ref)) = H6 at e6 s6 ⊢
    have s46 := s5.trans s6
    refine fun t dx ht hdx hne => ⟨t, dx, c1, c2, "near", kps, ps, ks, rs, H6, rfl, ht, hdx, hne, rfl, D4.copy s46 (s6 _ _ e5), .inr rfl, R4.copy s46 e6, fun H7 s7 TL7 => ⟨rfl, ?_⟩⟩
    have t7 := ((t3.trans s4).trans s46).trans s7
    have D7 := D4.keep (s46.trans s7)
    have R7 := R4.keep (s46.trans s7)
    have hLB7 := s7 _ _ (s46 _ _ hLB4)
    have hRows7 : RowsV H7 xs L := RowsV.keep hRows4 (s46.trans s7)
    have hpl : ps.length = rs.length := Paired.length R7.at_
    refine ⟨_, rfl, tb, rfl, ⟨_, SqL.of R7.lst⟩, for_it (walk_list (xs := ps.map V.ref)) (fun i σ' H' => H' = H7 ∧ ∃ v5 v6 v7, σ' = [some (.ref a), some (.ref kb), some (.ref tb), some (.ref lb), some (.ref t), v5, v6, v7, none, none, none]) ⟨rfl, _, _, _, rfl⟩ ?_ ?_ ?_⟩
    · rintro i σ' H' _ ⟨rfl, _⟩
      exact SqL.of R7.lst
    · rintro i v σ' H8 H9 hi ⟨rfl, v5, v6, v7, rfl⟩ ⟨rfl, hv⟩
      obtain ⟨p, hp, rfl⟩ := map_at hv
      obtain ⟨r, hr', x1, y1, w1, w2, w3⟩ := paired_at R7.at_ hp
      have hm := List.mem_of_getElem? hr'
      obtain ⟨dt, co, fs, kvs, g1, g2, g3, g4, g5, g6⟩ := id TL7
      refine ⟨p, _, rfl, SqT.of w1, rfl, _, _, rfl, _, _, rfl, _, _, rfl, rfl, ?_⟩
      refine ⟨_, rfl, t, dt, _, rfl, g1, g3, _, rfl, t, x1, ks, rs, r, rfl, TL7, hm, w2, ?_⟩
      refine ⟨_, rfl, _, rfl, _, rfl, y1, kb, lb, r.nt, kps, ks, xs, L, rfl, w3, by have := dep r hm; omega, D7, hLB7, hRows7, wid, ?_⟩
      exact ⟨_, _, rfl, _, rfl, iteNS (cnt r.nt).symm ⟨rfl, _, _, _, rfl⟩⟩
    · rintro σ' H8 ⟨rfl, v5, v6, v7, rfl⟩
      obtain ⟨dt, co, fs, kvs, g1, g2, g3, g4, g5, g6⟩ := id TL7
      have hlo := R7.lo
      have hL : (ps.map V.ref).length = ps.length := List.length_map ..
      have hpos : (0 : Int) < ((ps.map V.ref).length : Int) := by omega
      have z0 := Int.emod_nonneg (cellL ns 15) (show ((ps.map V.ref).length : Int) ≠ 0 by omega)
      have z1 := Int.emod_lt_of_pos (cellL ns 15) hpos
      have hix : (cellL ns 15 % ((ps.map V.ref).length : Int)).toNat < ps.length := by omega
      obtain ⟨r, hr', x1, y1, w1, w2, w3⟩ := paired_at R7.at_ (List.getElem?_eq_getElem hix)
      have hm := List.mem_of_getElem? hr'
      have dr := dep r hm
      have okr := R7.ok r hm
      refine ⟨_, rfl, _, rfl, a, ns, 15, rfl, SqL.keep hS t7, _, rfl, tb, _, rfl, .inl (SqL.of R7.lst), _, _, rfl, rfl, hpos, tb, _, _, .ref ps[(cellL ns 15 % ((ps.map V.ref).length : Int)).toNat], rfl, rfl, SqL.of R7.lst, atI_ok z0 (by rw [List.getElem?_map, List.getElem?_eq_getElem hix]; rfl),
        _, _, rfl, SqT.of w1, rfl, _, _, rfl, _, _, rfl, _, _, rfl, rfl, ?_⟩
      refine ⟨_, rfl, a, ns, 16, rfl, SqL.keep hS t7, _, _, rfl, rfl, ⟨by decide, by decide, by decide⟩, _, _, rfl, rfl, by show (0 : Int) < 10 ^ (9 : Int).toNat; decide, _, rfl, _, kb, kps, ks, rfl, D7, fun H8 o m s8 fo tm lm => ?_⟩
      have dm := leaf_depth lm
      have w38 := w3.kept (Kept.of s8)
      refine ⟨by show (1 : Nat) ≤ sizeLine; decide, fun u1 hu1 => ?_⟩
      obtain ⟨eu1, su1⟩ := new_tup (o := .tup [.int 7]) hu1
      generalize upd H8 u1 (.tup [.int 7]) = H9 at eu1 su1 ⊢
      have t9 := (t7.trans s8).trans su1
      refine ⟨_, rfl, _, rfl, _, rfl, a, ns, 17, rfl, SqL.keep hS t9, y1, o, _, r.nt, m, rfl, w38.kept (Kept.of su1), dr, tm.kept (Kept.of su1), lm, fun H10 q1 n' s10 tn' dn' ceq => ?_⟩
      refine ⟨by show (3 : Nat) ≤ sizeLine; decide, fun u2 hu2 => ?_⟩
      obtain ⟨eu2, su2⟩ := new_tup (o := .tup [.ref u1, .ref q1, .str "one"]) hu2
      generalize upd H10 u2 (.tup [.ref u1, .ref q1, .str "one"]) = H11 at eu2 su2 ⊢
      refine ⟨by show (1 : Nat) ≤ sizeLine; decide, fun u3 hu3 => ?_⟩
      obtain ⟨eu3, su3⟩ := new_tup (o := .lst [.ref u2]) hu3
      generalize upd H11 u3 (.lst [.ref u2]) = H12 at eu3 su3 ⊢
      refine ⟨_, rfl, by show (2 : Nat) ≤ sizeLine; decide, fun v1 hv1 => ?_⟩
      obtain ⟨ev1, sv1⟩ := new_tup (o := .tup [.int 7, .int 1]) hv1
      generalize upd H12 v1 (.tup [.int 7, .int 1]) = H13 at ev1 sv1 ⊢
      refine ⟨_, rfl, _, rfl, by show (3 : Nat) ≤ sizeLine; decide, fun v2 hv2 => ?_⟩
      obtain ⟨ev2, sv2⟩ := new_tup (o := .tup [.str "both", .ref o, .ref y1]) hv2
      generalize upd H13 v2 (.tup [.str "both", .ref o, .ref y1]) = H14 at ev2 sv2 ⊢
      refine ⟨by show (3 : Nat) ≤ sizeLine; decide, fun v3 hv3 => ?_⟩
      obtain ⟨ev3, sv3⟩ := new_tup (o := .tup [.ref v1, .ref v2, .str "one"]) hv3
      generalize upd H14 v3 (.tup [.ref v1, .ref v2, .str "one"]) = H15 at ev3 sv3 ⊢
      refine ⟨by show (1 : Nat) ≤ sizeLine; decide, fun v4 hv4 => ?_⟩
      obtain ⟨ev4, sv4⟩ := new_tup (o := .tup [.int 3]) hv4
      generalize upd H15 v4 (.tup [.int 3]) = H16 at ev4 sv4 ⊢
      refine ⟨by show (1 : Nat) ≤ sizeLine; decide, fun v5' hv5 => ?_⟩
      obtain ⟨ev5, sv5⟩ := new_tup (o := .tup [.str "any"]) hv5
      generalize upd H16 v5' (.tup [.str "any"]) = H17 at ev5 sv5 ⊢
      refine ⟨by show (3 : Nat) ≤ sizeLine; decide, fun v6' hv6 => ?_⟩
      obtain ⟨ev6, sv6⟩ := new_tup (o := .tup [.ref v4, .ref v5', .str "near"]) hv6
      generalize upd H17 v6' (.tup [.ref v4, .ref v5', .str "near"]) = H18 at ev6 sv6 ⊢
      refine ⟨by show (2 : Nat) ≤ sizeLine; decide, fun v7' hv7 => ?_⟩
      obtain ⟨ev7, sv7⟩ := new_tup (o := .lst [.ref v3, .ref v6']) hv7
      generalize upd H18 v7' (.lst [.ref v3, .ref v6']) = H19 at ev7 sv7 ⊢
      have t1819 := sv7
      have t1719 := sv6.trans t1819
      have t1619 := sv5.trans t1719
      have t1519 := sv4.trans t1619
      have t1419 := sv3.trans t1519
      have t1319 := sv2.trans t1419
      have t1219 := sv1.trans t1319
      have t1119 := su3.trans t1219
      have t1019 := su2.trans t1119
      have t919 := s10.trans t1019
      have t819 := su1.trans t919
      refine ⟨u3, v7', _, _, rfl, rfl, t1219 _ _ eu3, ev7, by show (3 : Nat) ≤ sizeLine; decide, fun p9 hp9 => ?_⟩
      have e20 : (upd H19 p9 (.lst ([.ref u2] ++ [.ref v3, .ref v6']))) p9 = some (.lst ([u2, v3, v6'].map V.ref)) := upd_same
      have s20 : Same H19 (upd H19 p9 (.lst ([.ref u2] ++ [.ref v3, .ref v6']))) := same_new hp9
      generalize upd H19 p9 (.lst ([.ref u2] ++ [.ref v3, .ref v6'])) = H20 at e20 s20 ⊢
      have t720 := (s8.trans t819).trans s20
      have D20 := D7.keep t720
      refine ⟨_, rfl, kb, _, rfl, .inl (SqL.of D20.lst), fun c3 hc3 => ?_⟩
      obtain ⟨e21, s21⟩ := new_tup (o := .lst (kps.map V.ref)) hc3
      generalize upd H20 c3 (.lst (kps.map V.ref)) = H21 at e21 s21 ⊢
      have s1921 := s20.trans s21
      have num1 : ∀ y : Int, 1 ≤ y → y ≤ 99 → NumOk [y] := fun y h1 h2 => ⟨by show (1 : Nat) ≤ 4; decide, fun z hz => by rw [List.mem_singleton.mp hz]; exact ⟨h1, h2⟩⟩
      have R21 : Rws H21 p9 [u2, v3, v6'] [⟨[7], n', "one"⟩, ⟨[7, 1], .both m r.nt, "one"⟩, ⟨[3], .any, "near"⟩] := by
        refine ⟨s21 _ _ e20, .cons ⟨u1, q1, ?_, ?_, ?_⟩ (.cons ⟨v1, v2, ?_, ?_, ?_⟩ (.cons ⟨v4, v5', ?_, ?_, ?_⟩ .nil)), ?_, ?_, ?_, by show (1 : Nat) ≤ 3; decide, by show (3 : Nat) ≤ 24; decide⟩
        · exact s1921 _ _ (t1119 _ _ eu2)
        · exact s1921 _ _ (t919 _ _ eu1)
        · exact tn'.kept (Kept.of (t1019.trans s1921))
        · exact s1921 _ _ (t1519 _ _ ev3)
        · exact s1921 _ _ (t1319 _ _ ev1)
        · exact ⟨o, y1, s1921 _ _ (t1419 _ _ ev2), tm.kept (Kept.of (t819.trans s1921)), w38.kept (Kept.of (t819.trans s1921))⟩
        · exact s1921 _ _ (t1819 _ _ ev6)
        · exact s1921 _ _ (t1619 _ _ ev4)
        · exact s1921 _ _ (t1719 _ _ ev5)
        · intro q' hq
          simp only [List.mem_cons, List.not_mem_nil, or_false] at hq
          rcases hq with rfl | rfl | rfl
          · exact ⟨num1 7 (by decide) (by decide), List.cons_ne_nil _ _, .inl rfl, dn'⟩
          · refine ⟨⟨by show (2 : Nat) ≤ 4; decide, fun z hz => ?_⟩, List.cons_ne_nil _ _, .inl rfl, ?_⟩
            · have hz' : z ∈ ([7, 1] : List Int) := hz
              simp only [List.mem_cons, List.not_mem_nil, or_false] at hz'
              omega
            · show 1 + max m.depth r.nt.depth ≤ 5
              omega
          · exact ⟨num1 3 (by decide) (by decide), List.cons_ne_nil _ _, .inr rfl, by decide⟩
        · show ([[7], [7, 1], [3]] : List (List Int)).Nodup
          decide
        · intro q' hq h1
          simp only [List.mem_cons, List.not_mem_nil, or_false] at hq
          rcases hq with rfl | rfl | rfl
          · exact absurd h1 (by show ¬ (1 : Nat) < 1; decide)
          · exact List.mem_cons_self
          · exact absurd h1 (by show ¬ (1 : Nat) < 1; decide)
      refine ⟨_, rfl, _, rfl, fun t' dx' ht' hdx' hne' => ⟨t', dx', c3, p9, r.rule, kps, [u2, v3, v6'], ks, _, H21, rfl, ht', hdx', hne', rfl, D20.copy s21 e21, okr.2.2.1, R21, fun H22 s22 TB => ⟨rfl, ?_⟩⟩⟩
      have t722 := (t720.trans s21).trans s22
      have TL22 := TL7.keep t722
      have D22 := D7.keep t722
      have hLB22 := t722 _ _ hLB7
      have hRows22 : RowsV H22 xs L := RowsV.keep hRows7 t722
      have w222 := t722 _ _ w2
      have g122 := t722 _ _ g1
      obtain ⟨dt', co', fs', kvs', j1, j2, j3, j4, j5, j6⟩ := id TB
      have ec : countL ks n' = countL ks r.nt := by
        unfold countL
        rw [show (fun lk => claimsL ks lk n') = fun lk => claimsL ks lk r.nt from funext (ceq ks)]
      have eb : countL ks (.both m r.nt) ≤ countL ks r.nt := by
        unfold countL
        have h := List.countP_mono_left (l := looksL ks.length) (p := fun lk => claimsL ks lk (.both m r.nt)) (q := fun lk => claimsL ks lk r.nt) fun lk _ h => by
          have h2 : (claimsL ks lk m && claimsL ks lk r.nt) = true := h
          exact (Bool.and_eq_true_iff.mp h2).2
        omega
      have ea : countL ks .any = (xs.length : Int) := by
        rw [← cnt .any, Paired.length hRows22]
        have h : (L.countP fun lk => claimsL ks lk .any) = L.length := List.countP_eq_length.mpr fun _ _ => rfl
        rw [h]
      refine ⟨_, rfl, t', dt', _, rfl, j1, j3, by show (1 : Nat) ≤ sizeLine; decide, fun b1 hb1 => ?_⟩
      obtain ⟨eb1, sb1⟩ := new_tup (o := .tup [.int 7]) hb1
      generalize upd H22 b1 (.tup [.int 7]) = H23 at eb1 sb1 ⊢
      refine ⟨t', b1, ks, _, ⟨[7], n', "one"⟩, rfl, TB.keep sb1, List.mem_cons_self, eb1, ?_⟩
      refine ⟨_, rfl, t, dt, _, rfl, sb1 _ _ g122, g3, _, rfl, t, x1, ks, rs, r, rfl, TL22.keep sb1, hm, sb1 _ _ w222, rfl, _, rfl, ?_⟩
      refine iteNS (by rw [ec]) ?_
      refine ⟨_, rfl, t', dt', _, rfl, sb1 _ _ j1, j3, by show (2 : Nat) ≤ sizeLine; decide, fun b2 hb2 => ?_⟩
      obtain ⟨eb2, sb2⟩ := new_tup (o := .tup [.int 7, .int 1]) hb2
      generalize upd H23 b2 (.tup [.int 7, .int 1]) = H24 at eb2 sb2 ⊢
      have s2224 := sb1.trans sb2
      refine ⟨t', b2, ks, _, ⟨[7, 1], .both m r.nt, "one"⟩, rfl, TB.keep s2224, List.mem_cons_of_mem _ List.mem_cons_self, eb2, ?_⟩
      refine ⟨_, rfl, t, dt, _, rfl, s2224 _ _ g122, g3, _, rfl, t, x1, ks, rs, r, rfl, TL22.keep s2224, hm, s2224 _ _ w222, _, _, rfl, rfl, _, rfl, iteDF (fun z => Int.not_lt.mpr eb z) ?_⟩
      refine ⟨_, rfl, t', dt', _, rfl, s2224 _ _ j1, j3, by show (1 : Nat) ≤ sizeLine; decide, fun b3 hb3 => ?_⟩
      obtain ⟨eb3, sb3⟩ := new_tup (o := .tup [.int 3]) hb3
      generalize upd H24 b3 (.tup [.int 3]) = H25 at eb3 sb3 ⊢
      have s2225 := s2224.trans sb3
      refine ⟨t', b3, ks, _, ⟨[3], .any, "near"⟩, rfl, TB.keep s2225, List.mem_cons_of_mem _ (List.mem_cons_of_mem _ List.mem_cons_self), eb3, ?_⟩
      refine ⟨_, rfl, lb, _, rfl, .inl (SqL.of (s2225 _ _ hLB22)), _, _, rfl, _, rfl, iteDT ea ?_⟩
      refine ⟨_, rfl, t, dt, _, rfl, s2225 _ _ g122, g3, _, rfl, t, x1, ks, rs, r, rfl, TL22.keep s2225, hm, s2225 _ _ w222, ?_⟩
      refine ⟨_, rfl, _, rfl, _, rfl, y1, kb, lb, r.nt, kps, ks, xs, L, rfl, w3.kept (Kept.of (t722.trans s2225)), by omega, D22.keep s2225, s2225 _ _ hLB22, RowsV.keep hRows22 s2225, wid, ?_⟩
      refine ⟨_, _, rfl, ?_⟩
      rw [decide_eq_true (cnt r.nt).symm]
      exact q _
end
end K43
set_option Elab.async false
set_option linter.all false
set_option maxRecDepth 100000
set_option maxHeartbeats 0
namespace K43
open PySem PySem.Spec PyProof.Rows L2
theorem txt_of {w : World} {K : PySem.W.Frag} {h : Heap} {mg : Str → Option Value} (X : K.In h) (G : h.Ns mainGlobals mg) (c : He.SaysX fa fn [] [] ex w h K) : Txt K mg := by
  refine ⟨c.t.d, c.more, fun x o e => ?_⟩
  cases o with
  | none => exact PySem.W.mg_none_of X G e
  | some v => exact PySem.W.mg_of X G e
end K43
open PySem PySem.W PySem.Calls PyProof.Rows
theorem PySem.Challenge.cw_tariffgate_k43_looked_holds : PySem.Challenge.rw_tariffgate_k43_looked.Holds := by
  w_on; o_law
  refine HandSHeadRun.head_any (r := OpenLaw.row PySem.Challenge.rw_tariffgate_k43_looked) (q := view (OpenLaw.row PySem.Challenge.rw_tariffgate_k43_looked).prog [66]) (H := K43.hk) (ob := K43.ob) (M := 20000) (loose := K43.nm) (d := HandSHeadRun.topDef (OpenLaw.row PySem.Challenge.rw_tariffgate_k43_looked).prog 66) (kwd := []) K43.ob_eq
    (by kernel_rfl) (fun s => by kernel_rfl) K43.run (by kernel_rfl) (by kernel_rfl) (by kernel_rfl) (by rfl) (by first | assumption | decide +kernel) (by decide +kernel) ⟨rfl, rfl, rfl, rfl, rfl, by decide +kernel⟩ ?hw ?hc
  case hw => w_witness2
  case hc =>
    refine L2.walk_ofE (l := PySem.Challenge.rw_tariffgate_k43_looked) (n := 63) (k := 12) (x := "_law_script") (CX := L2.CX0) rfl (by decide) (by kernel_rfl) ⟨rfl, by decide, by decide⟩ ?F (fun _ _ _ _ z => z)
    intro w mg fa h Y G hmg0
    obtain ⟨K, KX, c⟩ := Y
    have T := K43.txt_of KX G c
    have hmg : mg ("law" : PySem.Str) = some (.ref fa) := by
      have e : (HandSHeadRun.topDef (OpenLaw.row PySem.Challenge.rw_tariffgate_k43_looked).prog 66).name = ("law" : PySem.Str) := by kernel_rfl
      rw [← e]
      exact hmg0
    have e := hmg.symm.trans T.mg_law
    cases e
    obtain ⟨fd, F⟩ := T.f_law
    have b := L2.FunD.bindsA (ps := ["_law_script"]) F fun _ _ _ _ _ _ us hl => match us, hl with | [_], _ => rfl
    exact ⟨K, fd, K43.spLaw K, KX, fun s v => b s [v] rfl, fun H a ns hl _ hS => ⟨a, ns, rfl, hS, fun _ => rfl⟩, fun base _ _ => F.ok K43.sc_law K43.law_len fun cdv A outer s H vs Q E hr h => by
      obtain ⟨t, h1, h2⟩ := K43.law_body T cdv A outer s H vs Q E hr h
      exact ⟨t, h1.nox, h2⟩⟩
