import PyProof.Rows.All
import Wide.All
import OpenK.AllK
import Wide.FinOn
import HandS.ForMost
import HandS.Wide
import HandS.Flow
import HandS.Nested
import HandS.EndTab
import HandS.HeadWalk
import KE.SortKeyHeap
import KE.SortData
import HandS.Style
import HandS.NoneIn
import HandS.TryOnly
import HandS.Defaults
import HandS.MakeKw
import HandS.MakeKwOnly
import HandS.RaiseMore
import HandS.SortKw
import HandS.Conv
import KE.KUnpackStar
import PySem.Challenge.RW_oncebuilt_k78_connected_components
set_option Elab.async false
set_option linter.all false
set_option maxRecDepth 100000
set_option maxHeartbeats 4000000
namespace Og
open PySem L2 NdefX LamX

/-- what may be written in place -/
def isM : HO → Bool
  | .lst _ => true
  | .dK _ => true
  | .dT _ => true
  | .ins _ _ _ => true
  | _ => false
def isT : HO → Bool
  | .tbl _ => true
  | _ => false
abbrev Apart (p q : Addr × HO) : Prop := isM p.2 = true → isM q.2 = true → p.1 ≠ q.1
abbrev Ents := List (Addr × HO)
/-- the heap holds the entries of l; the places that may be written stand apart; the tables T of code objects stand -/
structure Own (T : List NTab) (l : Ents) (H : Hp) : Prop where
  tab : TabsN T H
  all : ∀ p ∈ l, H p.1 = some p.2
  nd : l.Pairwise Apart
  nt : ∀ p ∈ l, isT p.2 = false

section
variable {T : List NTab} {l l' : Ents} {H H' : Hp} {p a : Addr} {o o' : HO}
theorem tabs_put (t : TabsN T H) (h : H p = some o) (hm : isM o = true) : TabsN T (upd H p o') := fun q hq => by
  obtain ⟨ps, h1, h2, h3⟩ := t q hq
  have n1 : q.1 ≠ p := ne_of h1 h (by rintro rfl; cases hm)
  refine ⟨ps, (upd_ne n1).trans h1, h2, fun pos cv hc => ?_⟩
  obtain ⟨c, e1, e2⟩ := h3 pos cv hc
  exact ⟨c, e1, (upd_ne (ne_of e2 h (by rintro rfl; unfold CodeO at hm; cases hm))).trans e2⟩
theorem same_new (h : H p = none) : Same H (upd H p o) := fun b u e => (upd_ne (ne_of_none e h)).trans e
theorem Own.at (w : Own T l H) (h : (a, o) ∈ l) : H a = some o := w.all _ h
theorem Own.same (w : Own T l H) (s : Same H H') : Own T l H' := ⟨w.tab.ext s, fun p h => s _ _ (w.all p h), w.nd, w.nt⟩
/-- one more entry that is there -/
theorem Own.more (w : Own T l H) (h : H p = some o) (n : ∀ q ∈ l, isM o = true → isM q.2 = true → p ≠ q.1) (nt : isT o = false := by rfl) : Own T ((p, o) :: l) H :=
  ⟨w.tab, fun q hq => (List.mem_cons.mp hq).elim (fun e => by rw [e]; exact h) (w.all q), List.pairwise_cons.mpr ⟨fun q hq => n q hq, w.nd⟩, fun q hq => (List.mem_cons.mp hq).elim (fun e => by rw [e]; exact nt) (w.nt q)⟩
/-- a new object -/
theorem Own.new (w : Own T l H) (h : H p = none) (nt : isT o = false := by rfl) : Own T ((p, o) :: l) (upd H p o) :=
  (w.same (same_new h)).more upd_same (fun q hq _ _ e => by
    have z := w.all q hq
    rw [← e, h] at z
    cases z) nt
theorem Own.ne (w : Own T l H) {i j : Nat} {q : Addr × HO} (hi : l[i]? = some (p, o)) (hm : isM o = true) (hj : l[j]? = some q) (ne : j ≠ i) : q.1 ≠ p := by
  by_cases hq : isM q.2 = true
  · obtain ⟨hi1, hi2⟩ := List.getElem?_eq_some_iff.mp hi
    obtain ⟨hj1, hj2⟩ := List.getElem?_eq_some_iff.mp hj
    have pw := List.pairwise_iff_getElem.mp w.nd
    rcases Nat.lt_or_gt_of_ne ne with h | h
    · have z := pw j i hj1 hi1 h
      rw [hi2, hj2] at z
      exact z hq hm
    · have z := pw i j hi1 hj1 h
      rw [hi2, hj2] at z
      exact (z hm hq).symm
  · intro e
    have h1 := w.all _ (List.mem_of_getElem? hi)
    have h2 := w.all _ (List.mem_of_getElem? hj)
    rw [e] at h2
    have h3 : some o = some q.2 := h1.symm.trans h2
    cases h3
    exact hq hm
/-- a write at the i-th entry -/
theorem Own.put (w : Own T l H) (i : Nat) (hi : l[i]? = some (p, o)) (hm : isM o = true) (hm' : isT o' = false := by rfl) : Own T (l.set i (p, o')) (upd H p o') := by
  refine ⟨tabs_put w.tab (w.all _ (List.mem_of_getElem? hi)) hm, fun q hq => ?_, ?_, fun q hq => (List.mem_or_eq_of_mem_set hq).elim (w.nt q) fun e => by rw [e]; exact hm'⟩
  · obtain ⟨j, hj⟩ := List.mem_iff_getElem?.mp hq
    by_cases e : j = i
    · subst e
      rw [List.getElem?_set_self (List.getElem?_eq_some_iff.mp hi).1] at hj
      cases hj
      exact upd_same
    · rw [List.getElem?_set_ne (Ne.symm e)] at hj
      exact (upd_ne (w.ne hi hm hj e)).trans (w.all q (List.mem_of_getElem? hj))
  · refine List.pairwise_iff_getElem.mpr fun a b ha hb hab h1 h2 => ?_
    rw [List.length_set] at ha hb
    have pw := List.pairwise_iff_getElem.mp w.nd a b ha hb hab
    rw [List.getElem_set] at h1 ⊢
    rw [List.getElem_set] at h2 ⊢
    obtain ⟨hi1, hi2⟩ := List.getElem?_eq_some_iff.mp hi
    split at h1
    · rename_i e
      split at h2
      · omega
      · rename_i e2
        rw [if_pos e, if_neg e2]
        subst e
        rw [hi2] at pw
        exact pw hm h2
    · rename_i e
      split at h2
      · rename_i e2
        rw [if_neg e, if_pos e2]
        subst e2
        rw [hi2] at pw
        exact pw h1 hm
      · rename_i e2
        rw [if_neg e, if_neg e2]
        exact pw h1 h2
theorem Own.put0 {r : Ents} (w : Own T ((p, o) :: r) H) (hm : isM o = true) (hm' : isT o' = false := by rfl) : Own T ((p, o') :: r) (upd H p o') := w.put 0 rfl hm hm'
theorem Own.sub (w : Own T l H) (s : l'.Sublist l) : Own T l' H := ⟨w.tab, fun p h => w.all p (s.subset h), w.nd.sublist s, fun p h => w.nt p (s.subset h)⟩
theorem Own.perm (w : Own T l H) (s : l.Perm l') : Own T l' H := ⟨w.tab, fun p h => w.all p (s.mem_iff.mpr h), s.pairwise w.nd fun h a b => (h b a).symm, fun p h => w.nt p (s.mem_iff.mpr h)⟩
theorem Own.drop1 {q : Addr × HO} (w : Own T (q :: l) H) : Own T l H := w.sub (List.sublist_cons_self q l)
theorem Own.start (t : TabsN T H) : Own T [] H := ⟨t, fun _ h => (nomatch h), List.Pairwise.nil, fun _ h => (nomatch h)⟩
theorem Own.one (t : TabsN T H) (h : H p = some o) (nt : isT o = false := by rfl) : Own T [(p, o)] H := (Own.start t).more h (fun _ h => (nomatch h)) nt
theorem Own.ext (w : Own T l H) (e : ExtN H H') (t : TabsN T H') : Own T l H' := ⟨t, fun p h => e _ _ (w.all p h) (fun ps z => by have n := w.nt p h; rw [z] at n; cases n), w.nd, w.nt⟩
theorem noTabs : TabsN [] H := fun _ h => (nomatch h)
theorem erase_perm {α : Type} : ∀ {l : List α} {i : Nat} {x : α}, l[i]? = some x → l.Perm (x :: l.eraseIdx i)
  | [], _, _, h => by cases h
  | y :: l, 0, x, h => by
    obtain rfl : y = x := Option.some.inj h
    exact List.Perm.refl _
  | y :: l, i + 1, x, h => ((erase_perm (l := l) (i := i) h).cons y).trans (List.Perm.swap _ _ _)
/-- the i-th entry to the front -/
theorem Own.front (w : Own T l H) (i : Nat) {q : Addr × HO} (h : l[i]? = some q) : Own T (q :: l.eraseIdx i) H := w.perm (erase_perm h)
end
end Og
namespace Og
open PySem PySem.Spec PyProof.Rows L2 NdefX LamX

structure CF where
  F : NF
  code : FuncBody
abbrev CF.fd (F : CF) (doc pm ctv : Value) : FuncData := { F.F.fd doc pm ctv with body := F.code }
def CloO (f : Addr) (F : CF) : HO := .ext fun h => ∃ (od : Option Addr) (sl : Array (Option Value)) (doc pm ctv : Value), h.get? f = some (⟨.type "function", od, .func (F.fd doc pm ctv), sl⟩ : Obj)
theorem clo_at {P : Program} {w : World} {H : Hp} {h : Heap} {f : Addr} {F : CF} (hok : HOk P w H h) (e : H f = some (CloO f F)) : ∃ (od : Option Addr) (sl : Array (Option Value)) (doc pm ctv : Value), h.get? f = some (⟨.type "function", od, .func (F.fd doc pm ctv), sl⟩ : Obj) := by
  obtain ⟨z, _, _⟩ := hok f _ e
  exact z
/-- the function that a lambda makes -/
abbrev lamF (X : Cx) (params : Arguments) (body : Expr) (scope : Scope) (c : Addr) : CF := ⟨⟨"<lambda>", X.env.qual ++ "<lambda>", params, [], scope, cloFrom X.env.cells scope.names [], c⟩, .expr body⟩
section
variable {X : Cx} {pins : List (Addr × Obj)} {σ : L2.St} {H : Hp} {s : Shared}
theorem inv_clo {F : CF} {o : Obj} {t' : Nat} {doc pm ctv : Value} (I : Inv X pins σ H s) (ho : o = { cls := .type "function", data := .func (F.fd doc pm ctv) }) :
    Inv X pins σ (upd H s.heap.objs.size (CloO s.heap.objs.size F)) { s with heap := s.heap.push o, toks := t' } := by
  subst ho
  refine I.laid (a := s.heap.objs.size) (fun b u e => Heap.get?_push_of_some _ e) (Nat.le_refl _) ?_
  have e : (s.heap.push ({ cls := .type "function", data := .func (F.fd doc pm ctv) } : Obj)).get? s.heap.objs.size = some ({ cls := .type "function", data := .func (F.fd doc pm ctv) } : Obj) := Heap.get?_push_size _ rfl
  exact ⟨⟨_, _, doc, pm, ctv, e⟩, ⟨_, e⟩, fun h1 h2 ⟨od, sl, d, p, t, z⟩ st => ⟨od, sl, d, p, t, st _ z⟩⟩
theorem lam_new {T : List NTab} {nm : Nat → Nat → Str} {c P : Addr} {params : Arguments} {body : Expr} {scope : Scope} {pos : Pos} {E : Value → Shared → Prop} {Q : Value → Shared → Prop} (I : Inv X pins σ H s) (TB : TabB X.base X.mg c P) (hcode : X.env.code = .ref c)
    (hm : (P, nm) ∈ T) (hn : nm pos.line pos.col = X.env.qual ++ "<lambda>") (hu : ∀ p ∈ T, p.1 = P → p.2 = nm) (hT : TabsN T H) (hdef : defaultsOf params X.env = ([], [])) (hfree : ∀ y ∈ scope.names, y.2 = .free → ∃ c, X.env.cells.lookup y.1 = some c)
    (h : ∀ (f c' : Addr) (H1 : Hp) (s' : Shared), Inv X pins σ H1 s' → ExtN H H1 → (∀ b, H1 b = Option.none → H b = Option.none) → TabsN T H1 → H f = none → f ≠ c' → H1 f = some (CloO f (lamF X params body scope c')) → H1 c' = some (CodeO c' (X.env.qual ++ "<lambda>")) → Q (.ref f) s') :
    wpAny (model X.prog X.w) X.A (eval (.Lambda params body scope pos) X.env) Q E s := by
  obtain ⟨ps, hP, ht, ha⟩ := (show TabN H P nm from hT _ hm)
  have bP : s.heap.BuiltinsAt X.mg P := TB.bm.keeps I.bk
  have hP' : s.heap.get? P = some { cls := .none, data := .fields ps } := I.hok P _ hP
  refine PySem.W.kla_eval hdef ?_
  cases hc : codeAmong pos ps.toList with
  | none =>
    refine PySem.W.kla_makeFunction (mg := X.mg) (c := c) (P := P) (ps := ps) (closure_ok hfree) I.ok.glob (I.mod.glob.keeps I.bk) hcode (TB.code.keeps I.bk) hP' ht hc TB.gP bP fun c' ctv h' tk hx hge hlt hrec htb => ?_
    obtain ⟨c2, oc, vs, t, e2, hoc, hd, hv⟩ := hrec
    cases e2
    have nC : H c' = none := I.hok.fresh hge
    have I1 := inv_table (t' := tk) (more := #[rawInt pos.line, rawInt pos.col, .ref c']) (h' := h') I hP (fun b o hb e => hx b o hb e) htb hge ⟨oc, vs, t, hoc, hd, hv⟩
    have hE : ExtN H (upd (upd H P (.tbl (ps ++ #[rawInt pos.line, rawInt pos.col, .ref c']))) c' (CodeO c' (X.env.qual ++ "<lambda>"))) := fun b o e n => by
      rw [upd_ne (ne_of_none e nC), upd_ne (fun z => n ps (Option.some.inj (e.symm.trans (by rw [z]; exact hP))))]
      exact e
    have eL : (ps ++ #[rawInt pos.line, rawInt pos.col, .ref c']).toList = ps.toList ++ [rawInt pos.line, rawInt pos.col, .ref c'] := by simp
    have T1 : TabsN T (upd (upd H P (.tbl (ps ++ #[rawInt pos.line, rawInt pos.col, .ref c']))) c' (CodeO c' (X.env.qual ++ "<lambda>"))) := fun p hp => by
      by_cases hb : p.1 = P
      · rw [hu p hp hb, hb]
        refine ⟨_, by rw [upd_ne (ne_of_none hP nC), upd_same], by rw [eL]; exact PySem.TriplesOk_snoc _ _ _ _ ht, fun p' cv hcv => ?_⟩
        rw [eL] at hcv
        rcases among_app2 _ ht hcv with z | ⟨z, z1, z2⟩
        · obtain ⟨c0, e1, e2⟩ := ha p' cv z
          exact ⟨c0, e1, hE _ _ e2 codeO_ne⟩
        · refine ⟨c', z, ?_⟩
          rw [← z1, ← z2, hn]
          exact upd_same
      · obtain ⟨ps', a1, a2, a3⟩ := hT p hp
        refine ⟨ps', by rw [upd_ne (ne_of_none a1 nC), upd_ne hb]; exact a1, a2, fun p' cv hcv => ?_⟩
        obtain ⟨c0, e1, e2⟩ := a3 p' cv hcv
        exact ⟨c0, e1, hE _ _ e2 codeO_ne⟩
    have nF := I1.hok.fresh (Nat.le_refl _)
    have I2 := inv_clo (F := lamF X params body scope c') (t' := tk) (doc := .none) (pm := (X.mg "__name__").getD .none) (ctv := ctv) I1 rfl
    refine h h'.objs.size c' _ _ I2 (fun b o e n => ?_) (fun b e => upd_none (upd_none (upd_none e))) (T1.ext fun b o e => ?_) (I.hok.fresh (Nat.le_trans hge (Nat.le_of_lt hlt))) (Nat.ne_of_gt hlt) upd_same ?_
    · have e1 := hE b o e n
      exact (upd_ne (ne_of_none e1 nF)).trans e1
    · exact (upd_ne (ne_of_none e nF)).trans e
    · exact (upd_ne (Nat.ne_of_lt hlt)).trans upd_same
  | some cv =>
    obtain ⟨c', e, hco⟩ := ha pos cv hc
    subst e
    rw [hn] at hco
    refine PySem.W.kla_makeFunctionHit (mg := X.mg) (c := c) (P := P) (ps := ps) (closure_ok hfree) I.ok.glob (I.mod.glob.keeps I.bk) hcode (TB.code.keeps I.bk) hP' ht hc bP fun ctv h' tk hx hsz => ?_
    have I1 : Inv X pins σ H { s with heap := h', toks := tk } := I.kept hx
    have nF : H h'.objs.size = none := I1.hok.fresh (Nat.le_refl _)
    have I2 := inv_clo (F := lamF X params body scope c') (t' := tk) (doc := .none) (pm := (X.mg "__name__").getD .none) (ctv := ctv) I1 rfl
    refine h h'.objs.size c' _ _ I2 (fun b o e n => ?_) (fun b e => upd_none e) (hT.ext fun b o e => ?_) nF ((ne_of_none hco nF).symm) upd_same ?_
    · exact (upd_ne (ne_of_none e nF)).trans e
    · exact (upd_ne (ne_of_none e nF)).trans e
    · exact (upd_ne (ne_of_none hco nF)).trans hco
/-- lambda ..: .. as a value -/
def tLamN (T : List NTab) (mk : Addr → CF) : TE := fun σ H Q => TabsN T H ∧ ∀ (f c' : Addr) (H1 : Hp), ExtN H H1 → (∀ b, H1 b = Option.none → H b = Option.none) → TabsN T H1 → H f = none → f ≠ c' → H1 f = some (CloO f (mk c')) → H1 c' = some (CodeO c' (mk c').F.qual) → Q (.ref f) H1
theorem pe_lamN {T : List NTab} {nm : Nat → Nat → Str} {c P : Addr} {params : Arguments} {body : Expr} {scope : Scope} {pos : Pos} (TB : TabB X.base X.mg c P) (hcode : X.env.code = .ref c)
    (hm : (P, nm) ∈ T) (hn : nm pos.line pos.col = X.env.qual ++ "<lambda>") (hu : ∀ p ∈ T, p.1 = P → p.2 = nm) (hb : ndefB X.env.scope scope [] = true) (hdef : defaultsOf params X.env = ([], []) := by rfl) :
    PE X (.Lambda params body scope pos) (tLamN T (lamF X params body scope)) :=
  ⟨fun pins s σ H Q I ⟨hT, h⟩ => lam_new I TB hcode hm hn hu hT hdef (fun y hy e => (ndef_free hb y hy e).elim (fun z => I.ok.has _ (.inl z)) fun z => I.ok.has _ (.inr z)) fun f c' H1 s' I1 e n t hf ne h1 h2 => ⟨.ref f, H1, I1, rfl, h f c' H1 e n t hf ne h1 h2⟩⟩
end

/-! ### expressions that only read: the objects stay the very same -/
def Kp (s s' : Shared) : Prop := ∃ h' tk, s' = { s with heap := h', toks := tk } ∧ ∀ b o, s.heap.get? b = some o → h'.get? b = some o
theorem Kp.refl (s : Shared) : Kp s s := ⟨s.heap, s.toks, rfl, fun _ _ e => e⟩
theorem Kp.tok (s : Shared) (t : Nat) : Kp s { s with toks := t } := ⟨s.heap, t, rfl, fun _ _ e => e⟩
theorem Kp.trans {a b c : Shared} (x : Kp a b) (y : Kp b c) : Kp a c := by
  obtain ⟨h1, t1, rfl, k1⟩ := x
  obtain ⟨h2, t2, rfl, k2⟩ := y
  exact ⟨h2, t2, rfl, fun b o e => k2 b o (k1 b o e)⟩
abbrev TK := L2.St → Hp → (V → Prop) → Prop
structure PEK (X : Cx) (e : Expr) (t : TK) : Prop where
  run : ∀ (pins : List (Addr × Obj)) (s : Shared) (σ : L2.St) (H : Hp) (Q : V → Prop), Inv X pins σ H s → t σ H Q → wpAny (model X.prog X.w) X.A (eval e X.env) (fun v s' => Kp s s' ∧ ∃ x, RelV x v ∧ Q x) X.xe s
section
variable {X : Cx} {pins : List (Addr × Obj)} {σ : L2.St} {H : Hp} {s s' : Shared}
theorem inv_kp (I : Inv X pins σ H s) (k : Kp s s') : Inv X pins σ H s' := by
  obtain ⟨h, t, rfl, k⟩ := k
  exact I.kept k
theorem pk_var (i : Nat) {x : Str} {pos : Pos} (hN : X.N[i]? = some x := by rfl) (hv : Vis X.env.scope x := by first | exact Or.inl rfl | exact Or.inr (Or.inl rfl) | exact Or.inr (Or.inr rfl)) (hd : (x == ("__debug__" : Str)) = false := by decide) (hcd : (x == ("__classdict__" : Str)) = false := by decide) :
    PEK X (.Name x pos) (fun σ _ Q => ∃ v, σ[i]? = some (some v) ∧ Q v) := by
  refine ⟨fun pins s σ H Q I h => ?_⟩
  obtain ⟨v, e, h⟩ := h
  obtain ⟨m, hn, hl⟩ := I.loc
  obtain ⟨u, r, l⟩ := hl i x v hN e hv
  have fin : Kp s s ∧ ∃ y, RelV y u ∧ Q y := ⟨.refl s, v, r, h⟩
  rcases l with ⟨hk, hm⟩ | ⟨hk, c, hc, hcell⟩
  · exact wpAny_Name (wpAny_loadName_local I.ok.kind hk hn hm fin) hd
  · rcases hk with hk | hk
    · exact wpAny_Name (wpAny_loadName_cell I.ok.kind hk hc hcell fin) hd
    · exact wpAny_Name (wpAny_loadName_free I.ok.kind hk hc hcell fin hcd) hd
theorem pk_int {i : Int} {j : Nat} {pos : Pos} : PEK X (.Constant (.int i) j pos) (fun _ _ Q => Q (.int i)) := ⟨fun _ s _ _ _ _ h => wpAny_Constant_int ⟨.tok _ _, .int i, ⟨_, rfl⟩, h⟩⟩
theorem pk_fld {e : Expr} {f : Str} {pos : Pos} {ta : TK} (he : PEK X e ta) (hb : attributeBase e f X.env (eval e X.env) = eval e X.env := by rfl) :
    PEK X (.Attribute e f pos) (fun σ H Q => ta σ H fun x => ∃ a C dx fs v, x = .ref a ∧ H a = some (.ins C dx fs) ∧ Cls X.K C ∧ NoAttr X.K C f ∧ fs.lookup f = some v ∧ Q v) := by
  refine ⟨fun pins s σ H Q I h => ?_⟩
  refine attr_of hb (thn (he.run pins s σ H _ I h) fun u s1 ⟨kp, x, rx, a, C, dx, fs, v, ex, ea, c, n, l, q⟩ => ?_)
  subst ex
  obtain rfl : u = Value.ref a := rx
  have I1 := inv_kp I kp
  obtain ⟨mA, O, r, _, _, _⟩ := ins_get I1.hok ea
  obtain ⟨u, hu, ru⟩ := RelO.some_of (v := v) (o := mA f) (by rw [← l]; exact r f)
  exact get_map I1.kIn O (c.get f) c.hd n hu (handed_of ru) ⟨kp.trans (.tok _ _), v, ru, q⟩
theorem pk_ixL {a b : Expr} {pos : Pos} {ta tb : TK} (ha : PEK X a ta) (hb : PEK X b tb) (hs : PlainIx b := by exact fun _ _ => rfl) :
    PEK X (.Subscript a b pos) (fun σ H Q => ta σ H fun x => tb σ H fun y => ∃ p xs i v, x = .ref p ∧ y = .int i ∧ SqL X.K H p xs ∧ 0 ≤ i ∧ atI xs i = some v ∧ Q v) := by
  refine ⟨fun pins s σ H Q I h => ?_⟩
  refine Subscript_ (thn (ha.run pins s σ H _ I h) fun v s1 ⟨k1, x, rx, q1⟩ => thn (hb.run pins s1 σ H _ (inv_kp I k1) q1) fun u s2 ⟨k2, y, ry, p, xs, i, z, ex, ey, hq, h0, he, q⟩ => ?_)
  subst ex
  subst ey
  have I2 := inv_kp I (k1.trans k2)
  obtain rfl : v = Value.ref p := rx
  obtain ⟨t, rfl⟩ := ry
  obtain ⟨its, r, pl, hz⟩ := I2.list hq
  obtain ⟨j, h1, h2, h3, h4, h5⟩ := atI_get he
  obtain ⟨w, ew, rw'⟩ := r.get h2
  have hl := r.length
  have hn := line63
  have hj : i.toNat = j := by
    rw [seqIndex_of h0 h5] at h1
    exact Option.some.inj h1
  exact item_listR pl.isList h0 (by omega) (by rw [hj]; simpa using ew) ⟨k1.trans k2, z, rw', q⟩ (hs _ _)
end
end Og
namespace Og
open PySem PySem.Spec PyProof.Rows L2 NdefX LamX
section
variable {X : Cx} {pins : List (Addr × Obj)} {σ : L2.St} {H : Hp} {s s' : Shared}
/-- sorted(e, key=lambda a: ..), ints by an int key that only reads -/
def tSortK (K : PySem.W.Frag) (T : List NTab) (mk : Addr → CF) (Nl : List Str) (js : List Nat) (te : TA) (tk : TK) : TE := fun σ H Q => te σ H fun xs H1 => ∃ (a : Addr) (ns : List Int) (k : Int → Int), xs = [.ref a] ∧ SqL K H1 a (ns.map V.int) ∧ TabsN T H1 ∧
  ∀ (f c' : Addr) (H2 : Hp), ExtN H1 H2 → (∀ b, H2 b = Option.none → H1 b = Option.none) → TabsN T H2 → H1 f = none → f ≠ c' → H2 f = some (CloO f (mk c')) → H2 c' = some (CodeO c' (mk c').F.qual) →
    (∀ n ∈ ns, tk (startF Nl [.int n] (js.map (slotAt σ))) H2 fun v => v = .int (k n)) ∧ ∀ p, H2 p = none → Q (.ref p) (upd H2 p (.lst ((ns.mergeSort fun a b => decide (k a ≤ k b)).map V.int)))
theorem vals_each : ∀ {ns : List Int} {us : List Value}, Vals (ns.map V.int) us → PySem.W.EachIs (fun v n => ∃ t, v = Value.int n t) us ns
  | [], _, r => by cases r; exact .nil
  | n :: ns, _, r => by
    cases r with
    | cons h t =>
      obtain ⟨t', e⟩ := h
      exact .cons ⟨t', e⟩ (vals_each t)
theorem each_vals : ∀ {us : List Value} {ns : List Int}, PySem.W.EachIs (fun v n => ∃ t, v = Value.int n t) us ns → Vals (ns.map V.int) us
  | _, _, .nil => .nil
  | _, _, .cons ⟨t, e⟩ r => .cons ⟨t, e⟩ (each_vals r)
theorem pe_sortK {T : List NTab} {nm : Nat → Nat → Str} {c P : Addr} {params : Arguments} {body : Expr} {scope : Scope} {e : Expr} {te : TA} {tk : TK} {a : Str} {fr Nl : List Str} {js : List Nat} {k : Nat} {p lpos pos kpos : Pos} (hg : Gl X "sorted") (hm : X.mg "sorted" = none) (TB : TabB X.base X.mg c P) (hcode : X.env.code = .ref c)
    (hmT : (P, nm) ∈ T) (hn : nm lpos.line lpos.col = X.env.qual ++ "<lambda>") (hu : ∀ p ∈ T, p.1 = P → p.2 = nm) (hb : ndefB X.env.scope scope fr = true) (S : NScope Nl [a] fr scope) (hr : Room (k + 2) X.A) (he : PA X [e] te) (hjs : js.map (fun j => X.N[j]?) = fr.map some)
    (hbind : ∀ (F : NF) (doc pm ctv : Value) (u : Value), F.params = params → bindArgs ((CF.mk F (.expr body)).fd doc pm ctv) ⟨[u], []⟩ = pure [(a, u)])
    (hbody : ∀ (A : Around) (outer : List Env) (s : Shared) (H : Hp) (F : NF) (f : Addr), F.scope = scope → PEK (ncx CX0 X.prog X.w X.K X.mg X.base Nl F f A outer s H E0) body tk)
    (hdef : defaultsOf params X.env = ([], []) := by rfl) (hs : backTo pos (starEach [e] X.env) = (false, eval e X.env) :: backTo pos (starEach [] X.env) := by rfl) (hpl : (backTo pos (starEach [e] X.env)).any (·.1) = false := by rfl)
    (hall : (backToKw pos (keywordEach [⟨some "key", .Lambda params body scope lpos, kpos⟩] X.env)).all (·.1.isSome) = true := by rfl) (hnone : (backToKw pos (keywordEach [⟨some "key", .Lambda params body scope lpos, kpos⟩] X.env)).any (·.1.isNone) = false := by rfl)
    (hks : (backToKw pos (keywordEach [⟨some "key", .Lambda params body scope lpos, kpos⟩] X.env)).filterMap (·.1) = [Str.ofString "key"] := by rfl) :
    PE X (.Call (.Name "sorted" p) [e] [⟨some "key", .Lambda params body scope lpos, kpos⟩] pos) (tSortK X.K T (lamF X params body scope) Nl js te tk) := by
  refine ⟨fun pins s σ H Q I h => ?_⟩
  have nb : ∀ y ∈ fr, (y, NameKind.free) ∈ scope.names := ndef_fr hb
  have hb0 : ndefB X.env.scope scope [] = true := by
    unfold ndefB at hb ⊢
    rw [Bool.and_eq_true] at hb ⊢
    exact ⟨hb.1, rfl⟩
  refine wpAny_Call_Name_kw (ld_blt I hg hm boot_sorted ?_ (by decide) (by decide))
  refine PyProof.Rows.callWith_kw (thn (he.run pos pins s σ H _ I h) fun us s1 ⟨vs, H1, I1, r1, a0, ns, key, ex, hq, hT, q⟩ => ?_) hs hpl hall hnone
  subst ex
  obtain rfl := Vals.ref1 r1
  refine thn ((pk_cons (kpos := kpos) (nm := some "key") (pe_lamN (pos := lpos) TB hcode hmT hn hu hb0 hdef) pk_nil).run pos pins s1 σ H1 (fun zs H2 => ∃ f c', zs = [.ref f] ∧ ExtN H1 H2 ∧ H2 f = some (CloO f (lamF X params body scope c')) ∧ H2 c' = some (CodeO c' (lamF X params body scope c').F.qual) ∧
      (∀ n ∈ ns, tk (startF Nl [.int n] (js.map (slotAt σ))) H2 fun v => v = .int (key n)) ∧ ∀ p, H2 p = none → Q (.ref p) (upd H2 p (.lst ((ns.mergeSort fun a b => decide (key a ≤ key b)).map V.int)))) I1 ⟨hT, fun f c' H2 eN nn t2 hf ne h1 h2 => ⟨f, c', rfl, eN, h1, h2, (q f c' H2 eN nn t2 hf ne h1 h2).1, (q f c' H2 eN nn t2 hf ne h1 h2).2⟩⟩) fun ws s2 ⟨zs, H2, I2, r2, q2⟩ => ?_
  obtain ⟨f, c', rfl, eN, hF, hC, hk, hQ⟩ := q2
  obtain rfl := Vals.ref1 r2
  rw [hks]
  show wpAny _ _ (call (.builtin "sorted") [.ref a0] [(Str.ofString "key", .ref f)]) _ _ _
  have hq2 : SqL X.K H2 a0 (ns.map V.int) := by
    rcases hq with (z | ⟨o, z⟩) | z
    · exact .inl (.inl (eN _ _ z (by intro ps z; cases z)))
    · exact .inl (.inr ⟨o, eN _ _ z (by intro ps z; cases z)⟩)
    · exact .inr z
  obtain ⟨its, rv, hl, hz⟩ := I2.list hq2
  rw [List.length_map] at hz
  obtain ⟨od, sl, doc, pm, ctv, ho⟩ := clo_at I2.hok hF
  have cp : Caps X (cloFrom X.env.cells scope.names []) fr js := Caps.made I2.ok (ndef_free hb) nb hjs
  refine PySem.W.sorted_key_data (b := false) (fun n : Int => .int (key n)) hl.isList (vals_each rv) (PySem.W.AllAlike.of fun _ _ => by simp [PySem.W.alike]) (PySem.W.Sortable.others fun _ => ⟨(fun z => by cases z), (fun _ z => by cases z)⟩) hz (fun n _ => ?_) (PyProof.Rows.ksk_s1 _ _) (fun _ => PyProof.Rows.ksk_l1 _ _) (fun _ => PyProof.Rows.ksk_t1 _ _)
    (fun v n ⟨t, ev⟩ hn' h tk' kp => ?_) fun out c h' tk' kp fresh hD hlen eo => ?_
  · have := hr.units
    simp [PySem.PyData.depth]
    omega
  · subst ev
    have I3 : Inv X pins σ H2 { s2 with heap := h, toks := tk' } := I2.kept kp
    have C3 := cells_of I3 cp
    have of3 := kp _ _ ho
    refine wpAny_call ?_
    refine PySem.W.kla_callFunE (by have := hr.depth; exact this) of3 rfl S.co S.gen rfl (codeO_at I3.hok hC) ?_
    rw [hbind _ _ _ _ _ rfl]
    refine wpAny_pure (wpAny_newFunctionEnv S.nocell (fun y hy => ?_) (fun h₁ hns hsb => ⟨I3.nolimit.fresh _ hsb, ?_⟩) S.kind)
    · obtain rfl := List.mem_singleton.mp hy
      exact S.par _ (List.mem_singleton.mpr rfl)
    have kp1 : ∀ b o, h.get? b = some o → h₁.get? b = some o := fun b o e => hsb.extBut b o (Nat.ne_of_lt (Heap.lt_size e)) (Heap.get?_push_of_some _ e)
    have e1 : Env0 X.prog X.w X.K X.mg X.base X.A.in1.in1 X.stack { s2 with heap := h, toks := tk' } H2 := ⟨I3.env0.frames, I3.env0.mod, I3.env0.bs, I3.env0.bsz, I3.env0.funs, I3.env0.frf, I3.env0.hok, I3.env0.bare⟩
    have J : Inv (ncx CX0 X.prog X.w X.K X.mg X.base Nl (lamF X params body scope c').F f X.A.in1.in1 X.stack { s2 with heap := h, toks := tk' } H2 E0) [] (startF Nl [.int n] (js.map (slotAt σ))) H2 { s2 with heap := h₁, toks := tk' + ([(a, Value.int n t)] : List (Str × Value)).length } :=
      inv_startN (us := [.int n t]) S hr.hd e1 rfl (.cons ⟨t, rfl⟩ .nil) C3 hns kp1
    refine PySem.W.kla_codeExpr (wpAny_mono ((hbody _ _ _ _ _ _ rfl).run [] _ _ _ (fun v => v = .int (key n)) J (hk n hn')) (fun v s' ⟨kp2, x, rx, qx⟩ => ?_) fun e s' hq => ?_)
    · obtain ⟨h3, t3, rfl, k3⟩ := kp2
      subst qx
      obtain ⟨t', rfl⟩ := rx
      exact ⟨h3, t3, rfl, fun b o e => k3 b o (kp1 b o e), .int _ _⟩
    · exact wpAny_mono hq (fun _ _ z => False.elim z) fun _ _ z => False.elim z
  · have eo2 : PySem.W.EachIs (fun v n => ∃ t, v = Value.int n t) out (ns.mergeSort fun a b => decide (key a ≤ key b)) := by
      rw [PySem.W.dataLe_int] at eo
      exact eo
    have hsz : ((ns.mergeSort fun a b => decide (key a ≤ key b)).map V.int).length ≤ sizeLine := by
      rw [List.length_map, List.length_mergeSort]
      exact hz
    exact ⟨.ref _, upd H2 (s2.heap.objs.size + 1) (.lst ((ns.mergeSort fun a b => decide (key a ≤ key b)).map V.int)), I2.laid (t' := tk') kp (Nat.le_succ _) ⟨hsz, _, c, each_vals eo2, hD⟩, rfl, hQ _ (I2.hok.fresh (Nat.le_succ _))⟩

/-- repr of a truth value -/
theorem call_repr_bl : CallR X (.builtin "repr") (fun xs H Q => ∃ b, xs = [.bl b] ∧ Q (.str (if b = true then "True" else "False")) H) := by
  intro pins s σ H xs us Q I r h
  obtain ⟨b, rfl, q⟩ := h
  obtain ⟨u, rfl, e⟩ := vals1 r
  obtain rfl := (show u = Value.bool b from e)
  exact PySem.P.repr_of_bool ⟨.str _, H, I.tok _, ⟨_, rfl⟩, q⟩
/-- a list's item, by values -/
theorem get_list : PGet X (rIxL X.K) := by
  intro pins s σ H o i ov iv Q I r1 r2 h
  obtain ⟨p, xs, n, z, rfl, rfl, hq, he, q⟩ := h
  obtain rfl := (show ov = Value.ref p from r1)
  obtain ⟨t, rfl⟩ := r2
  obtain ⟨its, r, pl, hz⟩ := I.list hq
  obtain ⟨j, h1, h2, h3, h4, h5⟩ := atI_get he
  obtain ⟨w, ew, rw'⟩ := r.get h2
  have hl := r.length
  have hn := line63
  have fin : EP X pins σ Q w s := ⟨z, H, I, rw', q⟩
  by_cases h0 : 0 ≤ n
  · have hj : n.toNat = j := by
      rw [seqIndex_of h0 h5] at h1
      exact Option.some.inj h1
    exact wpAny_getItem_list pl.isList h0 (by omega) (by rw [hj]; simpa using ew) fin
  · have hj : (n + (its.toArray.size : Int)).toNat = j := by
      rw [seqIndex_neg (by omega) h4] at h1
      rw [List.size_toArray, ← hl]
      exact Option.some.inj h1
    exact wpAny_getItem_list_neg pl.isList (by omega) (by rw [List.size_toArray] <;> omega) (by omega) (by rw [hj]; simpa using ew) fin
/-- o.m(.., k = v) -/
theorem pe_methN {CX : CXT} {k n : Nat} {f C : Addr} {fd : FuncData} {ps ks : List Str} {sp : Sp} {E : XK} {m : Str} {pos apos : Pos} {o e : Expr} {es : List Expr} {kws : List Keyword} {ta : TE} {t tk : TA} {g : List Value → List Value → List Value} {gV : List V → List V → List V} {pl : Sem Bool}
    (he : PE X o ta) (c : Cls X.K C) (hm : Meth X.K C m f) (F : FnOk X.prog X.w X.K X.mg X.base CX k f fd ps sp) (hr : Room k X.A) (hb : KBn X.K fd ps (n + 1) ks g gV) (hx : Passes CX X E) (ha : PA X (e :: es) t) (hkw : PK X kws tk)
    (hall : (backToKw pos (keywordEach kws X.env)).all (·.1.isSome) = true := by rfl) (hks : (backToKw pos (keywordEach kws X.env)).filterMap (·.1) = ks := by rfl)
    (hst : starEach (e :: es) X.env = (false, eval e X.env) :: starEach es X.env := by rfl) (hpl : ((backTo pos (starEach (e :: es) X.env)).any (·.1) || (backToKw pos (keywordEach kws X.env)).any (·.1.isNone)) = false := by rfl)
    (ht : eval (.Call (.Attribute o m apos) (e :: es) kws pos) X.env = (do
      let ov ← eval o X.env
      standAt apos.atName
      let (f, first) ← holding [ov] (getMethod ov m pl)
      callWith pos f first (backTo pos (starEach (e :: es) X.env)) (backToKw pos (keywordEach kws X.env))) := by rfl) :
    PE X (.Call (.Attribute o m apos) (e :: es) kws pos) (fun σ H Q => ta σ H fun x H1 => ∃ a dx fs, x = .ref a ∧ H1 a = some (.ins C dx fs) ∧ fs.lookup m = none ∧ t σ H1 fun vs H2 => tk σ H2 fun zs H3 => vs.length = n ∧ zs.length = ks.length ∧ sp (gV (.ref a :: vs) zs) H3 Q E) := by
  refine ⟨fun pins s σ H Q I h => ?_⟩
  refine PySem.W.methodCall_KW (pl := pl) (thn (he.run pins s σ H _ I h) fun u s1 ⟨x, H1, I1, rx, a, dx, fs, ex, ea, l, q⟩ => ?_) ht
  subst ex
  obtain rfl := (show u = Value.ref a from rx)
  refine getmeth_ok I1 ea c hm l ?_
  refine PySem.W.callWith_KW (first := [.ref a]) (h₀ := X.base) I.ok.mod.kin hm.kp hall (thn (ha.run pos pins s1 σ H1 _ I1 q) fun us s2 ⟨vs, H2, I2, r, q2⟩ => ?_) hpl hst
  refine thn (hkw.run pos pins s2 σ H2 _ I2 q2) fun ws s3 ⟨zs, H3, I3, rz, l1, l2, q3⟩ => ⟨I3.kIn, ?_⟩
  rw [hks]
  exact run_fnN (us := .ref a :: us) (vs := .ref a :: vs) F hr hb hx I3 (.cons rfl r) rz (by rw [List.length_cons, l1]) l2 q3
/-- o.m(k = v, ..) -/
theorem pe_methN0 {CX : CXT} {k : Nat} {f C : Addr} {fd : FuncData} {ps ks : List Str} {sp : Sp} {E : XK} {m : Str} {pos apos : Pos} {o : Expr} {kws : List Keyword} {ta : TE} {tk : TA} {g : List Value → List Value → List Value} {gV : List V → List V → List V} {pl : Sem Bool}
    (he : PE X o ta) (c : Cls X.K C) (hm : Meth X.K C m f) (F : FnOk X.prog X.w X.K X.mg X.base CX k f fd ps sp) (hr : Room k X.A) (hb : KBn X.K fd ps 1 ks g gV) (hx : Passes CX X E) (hkw : PK X kws tk)
    (hall : (backToKw pos (keywordEach kws X.env)).all (·.1.isSome) = true := by rfl) (hks : (backToKw pos (keywordEach kws X.env)).filterMap (·.1) = ks := by rfl)
    (hpl : ((backTo pos (starEach [] X.env)).any (·.1) || (backToKw pos (keywordEach kws X.env)).any (·.1.isNone)) = false := by rfl)
    (ht : eval (.Call (.Attribute o m apos) [] kws pos) X.env = (do
      let ov ← eval o X.env
      standAt apos.atName
      let (f, first) ← holding [ov] (getMethod ov m pl)
      callWith pos f first (backTo pos (starEach [] X.env)) (backToKw pos (keywordEach kws X.env))) := by rfl) :
    PE X (.Call (.Attribute o m apos) [] kws pos) (fun σ H Q => ta σ H fun x H1 => ∃ a dx fs, x = .ref a ∧ H1 a = some (.ins C dx fs) ∧ fs.lookup m = none ∧ tk σ H1 fun zs H3 => zs.length = ks.length ∧ sp (gV [.ref a] zs) H3 Q E) := by
  refine ⟨fun pins s σ H Q I h => ?_⟩
  refine PySem.W.methodCall_KW (pl := pl) (thn (he.run pins s σ H _ I h) fun u s1 ⟨x, H1, I1, rx, a, dx, fs, ex, ea, l, q⟩ => ?_) ht
  subst ex
  obtain rfl := (show u = Value.ref a from rx)
  refine getmeth_ok I1 ea c hm l ?_
  refine PySem.W.callWith_KW0 (first := [.ref a]) (h₀ := X.base) I.ok.mod.kin hm.kp hall ?_ hpl
  refine thn (hkw.run pos pins s1 σ H1 _ I1 q) fun ws s3 ⟨zs, H3, I3, rz, l2, q3⟩ => ⟨I3.kIn, ?_⟩
  rw [hks]
  exact run_fnN (us := [.ref a]) (vs := [.ref a]) F hr hb hx I3 (.cons rfl .nil) rz rfl l2 q3
theorem fun_kbn {K : PySem.W.Frag} {x qual : Str} {st : Stmt} {f : Addr} {fd : FuncData} {ps ks : List Str} {n : Nat} (F : Fun K x qual st f fd)
    (h : ∀ (kV doc pm : Value) (an : Option Addr) (cdv ct : Value) (us ws : List Value), us.length = n → ws.length = ks.length → bindArgs (PySem.W.fnOf x qual (defArgs st) (defBody st) (defScope st) .none kV doc pm an cdv ct) ⟨us, ks.zip ws⟩ = pure (ps.zip (us ++ ws))) : KBn K fd ps n ks (· ++ ·) (· ++ ·) := by
  obtain ⟨oc, od, kV, doc, pm, an, cdv, ct, osl, rfl, lk, hcd⟩ := F.ex
  exact ⟨fun s us ws _ h1 h2 => BindsTo.of_eq (h kV doc pm an cdv ct us ws h1 h2), fun r1 r2 => r1.append r2⟩
/-- a, *b = a tuple -/
theorem pg_star {x y : Str} {px py sp pos : Pos} {k i j : Nat} (hc : X.calm = true) (hN : X.N.Nodup) (hi : X.N[i]? = some x) (hj : X.N[j]? = some y) (hx : Loc X.env.scope x) (hy : Loc X.env.scope y)
    (hfx : X.fn x = true ∨ X.env.scope.names.lookup x = some .local := by first | exact .inl rfl | exact .inr rfl | assumption) (hfy : X.fn y = true ∨ X.env.scope.names.lookup y = some .local := by first | exact .inl rfl | exact .inr rfl | assumption) :
    PG X (.Tuple [.Name x px, .Starred (.Name y py) sp] k pos) (fun v σ H Q => ∃ a z zs, v = .ref a ∧ SqT X.K H a (z :: zs) ∧ ∀ p, H p = none → Q ((σ.set i (some z)).set j (some (.ref p))) (upd H p (.lst zs))) := by
  refine ⟨fun pins s σ H v u Q I r h => ?_⟩
  obtain ⟨l, z, zs, rfl, hq, q⟩ := h
  obtain rfl := (show u = Value.ref l from r)
  obtain ⟨its, rv, hl, hz⟩ := I.tuple hq
  cases rv with
  | cons rz rzs =>
  rename_i w ws
  have hl : IsTup s.heap l (w :: ws).toArray := hl
  have hlt : l ≠ s.heap.objs.size := by obtain ⟨o, ho, _⟩ := hl; exact Nat.ne_of_lt (Heap.lt_size ho)
  have hlen := rzs.length
  rw [List.length_cons] at hz
  rw [PyProof.Rows.assign_Tuple]
  refine wpAny_bind (wpAny_standAt ?_)
  unfold unpack
  refine wpAny_bind (wpAny_holding ?_)
  show wpAny _ _ (unpackItems (.ref l) 2 (some 1)) _ _ _
  unfold unpackItems
  refine wpAny_bind ?_
  unfold notIterableAtAll
  refine wpAny_bind (wpAny_specialOf hl.typeIs slot_tuple_iter.lookup ?_)
  refine wpAny_pure ?_
  simp only [Bool.false_eq_true, if_false]
  refine wpAny_bind (wpAny_holding (iter_tuple hl ?_))
  refine wpAny_bind (wpAny_holding (draw_tuple hlt 1 0 _ _ ⟨_, Heap.get?_push_size _ rfl, rfl, rfl⟩ (hl.push _) (by simp) fun h₁ hit₁ hs₁ => ?_))
  have hl₁ : IsTup h₁ l (w :: ws).toArray := (hl.push _).extBut hs₁.extBut hlt
  rw [Nat.zero_add] at hit₁
  have hit₁' := hit₁
  obtain ⟨oi, hoi, _⟩ := hit₁'
  have hl₁' := hl₁
  obtain ⟨ol, hol, _⟩ := hl₁'
  show wpAny _ _ (if ([w] : List Value).length < 1 then _ else _) _ _ _
  rw [if_neg (show ¬ ([w] : List Value).length < 1 from Nat.lt_irrefl 1)]
  refine wpAny_bind (wpAny_holding (PySem.W.kun_collect (s := { s with heap := h₁ }) (T := "tuple_iterator") (.inr (.inr (.inr rfl))) (Walks.tuple (A := X.A.in1) (I.ok.hd hc) s.heap.objs.size l hlt (w :: ws).toArray) (fun j u st => st.1.typeIs) (k := 1) (by simp) ⟨hit₁, hl₁⟩ (Heap.lt_size hoi) (Heap.lt_size hol) (fun h₂ tk hk => ?_) (by simp; omega)))
  show wpAny _ _ (if ws.length < 0 then _ else _) _ _ _
  rw [if_neg (Nat.not_lt_zero _)]
  show wpAny _ _ (newList (ws.take (ws.length - 0)) >>= fun d => pure ([w] ++ [d] ++ ws.drop (ws.length - 0))) _ _ _
  rw [Nat.sub_zero, List.take_length, List.drop_length]
  refine wpAny_bind (wpAny_newList (wpAny_pure ?_) (by omega))
  have he : ∀ b o, s.heap.get? b = some o → h₂.get? b = some o := fun b o e => hk b o (Nat.ne_of_lt (Heap.lt_size e)) (hs₁.extBut b o (Nat.ne_of_lt (Heap.lt_size e)) (Heap.get?_push_of_some _ e))
  have I1 : Inv X pins σ H { s with heap := h₂, toks := tk } := I.kept he
  have I2 : Inv X pins σ (upd H h₂.objs.size (.lst zs)) { s with heap := h₂.push { cls := .type "list", data := .seq ws.toArray }, toks := tk } := I1.laid (a := h₂.objs.size) (o := .lst zs) (t' := tk) (fun b u e => Heap.get?_push_of_some _ e) (Nat.le_refl _) ⟨by omega, ws, 0, rzs, Heap.get?_push_size _ rfl⟩
  have nf : H h₂.objs.size = none := I1.hok.fresh (Nat.le_refl _)
  refine assignInOrder_cons (thn ((pg_name (pos := px) hN hi hx hfx).run pins _ σ _ z w (fun σ1 H1 => Q (σ1.set j (some (.ref h₂.objs.size))) H1) I2 rz (q _ nf)) fun _ s1 q0 => ?_)
  obtain ⟨σ1, H1, I3, q1⟩ := q0
  exact assignInOrder_cons (thn ((pg_name (pos := py) hN hj hy hfy).run pins _ σ1 H1 (.ref h₂.objs.size) _ Q I3 rfl q1) fun _ s2 q2 => assignInOrder_nil q2)
/-- xs == [] -/
def rEqNil (K : PySem.W.Frag) (neg : Bool) : R2 := fun x y H Q => ∃ a b xs, x = V.ref a ∧ y = V.ref b ∧ SqL K H a xs ∧ SqL K H b [] ∧ Q (.bl (if neg = true then !xs.isEmpty else xs.isEmpty)) H
theorem op_eqNil (hu : X.A.units < cLine) : OpR X (compareOp .Eq) (rEqNil X.K false) := by
  intro pins s σ H x y v u Q I rx ry h
  obtain ⟨a, b, xs, rfl, rfl, h1, h2, q⟩ := h
  obtain rfl := (show v = Value.ref a from rx)
  obtain rfl := (show u = Value.ref b from ry)
  obtain ⟨us, r1, p1, _⟩ := I.list h1
  obtain ⟨ws, r2, p2, _⟩ := I.list h2
  cases r2
  cases r1 with
  | nil => exact SeqAt.RcAt.lists (e := fun _ => true) p1.isList p2.isList rfl hu (fun j h1 _ => absurd h1 (Nat.not_lt_zero j)) X.prog X.w _ _ ⟨.bl true, H, I, rfl, q⟩
  | cons r rr => exact SeqAt.eq_list_lengthsAt p1.isList p2.isList (by simp) hu ⟨.bl false, H, I, rfl, q⟩
theorem op_neNil (hu : X.A.units < cLine) : OpR X (compareOp .NotEq) (rEqNil X.K true) := by
  intro pins s σ H x y v u Q I rx ry h
  obtain ⟨a, b, xs, rfl, rfl, h1, h2, q⟩ := h
  obtain rfl := (show v = Value.ref a from rx)
  obtain rfl := (show u = Value.ref b from ry)
  obtain ⟨us, r1, p1, _⟩ := I.list h1
  obtain ⟨ws, r2, p2, _⟩ := I.list h2
  cases r2
  cases r1 with
  | nil => exact SeqAt.RcNeAt.lists (e := fun _ => true) p1.isList p2.isList rfl hu (fun j h1 _ => absurd h1 (Nat.not_lt_zero j)) X.prog X.w _ _ ⟨.bl false, H, I, rfl, q⟩
  | cons r rr => exact SeqAt.RcNeAt.lists_lengths p1.isList p2.isList (by simp) hu X.prog X.w _ _ ⟨.bl true, H, I, rfl, q⟩
/-! ### a def that makes functions: its code object is known -/
structure FunC (K : PySem.W.Frag) (x qual : Str) (st : Stmt) (f : Addr) (fd : FuncData) (c : Addr) : Prop where
  ex : ∃ (oc : Value) (od : Option Addr) (kV doc pm : Value) (an : Option Addr) (ct : Value) (osl : Array (Option Value)),
    fd = PySem.W.fnOf x qual (defArgs st) (defBody st) (defScope st) .none kV doc pm an (.ref c) ct ∧ K.lookup f = some ⟨oc, od, .func fd, osl⟩ ∧ PySem.W.codeIn K (.ref c) qual = true
  kp : PySem.W.keepIn K (.ref f) = true
theorem FunC.fun {K : PySem.W.Frag} {x qual : Str} {st : Stmt} {f c : Addr} {fd : FuncData} (F : FunC K x qual st f fd c) : Fun K x qual st f fd := by
  obtain ⟨⟨oc, od, kV, doc, pm, an, ct, osl, e, l, h⟩, k⟩ := F
  exact ⟨⟨oc, od, kV, doc, pm, an, _, ct, osl, e, l, h⟩, k⟩
theorem FunC.ok {P : Program} {w : World} {K : PySem.W.Frag} {mg : Str → Option Value} {base : Heap} {x qual : Str} {st : Stmt} {f c : Addr} {fd : FuncData} {N ps : List Str} {k : Nat} {sp : Sp} (F : FunC K x qual st f fd c) (S : FnScope N ps (defScope st)) (len : ∀ vs H Q E, sp vs H Q E → vs.length = ps.length)
    (hbody : ∀ (A : Around) (outer : List Env) (s : Shared) (H : Hp) (vs : List V) (Q : VK) (E : XK), Room k (A.deeper (envOfC qual (defScope st) s.heap.objs.size f (.ref c))) → sp vs H Q E →
      ∃ t, PSs (cxOf CX0 P w K mg base N qual (defScope st) f (.ref c) A outer s H E).nox (defBody st) t ∧ t { nx := fun _ H' => Q .non H', rt := Q } (start N vs) H) : FnOk P w K mg base CX0 (k + 1) f fd ps sp := by
  obtain ⟨oc, od, kV, doc, pm, an, ct, osl, rfl, lk, hcd⟩ := F.ex
  refine fn_of lk hcd S len fun A outer s H vs Q E hr hsp => ?_
  obtain ⟨t, h, q⟩ := hbody A outer s H vs Q E hr hsp
  exact ⟨t, h.nox, q⟩
theorem func_mk {K : PySem.W.Frag} {x qual : Str} {st : Stmt} {f c : Addr} {oc : Value} {od an : Option Addr} {osl : Array (Option Value)} {kV doc pm ct : Value} (l : K.lookup f = some ⟨oc, od, .func (PySem.W.fnOf x qual (defArgs st) (defBody st) (defScope st) .none kV doc pm an (.ref c) ct), osl⟩)
    (h : PySem.W.codeIn K (.ref c) qual = true) (k : PySem.W.keepIn K (.ref f) = true) : FunC K x qual st f (PySem.W.fnOf x qual (defArgs st) (defBody st) (defScope st) .none kV doc pm an (.ref c) ct) c := ⟨⟨oc, od, kV, doc, pm, an, ct, osl, rfl, l, h⟩, k⟩
end
end Og
namespace Og
open PySem L2 NdefX LamX
section
variable {T : List NTab} {l : Ents} {H H2 : Hp} {p x dx C : Addr} {o o' : HO} {xs : List V} {v : V} {k : Int} {i j : Nat}
theorem own_new (w : Own T l H) (h : H p = none) (e : upd H p o = H2) (nt : isT o = false := by rfl) : Own T ((p, o) :: l) H2 := e ▸ w.new h nt
theorem own_put (w : Own T l H) (hi : l[i]? = some (p, o)) (e : upd H p o' = H2) (hm : isM o = true := by rfl) (nt : isT o' = false := by rfl) : Own T (l.set i (p, o')) H2 := e ▸ w.put i hi hm nt
theorem own_make (w : Own T l H) (h1 : H x = none) (h2 : H dx = none) (ne : dx ≠ x) (e : upd (upd H dx (.own x)) x (.ins C dx []) = H2) : Own T ((x, .ins C dx []) :: l) H2 := by
  have w1 : Own T l (upd H dx (.own x)) := w.same (same_new h2)
  exact e ▸ w1.new ((upd_ne (Ne.symm ne)).trans h1)
theorem ite_t {c : Prop} [Decidable c] {A B : Prop} (h : c) (q : A) : if c then A else B := by
  rw [if_pos h]
  exact q
theorem ite_f {c : Prop} [Decidable c] {A B : Prop} (h : ¬ c) (q : B) : if c then A else B := by
  rw [if_neg h]
  exact q
theorem ixN_nat {n j : Nat} (h : j < n) : ixN n (j : Int) = some j := by
  unfold ixN
  rw [if_pos (by omega), if_pos (by omega)]
  simp
def nV (xs : List Nat) : List V := xs.map fun n : Nat => V.int (n : Int)
theorem nV_len (xs : List Nat) : (nV xs).length = xs.length := List.length_map ..
theorem nV_set {xs : List Nat} {i x : Nat} : (nV xs).set i (.int (x : Int)) = nV (xs.set i x) := by
  unfold nV
  rw [List.map_set]
theorem nV_get {xs : List Nat} {i : Nat} : (nV xs)[i]? = xs[i]?.map fun n : Nat => V.int (n : Int) := List.getElem?_map ..
theorem atI_nV {xs : List Nat} {x y : Nat} (h : xs[x]? = some y) : atI (nV xs) (x : Int) = some (.int (y : Int)) := by
  refine atI_nat ?_
  unfold nV
  rw [List.getElem?_map, h]
  rfl
theorem lt_of_get {α : Type} {xs : List α} {i : Nat} {x : α} (h : xs[i]? = some x) : i < xs.length := (List.getElem?_eq_some_iff.mp h).1
/-- the entries behind the first k are kept by what keeps all -/
theorem Own.old (w : Own T l H) {H' : Hp} (s : ∀ q ∈ l, H' q.1 = some q.2) (t : TabsN T H') : Own T l H' := ⟨t, s, w.nd, w.nt⟩
theorem upd_id (h : H p = some o) : upd H p o = H := by
  funext b
  by_cases e : b = p
  · rw [e, upd_same, h]
  · exact upd_ne e
section
variable {K : PySem.W.Frag} {a D : Addr} {g : TG} {tt : TT} {te : TE} {vs : List Nat} {σ : L2.St} {Qd : Hp → Prop} {lo : Int} {n : Nat}
theorem lcR (w : Own T ((D, .lst []) :: l) H2) (Pv : Nat → Hp → Prop) (h0 : Pv 0 H2) 
    (hs : ∀ i H, i < n → Pv i H → g (.int (lo + i)) (wipe σ vs) H fun σ2 H2 => wipe σ2 vs = wipe σ vs ∧ tt σ2 H2 fun b H3 => if b = true then te σ2 H3 fun y H4 => ∃ acc, H4 D = some (.lst acc) ∧ acc.length < sizeLine ∧ Pv (i + 1) (upd H4 D (.lst (acc ++ [y]))) else Pv (i + 1) H3) (hd : ∀ H, Pv n H → Qd H) :
    ∃ W : Nat → Nat → Hp → Prop, (∃ m, W 0 m H2) ∧ ∀ i m H, W i m H → ((Itr lo n).stop i H ∧ Qd H) ∨ ((Itr lo n).go i H ∧ ∃ Nx : Hp → Prop, (∀ H', Nx H' → ∃ m', m' < m ∧ W (i + 1) m' H') ∧ ∀ x H', (Itr lo n).yld i H x H' → g x (wipe σ vs) H' fun σ2 H2 => wipe σ2 vs = wipe σ vs ∧ tt σ2 H2 fun b H3 =>
      if b = true then te σ2 H3 fun y H4 => ∃ acc, H4 D = some (.lst acc) ∧ acc.length < sizeLine ∧ Nx (upd H4 D (.lst (acc ++ [y]))) else Nx H3) := by
  have e : upd H2 D (.lst []) = H2 := upd_id (w.at (List.Mem.head _))
  have z := lc_range (H1 := H2) (D := D) (Qd := Qd) Pv (by rw [e]; exact h0) hs hd
  rw [e] at z
  exact z
theorem lcL (w : Own T ((D, .lst []) :: l) H2) (Pv : Nat → Hp → Prop) (h0 : Pv 0 H2) (hl : ∀ i H, i ≤ xs.length → Pv i H → SqL K H a xs)
    (hs : ∀ i x H, xs[i]? = some x → Pv i H → g x (wipe σ vs) H fun σ2 H2 => wipe σ2 vs = wipe σ vs ∧ tt σ2 H2 fun b H3 => if b = true then te σ2 H3 fun y H4 => ∃ acc, H4 D = some (.lst acc) ∧ acc.length < sizeLine ∧ Pv (i + 1) (upd H4 D (.lst (acc ++ [y]))) else Pv (i + 1) H3) (hd : ∀ H, Pv xs.length H → Qd H) :
    ∃ W : Nat → Nat → Hp → Prop, (∃ m, W 0 m H2) ∧ ∀ i m H, W i m H → ((Itl K a).stop i H ∧ Qd H) ∨ ((Itl K a).go i H ∧ ∃ Nx : Hp → Prop, (∀ H', Nx H' → ∃ m', m' < m ∧ W (i + 1) m' H') ∧ ∀ x H', (Itl K a).yld i H x H' → g x (wipe σ vs) H' fun σ2 H2 => wipe σ2 vs = wipe σ vs ∧ tt σ2 H2 fun b H3 =>
      if b = true then te σ2 H3 fun y H4 => ∃ acc, H4 D = some (.lst acc) ∧ acc.length < sizeLine ∧ Nx (upd H4 D (.lst (acc ++ [y]))) else Nx H3) := by
  have e : upd H2 D (.lst []) = H2 := upd_id (w.at (List.Mem.head _))
  have z := lc_list (H1 := H2) (D := D) (Qd := Qd) Pv (by rw [e]; exact h0) hl hs hd
  rw [e] at z
  exact z
theorem lcT (w : Own T ((D, .lst []) :: l) H2) (Pv : Nat → Hp → Prop) (h0 : Pv 0 H2) (hl : ∀ i H, i ≤ xs.length → Pv i H → SqT K H a xs)
    (hs : ∀ i x H, xs[i]? = some x → Pv i H → g x (wipe σ vs) H fun σ2 H2 => wipe σ2 vs = wipe σ vs ∧ tt σ2 H2 fun b H3 => if b = true then te σ2 H3 fun y H4 => ∃ acc, H4 D = some (.lst acc) ∧ acc.length < sizeLine ∧ Pv (i + 1) (upd H4 D (.lst (acc ++ [y]))) else Pv (i + 1) H3) (hd : ∀ H, Pv xs.length H → Qd H) :
    ∃ W : Nat → Nat → Hp → Prop, (∃ m, W 0 m H2) ∧ ∀ i m H, W i m H → ((Itt K a).stop i H ∧ Qd H) ∨ ((Itt K a).go i H ∧ ∃ Nx : Hp → Prop, (∀ H', Nx H' → ∃ m', m' < m ∧ W (i + 1) m' H') ∧ ∀ x H', (Itt K a).yld i H x H' → g x (wipe σ vs) H' fun σ2 H2 => wipe σ2 vs = wipe σ vs ∧ tt σ2 H2 fun b H3 =>
      if b = true then te σ2 H3 fun y H4 => ∃ acc, H4 D = some (.lst acc) ∧ acc.length < sizeLine ∧ Nx (upd H4 D (.lst (acc ++ [y]))) else Nx H3) := by
  have e : upd H2 D (.lst []) = H2 := upd_id (w.at (List.Mem.head _))
  have z := lc_tup (H1 := H2) (D := D) (Qd := Qd) Pv (by rw [e]; exact h0) hl hs hd
  rw [e] at z
  exact z
end
def tkFldIx (K : PySem.W.Frag) (f : Str) : TK := fun σ H Q => ∃ v, σ[1]? = some (some v) ∧ ∃ a C dx fs u, v = .ref a ∧ H a = some (.ins C dx fs) ∧ Cls K C ∧ NoAttr K C f ∧ fs.lookup f = some u ∧ ∃ x, σ[0]? = some (some x) ∧ ∃ p xs i z, u = .ref p ∧ x = .int i ∧ SqL K H p xs ∧ 0 ≤ i ∧ atI xs i = some z ∧ Q z
theorem key_fld_ix {X : Cx} {a b f : Str} {p1 p2 p3 p4 : Pos} (hN1 : X.N[1]? = some a) (hv1 : Vis X.env.scope a) (hN0 : X.N[0]? = some b) (hv0 : Vis X.env.scope b) (ha : (a == ("__debug__" : Str)) = false := by decide) (ha2 : (a == ("__classdict__" : Str)) = false := by decide)
    (hb : (b == ("__debug__" : Str)) = false := by decide) (hb2 : (b == ("__classdict__" : Str)) = false := by decide) (hat : attributeBase (.Name a p1) f X.env (eval (.Name a p1) X.env) = eval (.Name a p1) X.env := by rfl) :
    PEK X (.Subscript (.Attribute (.Name a p1) f p2) (.Name b p3) p4) (tkFldIx X.K f) := pk_ixL (pk_fld (pk_var 1 hN1 hv1 ha ha2) hat) (pk_var 0 hN0 hv0 hb hb2) (fun _ _ => rfl)
theorem ms_two (le : Int → Int → Bool) (a b : Nat) : ∃ s t : Nat, [(a : Int), (b : Int)].mergeSort le = [(s : Int), (t : Int)] ∧ (s = a ∧ t = b ∨ s = b ∧ t = a) := by
  by_cases c : le a b = true
  · exact ⟨a, b, by simp [List.mergeSort, List.merge, c], .inl ⟨rfl, rfl⟩⟩
  · exact ⟨b, a, by simp [List.mergeSort, List.merge, c], .inr ⟨rfl, rfl⟩⟩
/-! a statement cut off from what follows -/
def tCut (t : TS) : TS := fun D σ H => ∃ Pm : L2.St → Hp → Prop, t { D with nx := Pm } σ H ∧ ∀ σ' H', Pm σ' H' → D.nx σ' H'
theorem ps_cut {X : Cx} {s : Stmt} {t : TS} (h : PS X s t) : PS X s (tCut t) := by
  refine ⟨fun pins st σ H D I ⟨Pm, h1, h2⟩ => thn (h.run pins st σ H { D with nx := Pm } I h1) fun fl s' q => ?_⟩
  cases fl with
  | next =>
    obtain ⟨σ', H', J, z⟩ := q
    exact ⟨σ', H', J, h2 _ _ z⟩
  | brk => exact q
  | cont => exact q
  | ret u => exact q
/-! rules whose readings name K, for blocks -/
section
variable {X : Cx} {K : PySem.W.Frag}
theorem ixL (hK : X.K = K := by rfl) : IxR X (rIxL K) := hK ▸ ix_list
theorem ixT (hK : X.K = K := by rfl) : IxR X (rIxT K) := hK ▸ ix_tup
theorem opIn (hK : X.K = K := by rfl) : OpR X (compareOp .In) (rIn K false) := hK ▸ op_in_seq
theorem opNotIn (hK : X.K = K := by rfl) : OpR X (compareOp .NotIn) (rIn K true) := hK ▸ op_notIn_seq
theorem lenL (hK : X.K = K := by rfl) : CallR X (.builtin "len") (fun xs H Q => ∃ p ys, xs = [.ref p] ∧ (SqL K H p ys ∨ SqT K H p ys) ∧ Q (.int ys.length) H) := hK ▸ call_len_seq
theorem sortedI (hK : X.K = K := by rfl) : CallR X (.builtin "sorted") (rSortedI K) := hK ▸ cr_sortedI
theorem fldK {e : Expr} {f : Str} {pos : Pos} {ta : TE} (he : PE X e ta) (hb : attributeBase e f X.env (eval e X.env) = eval e X.env) (hK : X.K = K := by rfl) : PE X (.Attribute e f pos) (tFld K ta f) := hK ▸ pe_fld he hb
end
theorem bt_len : bootBuiltins "len" = some (.builtin "len") := by decide +kernel
theorem bt_abs : bootBuiltins "abs" = some (.builtin "abs") := by decide +kernel
theorem bt_min : bootBuiltins "min" = some (.builtin "min") := by decide +kernel
theorem bt_max : bootBuiltins "max" = some (.builtin "max") := by decide +kernel
theorem bt_sum : bootBuiltins "sum" = some (.builtin "sum") := by decide +kernel
theorem bt_sorted : bootBuiltins "sorted" = some (.builtin "sorted") := by decide +kernel
theorem bt_repr : bootBuiltins "repr" = some (.builtin "repr") := by decide +kernel
theorem bt_list : bootBuiltins "list" = some (.type "list") := by decide +kernel
theorem bt_tuple : bootBuiltins "tuple" = some (.type "tuple") := by decide +kernel
theorem bt_int : bootBuiltins "int" = some (.type "int") := by decide +kernel
/-- entries picked by their places, then those behind the first k -/
def picks (l : Ents) (is : List Nat) (k : Nat) : Ents := is.filterMap (fun i => l[i]?) ++ l.drop k
theorem Own.apart (w : Own T l H) {i j : Nat} {p q : Addr × HO} (ne : i ≠ j) (h1 : l[i]? = some p) (h2 : l[j]? = some q) : Apart p q := by
  obtain ⟨l1, e1⟩ := List.getElem?_eq_some_iff.mp h1
  obtain ⟨l2, e2⟩ := List.getElem?_eq_some_iff.mp h2
  have pw := List.pairwise_iff_getElem.mp w.nd
  rcases Nat.lt_or_gt_of_ne ne with c | c
  · have := pw i j l1 l2 c
    rw [e1, e2] at this
    exact this
  · have := pw j i l2 l1 c
    rw [e1, e2] at this
    exact fun a b => (this b a).symm
theorem Own.picks (w : Own T l H) (is : List Nat) (k : Nat) (nd : is.Nodup := by decide) (lt : ∀ i ∈ is, i < k := by decide) : Own T (picks l is k) H := by
  have sub : ∀ q ∈ Og.picks l is k, q ∈ l := fun q hq => by
    rcases List.mem_append.mp hq with h | h
    · obtain ⟨i, _, hi⟩ := List.mem_filterMap.mp h
      exact List.mem_of_getElem? hi
    · exact List.mem_of_mem_drop h
  refine ⟨w.tab, fun q hq => w.all q (sub q hq), List.pairwise_append.mpr ⟨?_, w.nd.sublist (List.drop_sublist k l), fun a ha b hb => ?_⟩, fun q hq => w.nt q (sub q hq)⟩
  · rw [List.pairwise_filterMap]
    exact nd.imp fun ne b hb b' hb' => w.apart ne hb hb'
  · obtain ⟨i, hi, ha⟩ := List.mem_filterMap.mp ha
    obtain ⟨j, hj⟩ := List.mem_iff_getElem?.mp hb
    rw [List.getElem?_drop] at hj
    have := lt i hi
    exact w.apart (by omega) ha hj
theorem rgV_nV (n : Nat) : rgV 0 (n : Int) = nV (List.range n) := by
  unfold rgV nV
  rw [show ((n : Int) - 0).toNat = n by omega]
  simp
theorem rep_nV (n x : Nat) : (List.replicate ((n : Int)).toNat [V.int (x : Int)]).flatten = nV (List.replicate n x) := by
  unfold nV
  rw [Int.toNat_natCast, List.map_replicate]
  induction n with
  | zero => rfl
  | succ n ih =>
    rw [List.replicate_succ, List.replicate_succ, List.flatten_cons, ih]
    rfl
end
end Og
namespace Og
open PySem L2 NdefX LamX
def top (i : Nat) : Stmt := PySem.Challenge.pw_oncebuilt_k78_connected_components.main.body.getD i (.Pass ⟨0, 0, 0, 0⟩)
abbrev s_Unions_init : Stmt := inClass (top 1) 0
abbrev n_Unions_init : List Str := ["self", "many"]
abbrev p_Unions_init : List Str := ["self", "many"]
theorem sc_Unions_init : FnScope n_Unions_init p_Unions_init (defScope s_Unions_init) := ⟨rfl, rfl, rfl, by decide +kernel, rfl, by decide +kernel, by decide +kernel⟩
abbrev s_Unions_root : Stmt := inClass (top 1) 1
abbrev n_Unions_root : List Str := ["self", "point"]
abbrev p_Unions_root : List Str := ["self", "point"]
theorem sc_Unions_root : FnScope n_Unions_root p_Unions_root (defScope s_Unions_root) := ⟨rfl, rfl, rfl, by decide +kernel, rfl, by decide +kernel, by decide +kernel⟩
abbrev s_Unions_push : Stmt := inClass (top 1) 2
abbrev n_Unions_push : List Str := ["self", "pair", "small", "great", "point"]
abbrev p_Unions_push : List Str := ["self", "pair"]
theorem sc_Unions_push : FnScope n_Unions_push p_Unions_push (defScope s_Unions_push) := ⟨rfl, rfl, rfl, by decide +kernel, rfl, by decide +kernel, by decide +kernel⟩
abbrev s_Unions_pop : Stmt := inClass (top 1) 3
abbrev n_Unions_pop : List Str := ["self", "small"]
abbrev p_Unions_pop : List Str := ["self"]
theorem sc_Unions_pop : FnScope n_Unions_pop p_Unions_pop (defScope s_Unions_pop) := ⟨rfl, rfl, rfl, by decide +kernel, rfl, by decide +kernel, by decide +kernel⟩
abbrev s_Unions_ask : Stmt := inClass (top 1) 4
abbrev n_Unions_ask : List Str := ["self", "question", "word", "points", "roots", "point"]
abbrev p_Unions_ask : List Str := ["self", "question"]
theorem sc_Unions_ask : FnScope n_Unions_ask p_Unions_ask (defScope s_Unions_ask) := ⟨rfl, rfl, rfl, by decide +kernel, rfl, by decide +kernel, by decide +kernel⟩
abbrev s_bag : Stmt := top 3
abbrev n_bag : List Str := ["_law_script", "_law_at", "_law_cell", "_law_great", "_law_primes"]
abbrev p_bag : List Str := ["_law_script", "_law_at"]
theorem sc_bag : FnScope n_bag p_bag (defScope s_bag) := ⟨rfl, rfl, rfl, by decide +kernel, rfl, by decide +kernel, by decide +kernel⟩
abbrev s_take : Stmt := top 4
abbrev n_take : List Str := ["_law_bag_here", "_law_count", "_law_digit"]
abbrev p_take : List Str := ["_law_bag_here", "_law_count"]
theorem sc_take : FnScope n_take p_take (defScope s_take) := ⟨rfl, rfl, rfl, by decide +kernel, rfl, by decide +kernel, by decide +kernel⟩
abbrev s_component : Stmt := top 5
abbrev n_component : List Str := ["_law_pairs", "_law_point", "_law_found", "_law_turn", "_law_one", "_law_other"]
abbrev p_component : List Str := ["_law_pairs", "_law_point"]
theorem sc_component : FnScope n_component p_component (defScope s_component) := ⟨rfl, rfl, rfl, by decide +kernel, rfl, by decide +kernel, by decide +kernel⟩
abbrev s_right : Stmt := top 6
abbrev n_right : List Str := ["_law_unions", "_law_pairs", "_law_wide", "_law_parts", "_law_one", "_law_other", "_law_point"]
abbrev p_right : List Str := ["_law_unions", "_law_pairs", "_law_wide"]
theorem sc_right : FnScope n_right p_right (defScope s_right) := ⟨rfl, rfl, rfl, by decide +kernel, rfl, by decide +kernel, by decide +kernel⟩
abbrev s_chain : Stmt := top 7
abbrev n_chain : List Str := ["_law_unions", "_law_point", "_law_turn"]
abbrev p_chain : List Str := []
theorem sc_chain : FnScope n_chain p_chain (defScope s_chain) := ⟨rfl, rfl, rfl, by decide +kernel, rfl, by decide +kernel, by decide +kernel⟩
abbrev s_law : Stmt := top 8
abbrev n_law : List Str := ["_law_script", "_law_at", "_law_bag_here", "_law_wide", "_law_pairs", "_law_road", "_law_unions", "_law_other", "_law_others", "_law_turn"]
abbrev p_law : List Str := ["_law_script"]
theorem sc_law : FnScope n_law p_law (defScope s_law) := ⟨rfl, rfl, rfl, by decide +kernel, rfl, by decide +kernel, by decide +kernel⟩
structure Facts (K : PySem.W.Frag) (mg : Str → Option Value) where
  a_Unions_init : Addr
  d_Unions_init : FuncData
  F_Unions_init : Fun K "__init__" "Unions.__init__" s_Unions_init a_Unions_init d_Unions_init
  a_Unions_root : Addr
  d_Unions_root : FuncData
  F_Unions_root : Fun K "root" "Unions.root" s_Unions_root a_Unions_root d_Unions_root
  a_Unions_push : Addr
  d_Unions_push : FuncData
  c_Unions_push : Addr
  P_Unions_push : Addr
  F_Unions_push : FunC K "push" "Unions.push" s_Unions_push a_Unions_push d_Unions_push c_Unions_push
  h_Unions_push : PySem.W.codeHdIn K c_Unions_push P_Unions_push = true
  n_Unions_push : K.lookup P_Unions_push = none
  a_Unions_pop : Addr
  d_Unions_pop : FuncData
  F_Unions_pop : Fun K "pop" "Unions.pop" s_Unions_pop a_Unions_pop d_Unions_pop
  a_Unions_ask : Addr
  d_Unions_ask : FuncData
  F_Unions_ask : Fun K "ask" "Unions.ask" s_Unions_ask a_Unions_ask d_Unions_ask
  a_bag : Addr
  d_bag : FuncData
  F_bag : Fun K "_law_bag" "_law_bag" s_bag a_bag d_bag
  m_bag : mg "_law_bag" = some (.ref a_bag)
  a_take : Addr
  d_take : FuncData
  F_take : Fun K "_law_take" "_law_take" s_take a_take d_take
  m_take : mg "_law_take" = some (.ref a_take)
  a_component : Addr
  d_component : FuncData
  F_component : Fun K "_law_component" "_law_component" s_component a_component d_component
  m_component : mg "_law_component" = some (.ref a_component)
  a_right : Addr
  d_right : FuncData
  F_right : Fun K "_law_right" "_law_right" s_right a_right d_right
  m_right : mg "_law_right" = some (.ref a_right)
  a_chain : Addr
  d_chain : FuncData
  F_chain : Fun K "_law_chain" "_law_chain" s_chain a_chain d_chain
  m_chain : mg "_law_chain" = some (.ref a_chain)
  a_law : Addr
  d_law : FuncData
  F_law : Fun K "law" "law" s_law a_law d_law
  m_law : mg "law" = some (.ref a_law)
  C_Unions : Addr
  k_Unions : Cls K C_Unions
  mC_Unions : mg "Unions" = some (.ref C_Unions)
  na_Unions_above : NoAttr K C_Unions "above"
  na_Unions_sizes_of : NoAttr K C_Unions "sizes_of"
  na_Unions_groups : NoAttr K C_Unions "groups"
  na_Unions_lowered : NoAttr K C_Unions "lowered"
  M_Unions : Mk K C_Unions a_Unions_init
  t_Unions_root : Meth K C_Unions "root" a_Unions_root
  t_Unions_push : Meth K C_Unions "push" a_Unions_push
  t_Unions_pop : Meth K C_Unions "pop" a_Unions_pop
  t_Unions_ask : Meth K C_Unions "ask" a_Unions_ask
  z_list : mg "list" = none
  z_range : mg "range" = none
  z_sorted : mg "sorted" = none
  z_len : mg "len" = none
  z_abs : mg "abs" = none
  z_max : mg "max" = none
  z_min : mg "min" = none
  z_repr : mg "repr" = none
section
variable {K : PySem.W.Frag} {mg : Str → Option Value}
theorem b_Unions_init (Z : Facts K mg) : Binds K Z.d_Unions_init ["self", "many"] [] := Z.F_Unions_init.binds fun _ _ _ _ _ _ us hl => match us, hl with | [_, _], _ => rfl
theorem b_Unions_root (Z : Facts K mg) : Binds K Z.d_Unions_root ["self", "point"] [] := Z.F_Unions_root.binds fun _ _ _ _ _ _ us hl => match us, hl with | [_, _], _ => rfl
theorem b_Unions_push (Z : Facts K mg) : Binds K Z.d_Unions_push ["self", "pair"] [] := Z.F_Unions_push.fun.binds fun _ _ _ _ _ _ us hl => match us, hl with | [_, _], _ => rfl
theorem b_Unions_pop (Z : Facts K mg) : Binds K Z.d_Unions_pop ["self"] [] := Z.F_Unions_pop.binds fun _ _ _ _ _ _ us hl => match us, hl with | [_], _ => rfl
theorem b_Unions_ask (Z : Facts K mg) : Binds K Z.d_Unions_ask ["self", "question"] [] := Z.F_Unions_ask.binds fun _ _ _ _ _ _ us hl => match us, hl with | [_, _], _ => rfl
theorem b_bag (Z : Facts K mg) : Binds K Z.d_bag ["_law_script", "_law_at"] [] := Z.F_bag.binds fun _ _ _ _ _ _ us hl => match us, hl with | [_, _], _ => rfl
theorem b_take (Z : Facts K mg) : Binds K Z.d_take ["_law_bag_here", "_law_count"] [] := Z.F_take.binds fun _ _ _ _ _ _ us hl => match us, hl with | [_, _], _ => rfl
theorem b_component (Z : Facts K mg) : Binds K Z.d_component ["_law_pairs", "_law_point"] [] := Z.F_component.binds fun _ _ _ _ _ _ us hl => match us, hl with | [_, _], _ => rfl
theorem b_right (Z : Facts K mg) : Binds K Z.d_right ["_law_unions", "_law_pairs", "_law_wide"] [] := Z.F_right.binds fun _ _ _ _ _ _ us hl => match us, hl with | [_, _, _], _ => rfl
theorem b_chain (Z : Facts K mg) : Binds K Z.d_chain [] [] := Z.F_chain.binds fun _ _ _ _ _ _ us hl => match us, hl with | [], _ => rfl
theorem b_law (Z : Facts K mg) : Binds K Z.d_law ["_law_script"] [] := Z.F_law.binds fun _ _ _ _ _ _ us hl => match us, hl with | [_], _ => rfl
theorem kb_Unions_init_0 (Z : Facts K mg) : KBn K Z.d_Unions_init ["self", "many"] 1 ["many"] (· ++ ·) (· ++ ·) := fun_kbn Z.F_Unions_init fun _ _ _ _ _ _ us ws h1 h2 => match us, ws, h1, h2 with | [_], [_], _, _ => rfl
theorem kb_Unions_push_0 (Z : Facts K mg) : KBn K Z.d_Unions_push ["self", "pair"] 1 ["pair"] (· ++ ·) (· ++ ·) := fun_kbn Z.F_Unions_push.fun fun _ _ _ _ _ _ us ws h1 h2 => match us, ws, h1, h2 with | [_], [_], _, _ => rfl
theorem kb_Unions_ask_0 (Z : Facts K mg) : KBn K Z.d_Unions_ask ["self", "question"] 1 ["question"] (· ++ ·) (· ++ ·) := fun_kbn Z.F_Unions_ask fun _ _ _ _ _ _ us ws h1 h2 => match us, ws, h1, h2 with | [_], [_], _, _ => rfl
end
def mkF {K : PySem.W.Frag} {h : Heap} {mg : Str → Option Value} {C_Unions a_Unions_init a_Unions_root a_Unions_push c_Unions_push P_Unions_push a_Unions_pop a_Unions_ask a_bag a_take a_component a_right a_chain a_law : Addr} (X : K.In h) (G : h.Ns mainGlobals mg) {od_Unions_init an_Unions_init od_Unions_root an_Unions_root od_Unions_push an_Unions_push od_Unions_pop an_Unions_pop od_Unions_ask an_Unions_ask od_bag an_bag od_take an_take od_component an_component od_right an_right od_chain an_chain od_law an_law : Option Addr} {sl_Unions_init sl_Unions_root sl_Unions_push sl_Unions_pop sl_Unions_ask sl_bag sl_take sl_component sl_right sl_chain sl_law : Array (Option Value)} {oc_Unions_init kV_Unions_init dc_Unions_init pm_Unions_init ct_Unions_init cd_Unions_init oc_Unions_root kV_Unions_root dc_Unions_root pm_Unions_root ct_Unions_root cd_Unions_root oc_Unions_push kV_Unions_push dc_Unions_push pm_Unions_push ct_Unions_push oc_Unions_pop kV_Unions_pop dc_Unions_pop pm_Unions_pop ct_Unions_pop cd_Unions_pop oc_Unions_ask kV_Unions_ask dc_Unions_ask pm_Unions_ask ct_Unions_ask cd_Unions_ask oc_bag kV_bag dc_bag pm_bag ct_bag cd_bag oc_take kV_take dc_take pm_take ct_take cd_take oc_component kV_component dc_component pm_component ct_component cd_component oc_right kV_right dc_right pm_right ct_right cd_right oc_chain kV_chain dc_chain pm_chain ct_chain cd_chain oc_law kV_law dc_law pm_law ct_law cd_law : Value}
    (aC_Unions : PySem.W.nsIn K mainGlobals "Unions" = some (some (.ref C_Unions)))
    (f_Unions_Unions_init : PySem.W.findIn K (.ref C_Unions) "__init__" = some (some (.ref a_Unions_init)))
    (i_Unions_init : PySem.W.isFn K (.ref a_Unions_init) = true)
    (l_Unions_init : K.lookup a_Unions_init = some ⟨oc_Unions_init, od_Unions_init, .func (PySem.W.fnOf "__init__" "Unions.__init__" (defArgs s_Unions_init) (defBody s_Unions_init) (defScope s_Unions_init) .none kV_Unions_init dc_Unions_init pm_Unions_init an_Unions_init cd_Unions_init ct_Unions_init), sl_Unions_init⟩)
    (e_Unions_init : PySem.W.codeIn K cd_Unions_init "Unions.__init__" = true)
    (k_Unions_init : PySem.W.keepIn K (.ref a_Unions_init) = true)
    (f_Unions_Unions_root : PySem.W.findIn K (.ref C_Unions) "root" = some (some (.ref a_Unions_root)))
    (i_Unions_root : PySem.W.isFn K (.ref a_Unions_root) = true)
    (l_Unions_root : K.lookup a_Unions_root = some ⟨oc_Unions_root, od_Unions_root, .func (PySem.W.fnOf "root" "Unions.root" (defArgs s_Unions_root) (defBody s_Unions_root) (defScope s_Unions_root) .none kV_Unions_root dc_Unions_root pm_Unions_root an_Unions_root cd_Unions_root ct_Unions_root), sl_Unions_root⟩)
    (e_Unions_root : PySem.W.codeIn K cd_Unions_root "Unions.root" = true)
    (k_Unions_root : PySem.W.keepIn K (.ref a_Unions_root) = true)
    (f_Unions_Unions_push : PySem.W.findIn K (.ref C_Unions) "push" = some (some (.ref a_Unions_push)))
    (i_Unions_push : PySem.W.isFn K (.ref a_Unions_push) = true)
    (l_Unions_push : K.lookup a_Unions_push = some ⟨oc_Unions_push, od_Unions_push, .func (PySem.W.fnOf "push" "Unions.push" (defArgs s_Unions_push) (defBody s_Unions_push) (defScope s_Unions_push) .none kV_Unions_push dc_Unions_push pm_Unions_push an_Unions_push (.ref c_Unions_push) ct_Unions_push), sl_Unions_push⟩)
    (e_Unions_push : PySem.W.codeIn K (.ref c_Unions_push) "Unions.push" = true)
    (k_Unions_push : PySem.W.keepIn K (.ref a_Unions_push) = true)
    (h_Unions_push : PySem.W.codeHdIn K c_Unions_push P_Unions_push = true)
    (t_Unions_push : K.lookup P_Unions_push = none)
    (f_Unions_Unions_pop : PySem.W.findIn K (.ref C_Unions) "pop" = some (some (.ref a_Unions_pop)))
    (i_Unions_pop : PySem.W.isFn K (.ref a_Unions_pop) = true)
    (l_Unions_pop : K.lookup a_Unions_pop = some ⟨oc_Unions_pop, od_Unions_pop, .func (PySem.W.fnOf "pop" "Unions.pop" (defArgs s_Unions_pop) (defBody s_Unions_pop) (defScope s_Unions_pop) .none kV_Unions_pop dc_Unions_pop pm_Unions_pop an_Unions_pop cd_Unions_pop ct_Unions_pop), sl_Unions_pop⟩)
    (e_Unions_pop : PySem.W.codeIn K cd_Unions_pop "Unions.pop" = true)
    (k_Unions_pop : PySem.W.keepIn K (.ref a_Unions_pop) = true)
    (f_Unions_Unions_ask : PySem.W.findIn K (.ref C_Unions) "ask" = some (some (.ref a_Unions_ask)))
    (i_Unions_ask : PySem.W.isFn K (.ref a_Unions_ask) = true)
    (l_Unions_ask : K.lookup a_Unions_ask = some ⟨oc_Unions_ask, od_Unions_ask, .func (PySem.W.fnOf "ask" "Unions.ask" (defArgs s_Unions_ask) (defBody s_Unions_ask) (defScope s_Unions_ask) .none kV_Unions_ask dc_Unions_ask pm_Unions_ask an_Unions_ask cd_Unions_ask ct_Unions_ask), sl_Unions_ask⟩)
    (e_Unions_ask : PySem.W.codeIn K cd_Unions_ask "Unions.ask" = true)
    (k_Unions_ask : PySem.W.keepIn K (.ref a_Unions_ask) = true)
    (n_bag : PySem.W.nsIn K mainGlobals "_law_bag" = some (some (.ref a_bag)))
    (l_bag : K.lookup a_bag = some ⟨oc_bag, od_bag, .func (PySem.W.fnOf "_law_bag" "_law_bag" (defArgs s_bag) (defBody s_bag) (defScope s_bag) .none kV_bag dc_bag pm_bag an_bag cd_bag ct_bag), sl_bag⟩)
    (e_bag : PySem.W.codeIn K cd_bag "_law_bag" = true)
    (k_bag : PySem.W.keepIn K (.ref a_bag) = true)
    (n_take : PySem.W.nsIn K mainGlobals "_law_take" = some (some (.ref a_take)))
    (l_take : K.lookup a_take = some ⟨oc_take, od_take, .func (PySem.W.fnOf "_law_take" "_law_take" (defArgs s_take) (defBody s_take) (defScope s_take) .none kV_take dc_take pm_take an_take cd_take ct_take), sl_take⟩)
    (e_take : PySem.W.codeIn K cd_take "_law_take" = true)
    (k_take : PySem.W.keepIn K (.ref a_take) = true)
    (n_component : PySem.W.nsIn K mainGlobals "_law_component" = some (some (.ref a_component)))
    (l_component : K.lookup a_component = some ⟨oc_component, od_component, .func (PySem.W.fnOf "_law_component" "_law_component" (defArgs s_component) (defBody s_component) (defScope s_component) .none kV_component dc_component pm_component an_component cd_component ct_component), sl_component⟩)
    (e_component : PySem.W.codeIn K cd_component "_law_component" = true)
    (k_component : PySem.W.keepIn K (.ref a_component) = true)
    (n_right : PySem.W.nsIn K mainGlobals "_law_right" = some (some (.ref a_right)))
    (l_right : K.lookup a_right = some ⟨oc_right, od_right, .func (PySem.W.fnOf "_law_right" "_law_right" (defArgs s_right) (defBody s_right) (defScope s_right) .none kV_right dc_right pm_right an_right cd_right ct_right), sl_right⟩)
    (e_right : PySem.W.codeIn K cd_right "_law_right" = true)
    (k_right : PySem.W.keepIn K (.ref a_right) = true)
    (n_chain : PySem.W.nsIn K mainGlobals "_law_chain" = some (some (.ref a_chain)))
    (l_chain : K.lookup a_chain = some ⟨oc_chain, od_chain, .func (PySem.W.fnOf "_law_chain" "_law_chain" (defArgs s_chain) (defBody s_chain) (defScope s_chain) .none kV_chain dc_chain pm_chain an_chain cd_chain ct_chain), sl_chain⟩)
    (e_chain : PySem.W.codeIn K cd_chain "_law_chain" = true)
    (k_chain : PySem.W.keepIn K (.ref a_chain) = true)
    (n_law : PySem.W.nsIn K mainGlobals "law" = some (some (.ref a_law)))
    (l_law : K.lookup a_law = some ⟨oc_law, od_law, .func (PySem.W.fnOf "law" "law" (defArgs s_law) (defBody s_law) (defScope s_law) .none kV_law dc_law pm_law an_law cd_law ct_law), sl_law⟩)
    (e_law : PySem.W.codeIn K cd_law "law" = true)
    (k_law : PySem.W.keepIn K (.ref a_law) = true)
    (pg_Unions : PySem.W.plainGet K C_Unions Str.empty = true)
    (hd_Unions : PySem.W.hasDictIn K C_Unions = true)
    (po_Unions : PySem.W.plainOver K C_Unions = true)
    (sa_Unions : PySem.W.findIn K (.ref C_Unions) "__setattr__" = some (some (.builtin "object.__setattr__")))
    (mk_Unions : PySem.W.makesIn K C_Unions = true)
    (kc_Unions : PySem.W.keepIn K (.ref C_Unions) = true)
    (na_Unions_above : PySem.W.findIn K (.ref C_Unions) "above" = some none)
    (na_Unions_sizes_of : PySem.W.findIn K (.ref C_Unions) "sizes_of" = some none)
    (na_Unions_groups : PySem.W.findIn K (.ref C_Unions) "groups" = some none)
    (na_Unions_lowered : PySem.W.findIn K (.ref C_Unions) "lowered" = some none)
    (z_list : PySem.W.nsIn K mainGlobals "list" = some none)
    (z_range : PySem.W.nsIn K mainGlobals "range" = some none)
    (z_sorted : PySem.W.nsIn K mainGlobals "sorted" = some none)
    (z_len : PySem.W.nsIn K mainGlobals "len" = some none)
    (z_abs : PySem.W.nsIn K mainGlobals "abs" = some none)
    (z_max : PySem.W.nsIn K mainGlobals "max" = some none)
    (z_min : PySem.W.nsIn K mainGlobals "min" = some none)
    (z_repr : PySem.W.nsIn K mainGlobals "repr" = some none) : Facts K mg :=
  ⟨a_Unions_init, _, fun_mk (st := s_Unions_init) l_Unions_init e_Unions_init k_Unions_init, a_Unions_root, _, fun_mk (st := s_Unions_root) l_Unions_root e_Unions_root k_Unions_root, a_Unions_push, _, c_Unions_push, P_Unions_push, func_mk (st := s_Unions_push) l_Unions_push e_Unions_push k_Unions_push, h_Unions_push, t_Unions_push, a_Unions_pop, _, fun_mk (st := s_Unions_pop) l_Unions_pop e_Unions_pop k_Unions_pop, a_Unions_ask, _, fun_mk (st := s_Unions_ask) l_Unions_ask e_Unions_ask k_Unions_ask, a_bag, _, fun_mk (st := s_bag) l_bag e_bag k_bag, PySem.W.mg_of X G n_bag, a_take, _, fun_mk (st := s_take) l_take e_take k_take, PySem.W.mg_of X G n_take, a_component, _, fun_mk (st := s_component) l_component e_component k_component, PySem.W.mg_of X G n_component, a_right, _, fun_mk (st := s_right) l_right e_right k_right, PySem.W.mg_of X G n_right, a_chain, _, fun_mk (st := s_chain) l_chain e_chain k_chain, PySem.W.mg_of X G n_chain, a_law, _, fun_mk (st := s_law) l_law e_law k_law, PySem.W.mg_of X G n_law, C_Unions, ⟨pg_Unions, hd_Unions, po_Unions, sa_Unions⟩, PySem.W.mg_of X G aC_Unions, na_Unions_above, na_Unions_sizes_of, na_Unions_groups, na_Unions_lowered, ⟨mk_Unions, f_Unions_Unions_init, i_Unions_init, kc_Unions⟩, ⟨f_Unions_Unions_root, i_Unions_root, k_Unions_root⟩, ⟨f_Unions_Unions_push, i_Unions_push, k_Unions_push⟩, ⟨f_Unions_Unions_pop, i_Unions_pop, k_Unions_pop⟩, ⟨f_Unions_Unions_ask, i_Unions_ask, k_Unions_ask⟩, PySem.W.mg_none_of X G z_list, PySem.W.mg_none_of X G z_range, PySem.W.mg_none_of X G z_sorted, PySem.W.mg_none_of X G z_len, PySem.W.mg_none_of X G z_abs, PySem.W.mg_none_of X G z_max, PySem.W.mg_none_of X G z_min, PySem.W.mg_none_of X G z_repr⟩
end Og
namespace Og
inductive RootN (up : List Nat) : Nat → Nat → Nat → Prop
  | stop {x : Nat} : up[x]? = some x → RootN up x x 0
  | step {x y r k : Nat} : up[x]? = some y → y ≠ x → RootN up y r k → RootN up x r (k + 1)
def Root (up : List Nat) (x r : Nat) : Prop := ∃ k, RootN up x r k
inductive Conn (ps : List (Nat × Nat)) : Nat → Nat → Prop
  | refl (x : Nat) : Conn ps x x
  | fwd {x a b : Nat} : Conn ps x a → (a, b) ∈ ps → Conn ps x b
  | bwd {x a b : Nat} : Conn ps x b → (a, b) ∈ ps → Conn ps x a
inductive St (n : Nat) : List (Nat × Nat) → List Nat → List Nat → Int → List (Option Nat) → Prop
  | init : St n [] (List.range n) (List.replicate n 1) n []
  | same {ps up sz g low a b r} : St n ps up sz g low → a < n → b < n → Root up a r → Root up b r → St n (ps ++ [(a, b)]) up sz g (low ++ [none])
  | join {ps up sz g low a b s t i j} : St n ps up sz g low → a < n → b < n → (Root up a s ∧ Root up b t ∨ Root up a t ∧ Root up b s) → s ≠ t → sz[s]? = some i → sz[t]? = some j →
      St n (ps ++ [(a, b)]) (up.set s t) (sz.set t (j + i)) (g - 1) (low ++ [some s])
theorem RootN.fix {up x r k} (h : RootN up x r k) : up[r]? = some r := by
  induction h with
  | stop h => exact h
  | step _ _ _ ih => exact ih
theorem Root.fix {up x r} (h : Root up x r) : up[r]? = some r := let ⟨_, h⟩ := h; h.fix
theorem RootN.uniq {up x r k} (h : RootN up x r k) : ∀ {q j}, RootN up x q j → r = q := by
  induction h with
  | stop h =>
    intro q j h2
    cases h2 with
    | stop _ => rfl
    | step h3 ne _ =>
      rw [h] at h3
      exact absurd (Option.some.inj h3).symm ne
  | step h ne _ ih =>
    intro q j h2
    cases h2 with
    | stop h3 =>
      rw [h] at h3
      exact absurd (Option.some.inj h3) ne
    | step h3 _ h4 =>
      rw [h] at h3
      obtain rfl := Option.some.inj h3
      exact ih h4
theorem Root.uniq {up x r q} (h : Root up x r) (h2 : Root up x q) : r = q := let ⟨_, h⟩ := h; let ⟨_, h2⟩ := h2; h.uniq h2
theorem Root.self {up r} (h : up[r]? = some r) : Root up r r := ⟨0, .stop h⟩
theorem Root.of_fix {up x r} (h : Root up x r) (hx : up[x]? = some x) : r = x := h.uniq (.self hx)
theorem Root.set {up x r s t} (h : Root up x r) (hs : up[s]? = some s) (ht : up[t]? = some t) (ne : s ≠ t) : Root (up.set s t) x (if r = s then t else r) := by
  obtain ⟨k, h⟩ := h
  have ls : s < up.length := (List.getElem?_eq_some_iff.mp hs).1
  have Rt : Root (up.set s t) t t := .self (by rw [List.getElem?_set_ne ne]; exact ht)
  induction h with
  | @stop x h =>
    by_cases e : x = s
    · subst e
      rw [if_pos rfl]
      obtain ⟨k, z⟩ := Rt
      exact ⟨k + 1, .step (List.getElem?_set_self ls) (Ne.symm ne) z⟩
    · rw [if_neg e]
      exact .self (by rw [List.getElem?_set_ne (Ne.symm e)]; exact h)
  | @step x y r k h ny _ ih =>
    obtain ⟨j, z⟩ := ih
    refine ⟨j + 1, .step ?_ ny z⟩
    rw [List.getElem?_set_ne]
    · exact h
    · rintro rfl
      rw [hs] at h
      exact ny (Option.some.inj h).symm
section
variable {ps : List (Nat × Nat)} {x y z a b : Nat}
theorem Conn.trans (h : Conn ps x y) (h2 : Conn ps y z) : Conn ps x z := by
  induction h2 with
  | refl => exact h
  | fwd _ m ih => exact .fwd ih m
  | bwd _ m ih => exact .bwd ih m
theorem Conn.symm (h : Conn ps x y) : Conn ps y x := by
  induction h with
  | refl => exact .refl _
  | fwd _ m ih => exact Conn.trans (.bwd (.refl _) m) ih
  | bwd _ m ih => exact Conn.trans (.fwd (.refl _) m) ih
theorem Conn.mono {qs : List (Nat × Nat)} (h : Conn ps x y) (s : ∀ p ∈ ps, p ∈ qs) : Conn qs x y := by
  induction h with
  | refl => exact .refl _
  | fwd _ m ih => exact .fwd ih (s _ m)
  | bwd _ m ih => exact .bwd ih (s _ m)
theorem Conn.inr {n : Nat} (h : Conn ps x y) (s : ∀ p ∈ ps, p.1 < n ∧ p.2 < n) (hx : x < n) : y < n := by
  induction h with
  | refl => exact hx
  | fwd _ m _ => exact (s _ m).2
  | bwd _ m _ => exact (s _ m).1
theorem conn_snoc : Conn (ps ++ [(a, b)]) x y ↔ Conn ps x y ∨ (Conn ps x a ∧ Conn ps b y) ∨ (Conn ps x b ∧ Conn ps a y) := by
  constructor
  · intro h
    induction h with
    | refl => exact .inl (.refl _)
    | fwd _ m ih =>
      rcases List.mem_append.mp m with m | m
      · rcases ih with h | ⟨h1, h2⟩ | ⟨h1, h2⟩
        · exact .inl (.fwd h m)
        · exact .inr (.inl ⟨h1, .fwd h2 m⟩)
        · exact .inr (.inr ⟨h1, .fwd h2 m⟩)
      · cases List.mem_singleton.mp m
        rcases ih with h | ⟨h1, h2⟩ | ⟨h1, h2⟩
        · exact .inr (.inl ⟨h, .refl _⟩)
        · exact .inr (.inl ⟨h1, .refl _⟩)
        · exact .inl h1
    | bwd _ m ih =>
      rcases List.mem_append.mp m with m | m
      · rcases ih with h | ⟨h1, h2⟩ | ⟨h1, h2⟩
        · exact .inl (.bwd h m)
        · exact .inr (.inl ⟨h1, .bwd h2 m⟩)
        · exact .inr (.inr ⟨h1, .bwd h2 m⟩)
      · cases List.mem_singleton.mp m
        rcases ih with h | ⟨h1, h2⟩ | ⟨h1, h2⟩
        · exact .inr (.inr ⟨h, .refl _⟩)
        · exact .inl h1
        · exact .inr (.inr ⟨h1, .refl _⟩)
  · have up : ∀ {u v}, Conn ps u v → Conn (ps ++ [(a, b)]) u v := fun h => h.mono fun p m => List.mem_append_left _ m
    have ab : (a, b) ∈ ps ++ [(a, b)] := List.mem_append_right _ (List.mem_singleton.mpr rfl)
    rintro (h | ⟨h1, h2⟩ | ⟨h1, h2⟩)
    · exact up h
    · exact (Conn.fwd (up h1) ab).trans (up h2)
    · exact (Conn.bwd (up h1) ab).trans (up h2)
end
structure Good (n : Nat) (ps : List (Nat × Nat)) (up sz : List Nat) (g : Int) : Prop where
  lu : up.length = n
  ls : sz.length = n
  root : ∀ x, x < n → ∃ r, r < n ∧ Root up x r
  conn : ∀ x y r q, x < n → y < n → Root up x r → Root up y q → (r = q ↔ Conn ps x y)
  size : ∀ x r, x < n → Root up x r → ∃ l : List Nat, l.Nodup ∧ (∀ y, y ∈ l ↔ y < n ∧ Conn ps x y) ∧ sz[r]? = some l.length
  groups : ∃ l : List Nat, l.Nodup ∧ (∀ y, y ∈ l ↔ y < n ∧ ∀ z, Conn ps y z → y ≤ z) ∧ g = l.length
  inr : ∀ p ∈ ps, p.1 < n ∧ p.2 < n
theorem same_len {l m : List Nat} (h1 : l.Nodup) (h2 : m.Nodup) (e : ∀ y, y ∈ l ↔ y ∈ m) : l.length = m.length := ((List.perm_ext_iff_of_nodup h1 h2).mpr e).length_eq
theorem good_init (n : Nat) : Good n [] (List.range n) (List.replicate n 1) n := by
  have fx : ∀ x, x < n → (List.range n)[x]? = some x := fun x h => List.getElem?_range h
  have c0 : ∀ {x y}, Conn [] x y → x = y := fun {x y} h => by
    induction h with
    | refl => rfl
    | fwd _ m _ => cases m
    | bwd _ m _ => cases m
  refine ⟨List.length_range, List.length_replicate, fun x h => ⟨x, h, .self (fx x h)⟩, fun x y r q hx hy h1 h2 => ?_, fun x r hx h => ?_, ⟨List.range n, List.nodup_range, fun y => ?_, by simp⟩, fun p m => nomatch m⟩
  · obtain rfl := h1.of_fix (fx x hx)
    obtain rfl := h2.of_fix (fx y hy)
    exact ⟨fun e => by subst e; exact .refl _, fun h => c0 h⟩
  · obtain rfl := h.of_fix (fx x hx)
    refine ⟨[r], List.nodup_cons.mpr ⟨(fun z => nomatch z), List.nodup_nil⟩, fun y => ?_, ?_⟩
    · rw [List.mem_singleton]
      exact ⟨fun e => by subst e; exact ⟨hx, .refl _⟩, fun h => (c0 h.2).symm⟩
    · simp [hx]
  · rw [List.mem_range]
    exact ⟨fun h => ⟨h, fun z hz => Nat.le_of_eq (c0 hz)⟩, fun h => h.1⟩
theorem exists_least {P : Nat → Prop} : ∀ k, P k → ∃ m, P m ∧ ∀ j, P j → m ≤ j := by
  intro k
  induction k using Nat.strongRecOn with
  | ind k ih =>
    intro hk
    by_cases h : ∃ j, j < k ∧ P j
    · obtain ⟨j, hj, pj⟩ := h
      exact ih j hj pj
    · exact ⟨k, hk, fun j pj => Nat.le_of_not_lt fun z => h ⟨j, z, pj⟩⟩
theorem good_same {n ps up sz g a b r} (G : Good n ps up sz g) (ha : a < n) (hb : b < n) (h1 : Root up a r) (h2 : Root up b r) : Good n (ps ++ [(a, b)]) up sz g := by
  have ab : Conn ps a b := (G.conn a b r r ha hb h1 h2).mp rfl
  have e : ∀ {x y}, Conn (ps ++ [(a, b)]) x y ↔ Conn ps x y := fun {x y} => by
    rw [conn_snoc]
    exact ⟨fun h => h.elim id fun h => h.elim (fun h => h.1.trans (ab.trans h.2)) fun h => h.1.trans (ab.symm.trans h.2), .inl⟩
  refine ⟨G.lu, G.ls, G.root, fun x y r q hx hy h1 h2 => by rw [e]; exact G.conn x y r q hx hy h1 h2, fun x r hx h => ?_, ?_, fun p m => ?_⟩
  · obtain ⟨l, n1, n2, n3⟩ := G.size x r hx h
    exact ⟨l, n1, fun y => by rw [e]; exact n2 y, n3⟩
  · obtain ⟨l, n1, n2, n3⟩ := G.groups
    refine ⟨l, n1, fun y => ?_, n3⟩
    rw [n2]
    exact ⟨fun h => ⟨h.1, fun z hz => h.2 z (e.mp hz)⟩, fun h => ⟨h.1, fun z hz => h.2 z (e.mpr hz)⟩⟩
  · rcases List.mem_append.mp m with m | m
    · exact G.inr p m
    · cases List.mem_singleton.mp m
      exact ⟨ha, hb⟩
/-- s's class goes to t -/
theorem good_join {n ps up sz g a b s t i j} (G : Good n ps up sz g) (ha : a < n) (hb : b < n) (hab : Root up a s ∧ Root up b t ∨ Root up a t ∧ Root up b s) (ne : s ≠ t) (hi : sz[s]? = some i) (hj : sz[t]? = some j) :
    Good n (ps ++ [(a, b)]) (up.set s t) (sz.set t (j + i)) (g - 1) := by
  have hs : up[s]? = some s := hab.elim (fun h => h.1.fix) fun h => h.2.fix
  have ht : up[t]? = some t := hab.elim (fun h => h.2.fix) fun h => h.1.fix
  have ls : s < n := by rw [← G.lu]; exact (List.getElem?_eq_some_iff.mp hs).1
  have lt : t < n := by rw [← G.lu]; exact (List.getElem?_eq_some_iff.mp ht).1
  have Rs : Root up s s := .self hs
  have Rt : Root up t t := .self ht
  -- the new relation, by the roots s and t
  have cn : ∀ {x y}, Conn (ps ++ [(a, b)]) x y ↔ Conn ps x y ∨ (Conn ps x s ∧ Conn ps t y) ∨ (Conn ps x t ∧ Conn ps s y) := fun {x y} => by
    rw [conn_snoc]
    rcases hab with ⟨h1, h2⟩ | ⟨h1, h2⟩
    · have as := (G.conn a s s s ha ls h1 Rs).mp rfl
      have bt := (G.conn b t t t hb lt h2 Rt).mp rfl
      constructor
      · rintro (h | ⟨u, v⟩ | ⟨u, v⟩)
        · exact .inl h
        · exact .inr (.inl ⟨u.trans as, bt.symm.trans v⟩)
        · exact .inr (.inr ⟨u.trans bt, as.symm.trans v⟩)
      · rintro (h | ⟨u, v⟩ | ⟨u, v⟩)
        · exact .inl h
        · exact .inr (.inl ⟨u.trans as.symm, bt.trans v⟩)
        · exact .inr (.inr ⟨u.trans bt.symm, as.trans v⟩)
    · have at_ := (G.conn a t t t ha lt h1 Rt).mp rfl
      have bs := (G.conn b s s s hb ls h2 Rs).mp rfl
      constructor
      · rintro (h | ⟨u, v⟩ | ⟨u, v⟩)
        · exact .inl h
        · exact .inr (.inr ⟨u.trans at_, bs.symm.trans v⟩)
        · exact .inr (.inl ⟨u.trans bs, at_.symm.trans v⟩)
      · rintro (h | ⟨u, v⟩ | ⟨u, v⟩)
        · exact .inl h
        · exact .inr (.inr ⟨u.trans bs.symm, at_.trans v⟩)
        · exact .inr (.inl ⟨u.trans at_.symm, bs.trans v⟩)
  have inr' : ∀ p ∈ ps ++ [(a, b)], p.1 < n ∧ p.2 < n := fun p m => by
    rcases List.mem_append.mp m with m | m
    · exact G.inr p m
    · cases List.mem_singleton.mp m
      exact ⟨ha, hb⟩
  -- the roots before, from those behind
  have back : ∀ {x r'}, x < n → Root (up.set s t) x r' → ∃ r, Root up x r ∧ r' = (if r = s then t else r) := fun {x r'} hx h => by
    obtain ⟨r, _, hr⟩ := G.root x hx
    exact ⟨r, hr, h.uniq (hr.set hs ht ne)⟩
  have st : ¬ Conn ps s t := fun h => ne ((G.conn s t s t ls lt Rs Rt).mpr h)
  refine ⟨by rw [List.length_set]; exact G.lu, by rw [List.length_set]; exact G.ls, fun x hx => ?_, fun x y r' q' hx hy h1 h2 => ?_, fun x r' hx h => ?_, ?_, inr'⟩
  · obtain ⟨r, hr, h⟩ := G.root x hx
    refine ⟨_, ?_, h.set hs ht ne⟩
    split
    · exact lt
    · exact hr
  · obtain ⟨r, hr, rfl⟩ := back hx h1
    obtain ⟨q, hq, rfl⟩ := back hy h2
    have xs := G.conn x s r s hx ls hr Rs
    have xt := G.conn x t r t hx lt hr Rt
    have ys := G.conn s y s q ls hy Rs hq
    have yt := G.conn t y t q lt hy Rt hq
    have xy := G.conn x y r q hx hy hr hq
    rw [cn, ← xs, ← xt, ← ys, ← yt, ← xy]
    by_cases c1 : r = s <;> by_cases c2 : q = s
    · rw [if_pos c1, if_pos c2]
      exact ⟨fun _ => .inl (c1.trans c2.symm), fun _ => rfl⟩
    · rw [if_pos c1, if_neg c2]
      constructor
      · intro e
        exact .inr (.inl ⟨c1, e⟩)
      · rintro (e | ⟨_, e⟩ | ⟨_, e⟩)
        · exact absurd (e.symm.trans c1) c2
        · exact e
        · exact absurd e.symm c2
    · rw [if_neg c1, if_pos c2]
      constructor
      · intro e
        exact .inr (.inr ⟨e, c2.symm⟩)
      · rintro (e | ⟨e, _⟩ | ⟨e, _⟩)
        · exact absurd (e.trans c2) c1
        · exact absurd e c1
        · exact e
    · rw [if_neg c1, if_neg c2]
      constructor
      · exact .inl
      · rintro (e | ⟨e, _⟩ | ⟨_, e⟩)
        · exact e
        · exact absurd e c1
        · exact absurd e.symm c2
  · obtain ⟨r, hr, rfl⟩ := back hx h
    have lt' : t < sz.length := by rw [G.ls]; exact lt
    obtain ⟨lS, a1, a2, a3⟩ := G.size s s ls Rs
    obtain ⟨lT, b1, b2, b3⟩ := G.size t t lt Rt
    rw [hi] at a3
    rw [hj] at b3
    obtain rfl := Option.some.inj a3
    obtain rfl := Option.some.inj b3
    by_cases c : r = s ∨ r = t
    · have e : (if r = s then t else r) = t := by
        rcases c with c | c
        · rw [if_pos c]
        · split
          · rfl
          · exact c
      rw [e]
      refine ⟨lT ++ lS, List.nodup_append.mpr ⟨b1, a1, fun y h1 z h2 e => ?_⟩, fun y => ?_, by rw [List.getElem?_set_self lt', List.length_append]⟩
      · subst e
        exact st (((a2 y).mp h2).2.trans ((b2 y).mp h1).2.symm)
      · rw [List.mem_append, a2, b2, cn]
        have xs := G.conn x s r s hx ls hr Rs
        have xt := G.conn x t r t hx lt hr Rt
        rcases c with c | c
        · have xs' := xs.mp c
          constructor
          · rintro (⟨h1, h2⟩ | ⟨h1, h2⟩)
            · exact ⟨h1, .inr (.inl ⟨xs', h2⟩)⟩
            · exact ⟨h1, .inl (xs'.trans h2)⟩
          · rintro ⟨h1, h2 | ⟨_, h2⟩ | ⟨_, h2⟩⟩
            · exact .inr ⟨h1, xs'.symm.trans h2⟩
            · exact .inl ⟨h1, h2⟩
            · exact .inr ⟨h1, h2⟩
        · have xt' := xt.mp c
          constructor
          · rintro (⟨h1, h2⟩ | ⟨h1, h2⟩)
            · exact ⟨h1, .inl (xt'.trans h2)⟩
            · exact ⟨h1, .inr (.inr ⟨xt', h2⟩)⟩
          · rintro ⟨h1, h2 | ⟨_, h2⟩ | ⟨_, h2⟩⟩
            · exact .inl ⟨h1, xt'.symm.trans h2⟩
            · exact .inl ⟨h1, h2⟩
            · exact .inr ⟨h1, h2⟩
    · have c1 : r ≠ s := fun e => c (.inl e)
      have c2 : r ≠ t := fun e => c (.inr e)
      rw [if_neg c1]
      obtain ⟨l, n1, n2, n3⟩ := G.size x r hx hr
      refine ⟨l, n1, fun y => ?_, by rw [List.getElem?_set_ne (Ne.symm c2)]; exact n3⟩
      rw [n2, cn]
      have xs := G.conn x s r s hx ls hr Rs
      have xt := G.conn x t r t hx lt hr Rt
      exact ⟨fun h => ⟨h.1, .inl h.2⟩, fun h => ⟨h.1, h.2.elim id fun h => h.elim (fun h => absurd (xs.mpr h.1) c1) fun h => absurd (xt.mpr h.1) c2⟩⟩
  · obtain ⟨l, n1, n2, n3⟩ := G.groups
    obtain ⟨ms, m1, m2⟩ := exists_least (P := fun z => Conn ps s z) s (.refl _)
    obtain ⟨mt, k1, k2⟩ := exists_least (P := fun z => Conn ps t z) t (.refl _)
    -- the greater of the two leasts is least no more
    have key : ∀ u v mu mv, Conn ps u mu → (∀ j, Conn ps u j → mu ≤ j) → Conn ps v mv → (∀ j, Conn ps v j → mv ≤ j) → ¬ Conn ps u v → u < n → v < n → mu < mv →
        (∀ {x y}, Conn (ps ++ [(a, b)]) x y ↔ Conn ps x y ∨ (Conn ps x u ∧ Conn ps v y) ∨ (Conn ps x v ∧ Conn ps u y)) →
        ∃ l : List Nat, l.Nodup ∧ (∀ y, y ∈ l ↔ y < n ∧ ∀ z, Conn (ps ++ [(a, b)]) y z → y ≤ z) ∧ g - 1 = l.length := by
      intro u v mu mv p1 p2 q1 q2 nuv hu hv lt c
      have mvl : mv ∈ l := (n2 mv).mpr ⟨q1.inr G.inr hv, fun z hz => q2 z (q1.trans hz)⟩
      refine ⟨l.erase mv, n1.erase mv, fun y => ?_, ?_⟩
      · rw [n1.mem_erase_iff, n2]
        constructor
        · rintro ⟨hne, hy, h⟩
          refine ⟨hy, fun z hz => ?_⟩
          rcases c.mp hz with hz | ⟨h1, h2⟩ | ⟨h1, h2⟩
          · exact h z hz
          · have e1 : y = mu := Nat.le_antisymm (h mu (h1.trans p1)) (p2 y h1.symm)
            have := q2 z h2
            omega
          · exact absurd (Nat.le_antisymm (h mv (h1.trans q1)) (q2 y h1.symm)) hne
        · rintro ⟨hy, h⟩
          refine ⟨?_, hy, fun z hz => h z (c.mpr (.inl hz))⟩
          rintro rfl
          have := h mu (c.mpr (.inr (.inr ⟨q1.symm, p1⟩)))
          omega
      · rw [List.length_erase_of_mem mvl]
        have := List.length_pos_of_mem mvl
        omega
    rcases Nat.lt_or_ge ms mt with h | h
    · exact key s t ms mt m1 m2 k1 k2 st ls lt h cn
    · have hne : mt ≠ ms := fun e => st (m1.trans (by rw [← e]; exact k1.symm))
      exact key t s mt ms k1 k2 m1 m2 (fun z => st z.symm) lt ls (by omega) (fun {x y} => cn.trans ⟨fun h => h.elim .inl fun h => .inr (h.elim .inr .inl), fun h => h.elim .inl fun h => .inr (h.elim .inr .inl)⟩)
theorem St.good {n ps up sz g low} (h : St n ps up sz g low) : Good n ps up sz g := by
  induction h with
  | init => exact good_init n
  | same _ ha hb h1 h2 ih => exact good_same ih ha hb h1 h2
  | join _ ha hb hab ne hi hj ih => exact good_join ih ha hb hab ne hi hj
theorem St.len {n ps up sz g low} (h : St n ps up sz g low) : low.length = ps.length := by
  induction h with
  | init => rfl
  | same _ _ _ _ _ ih => simp [ih]
  | join _ _ _ _ _ _ _ ih => simp [ih]
/-- what a pop finds -/
theorem St.pop {n ps up sz g low p} (h : St n (ps ++ [p]) up sz g low) : (∃ lo, low = lo ++ [none] ∧ St n ps up sz g lo) ∨
    ∃ lo s t i j, low = lo ++ [some s] ∧ s < n ∧ t < n ∧ s ≠ t ∧ up[s]? = some t ∧ sz[t]? = some (j + i) ∧ sz[s]? = some i ∧ St n ps (up.set s s) (sz.set t j) (g + 1) lo := by
  generalize e : ps ++ [p] = qs at h
  cases h with
  | init => simp at e
  | same h _ _ _ _ =>
    obtain ⟨rfl, e2⟩ := List.append_inj' e rfl
    exact .inl ⟨_, rfl, h⟩
  | @join ps' up' sz' g' low' a b s t i j h ha hb hab ne hi hj =>
    obtain ⟨rfl, e2⟩ := List.append_inj' e rfl
    have G := h.good
    have hs : up'[s]? = some s := hab.elim (fun h => h.1.fix) fun h => h.2.fix
    have ht : up'[t]? = some t := hab.elim (fun h => h.2.fix) fun h => h.1.fix
    have ls := (List.getElem?_eq_some_iff.mp hs).1
    have lt := (List.getElem?_eq_some_iff.mp ht).1
    have lt' := (List.getElem?_eq_some_iff.mp hj).1
    refine .inr ⟨low', s, t, i, j, rfl, by rw [← G.lu]; exact ls, by rw [← G.lu]; exact lt, ne, List.getElem?_set_self ls, List.getElem?_set_self lt', by rw [List.getElem?_set_ne (Ne.symm ne)]; exact hi, ?_⟩
    have e1 : (up'.set s t).set s s = up' := by
      rw [List.set_set]
      apply List.ext_getElem?
      intro k
      by_cases c : k = s
      · subst c
        rw [List.getElem?_set_self ls, hs]
      · rw [List.getElem?_set_ne (Ne.symm c)]
    have e3 : (sz'.set t (j + i)).set t j = sz' := by
      rw [List.set_set]
      apply List.ext_getElem?
      intro k
      by_cases c : k = t
      · subst c
        rw [List.getElem?_set_self lt', hj]
      · rw [List.getElem?_set_ne (Ne.symm c)]
    rw [e1, e3, show g' - 1 + 1 = g' by omega]
    exact h
/-! ### the plain search -/
def sweepP (F : List Nat) (p : Nat × Nat) : List Nat := if decide (p.1 ∈ F) != decide (p.2 ∈ F) then F ++ [if p.1 ∈ F then p.2 else p.1] else F
def sweep (ps : List (Nat × Nat)) (F : List Nat) : List Nat := ps.foldl sweepP F
def sweeps (ps : List (Nat × Nat)) : Nat → List Nat → List Nat
  | 0, F => F
  | k + 1, F => sweep ps (sweeps ps k F)
def comp (ps : List (Nat × Nat)) (x : Nat) : List Nat := sweeps ps ps.length [x]
theorem sweepP_mem (F : List Nat) (p : Nat × Nat) : ∀ y, y ∈ F → y ∈ sweepP F p := fun y h => by
  unfold sweepP
  split
  · exact List.mem_append_left _ h
  · exact h
theorem sweepP_nodup {F : List Nat} {p : Nat × Nat} (h : F.Nodup) : (sweepP F p).Nodup := by
  unfold sweepP
  split
  · rename_i c
    refine List.nodup_append.mpr ⟨h, List.nodup_cons.mpr ⟨(fun z => nomatch z), List.nodup_nil⟩, fun a ha b hb e => ?_⟩
    subst e
    rw [List.mem_singleton] at hb
    split at hb
    · rename_i d
      subst hb
      simp [d, ha] at c
    · rename_i d
      subst hb
      exact d ha
  · exact h
theorem sweepP_conn {ps : List (Nat × Nat)} {F : List Nat} {p : Nat × Nat} {x : Nat} (hp : p ∈ ps) (h : ∀ y ∈ F, Conn ps x y) : ∀ y ∈ sweepP F p, Conn ps x y := fun y hy => by
  unfold sweepP at hy
  split at hy
  · rename_i c
    rcases List.mem_append.mp hy with hy | hy
    · exact h y hy
    · rw [List.mem_singleton] at hy
      split at hy
      · rename_i d
        subst hy
        exact .fwd (h _ d) hp
      · rename_i d
        subst hy
        have d2 : p.2 ∈ F := by
          simp [d] at c
          exact c
        exact .bwd (h _ d2) hp
  · exact h y hy
theorem sweepP_id {F : List Nat} {p : Nat × Nat} (h : p.1 ∈ F ↔ p.2 ∈ F) : sweepP F p = F := by
  unfold sweepP
  rw [if_neg]
  simp [h]
/-- one pair's look: nothing, or the pair comes inside -/
theorem sweepP_in {F : List Nat} {p : Nat × Nat} (h : ¬ (p.1 ∈ F ↔ p.2 ∈ F)) : p.1 ∈ sweepP F p ∧ p.2 ∈ sweepP F p := by
  unfold sweepP
  have c : (decide (p.1 ∈ F) != decide (p.2 ∈ F)) = true := by
    by_cases d1 : p.1 ∈ F <;> by_cases d2 : p.2 ∈ F <;> simp [d1, d2] at h ⊢
  rw [if_pos c]
  by_cases d1 : p.1 ∈ F
  · rw [if_pos d1]
    exact ⟨List.mem_append_left _ d1, List.mem_append_right _ (List.mem_singleton.mpr rfl)⟩
  · rw [if_neg d1]
    have d2 : p.2 ∈ F := Classical.byContradiction fun d2 => h ⟨fun z => absurd z d1, fun z => absurd z d2⟩
    exact ⟨List.mem_append_right _ (List.mem_singleton.mpr rfl), List.mem_append_left _ d2⟩
def ins (F : List Nat) (p : Nat × Nat) : Bool := decide (p.1 ∈ F) && decide (p.2 ∈ F)
theorem ins_mono {F F' : List Nat} (s : ∀ y, y ∈ F → y ∈ F') {p : Nat × Nat} (h : ins F p = true) : ins F' p = true := by
  unfold ins at h ⊢
  simp at h ⊢
  exact ⟨s _ h.1, s _ h.2⟩
theorem countP_lt {α : Type} {P Q : α → Bool} : ∀ {l : List α}, (∀ x ∈ l, P x = true → Q x = true) → ∀ x ∈ l, Q x = true → P x = false → l.countP P < l.countP Q
  | [], _, x, h, _, _ => nomatch h
  | y :: l, m, x, h, hq, hp => by
    have mono : l.countP P ≤ l.countP Q := List.countP_mono_left fun z hz => m z (List.mem_cons_of_mem _ hz)
    rcases List.mem_cons.mp h with e | h
    · subst e
      rw [List.countP_cons_of_pos hq, List.countP_cons_of_neg (by simp [hp])]
      omega
    · have ih := countP_lt (fun z hz => m z (List.mem_cons_of_mem _ hz)) x h hq hp
      by_cases c : P y = true
      · rw [List.countP_cons_of_pos c, List.countP_cons_of_pos (m y (List.mem_cons_self ..) c)]
        omega
      · rw [List.countP_cons_of_neg c]
        by_cases c2 : Q y = true
        · rw [List.countP_cons_of_pos c2]
          omega
        · rw [List.countP_cons_of_neg c2]
          exact ih
theorem fold_mem : ∀ (qs : List (Nat × Nat)) (F : List Nat) (y : Nat), y ∈ F → y ∈ qs.foldl sweepP F
  | [], _, _, h => h
  | p :: qs, F, y, h => fold_mem qs (sweepP F p) y (sweepP_mem F p y h)
theorem fold_nodup : ∀ (qs : List (Nat × Nat)) {F : List Nat}, F.Nodup → (qs.foldl sweepP F).Nodup
  | [], _, h => h
  | p :: qs, _, h => fold_nodup qs (sweepP_nodup h)
theorem fold_conn {ps : List (Nat × Nat)} {x : Nat} : ∀ (qs : List (Nat × Nat)) {F : List Nat}, (∀ p ∈ qs, p ∈ ps) → (∀ y ∈ F, Conn ps x y) → ∀ y ∈ qs.foldl sweepP F, Conn ps x y
  | [], _, _, h => h
  | p :: qs, F, s, h => fold_conn qs (fun q hq => s q (List.mem_cons_of_mem _ hq)) (sweepP_conn (s p (List.mem_cons_self ..)) h)
theorem fold_closed : ∀ (qs : List (Nat × Nat)) {F : List Nat}, (∀ p ∈ qs, p.1 ∈ F ↔ p.2 ∈ F) → qs.foldl sweepP F = F
  | [], _, _ => rfl
  | p :: qs, F, h => by
    rw [List.foldl_cons, sweepP_id (h p (List.mem_cons_self ..))]
    exact fold_closed qs fun q hq => h q (List.mem_cons_of_mem _ hq)
theorem fold_in : ∀ (qs : List (Nat × Nat)) {F : List Nat}, ¬ (∀ p ∈ qs, p.1 ∈ F ↔ p.2 ∈ F) → ∃ p ∈ qs, ins F p = false ∧ ins (qs.foldl sweepP F) p = true
  | [], _, h => absurd (fun _ z => nomatch z) h
  | p :: qs, F, h => by
    by_cases c : p.1 ∈ F ↔ p.2 ∈ F
    · have h2 : ¬ (∀ q ∈ qs, q.1 ∈ F ↔ q.2 ∈ F) := fun z => h fun q hq => (List.mem_cons.mp hq).elim (fun e => by rw [e]; exact c) (z q)
      obtain ⟨q, hq, h3, h4⟩ := fold_in qs h2
      exact ⟨q, List.mem_cons_of_mem _ hq, h3, by rw [List.foldl_cons, sweepP_id c]; exact h4⟩
    · obtain ⟨h3, h4⟩ := sweepP_in c
      refine ⟨p, List.mem_cons_self .., ?_, ?_⟩
      · unfold ins
        by_cases d1 : p.1 ∈ F <;> by_cases d2 : p.2 ∈ F <;> simp [d1, d2] at c ⊢
      · unfold ins
        simp only [Bool.and_eq_true, decide_eq_true_eq]
        exact ⟨fold_mem qs _ _ h3, fold_mem qs _ _ h4⟩
def Closed (ps : List (Nat × Nat)) (F : List Nat) : Prop := ∀ p ∈ ps, p.1 ∈ F ↔ p.2 ∈ F
theorem sweeps_or (ps : List (Nat × Nat)) (F : List Nat) : ∀ k, Closed ps (sweeps ps k F) ∨ k ≤ ps.countP (ins (sweeps ps k F))
  | 0 => .inr (Nat.zero_le _)
  | k + 1 => by
    rcases sweeps_or ps F k with h | h
    · left
      show Closed ps (sweep ps (sweeps ps k F))
      unfold sweep
      rw [fold_closed ps h]
      exact h
    · by_cases c : Closed ps (sweeps ps k F)
      · left
        show Closed ps (sweep ps (sweeps ps k F))
        unfold sweep
        rw [fold_closed ps c]
        exact c
      · right
        obtain ⟨p, hp, h1, h2⟩ := fold_in ps c
        exact Nat.lt_of_le_of_lt h (countP_lt (fun x _ hx => ins_mono (fun y hy => fold_mem ps _ y hy) hx) p hp h2 h1)
theorem comp_closed (ps : List (Nat × Nat)) (x : Nat) : Closed ps (comp ps x) := by
  rcases sweeps_or ps [x] ps.length with h | h
  · exact h
  · intro p hp
    have e : ps.countP (ins (comp ps x)) = ps.length := Nat.le_antisymm List.countP_le_length h
    have := (List.countP_eq_length.mp e) p hp
    unfold ins at this
    simp at this
    exact ⟨fun _ => this.2, fun _ => this.1⟩
theorem sweeps_all (ps : List (Nat × Nat)) (x : Nat) : ∀ k, (sweeps ps k [x]).Nodup ∧ x ∈ sweeps ps k [x] ∧ ∀ y ∈ sweeps ps k [x], Conn ps x y
  | 0 => ⟨List.nodup_cons.mpr ⟨(fun z => nomatch z), List.nodup_nil⟩, List.mem_singleton.mpr rfl, fun y h => by rw [List.mem_singleton.mp h]; exact .refl _⟩
  | k + 1 => let ⟨h1, h2, h3⟩ := sweeps_all ps x k; ⟨fold_nodup ps h1, fold_mem ps _ _ h2, fold_conn ps (fun _ h => h) h3⟩
theorem comp_nodup (ps : List (Nat × Nat)) (x : Nat) : (comp ps x).Nodup := (sweeps_all ps x _).1
theorem comp_mem {ps : List (Nat × Nat)} {x y : Nat} : y ∈ comp ps x ↔ Conn ps x y := by
  refine ⟨(sweeps_all ps x _).2.2 y, fun h => ?_⟩
  have c := comp_closed ps x
  induction h with
  | refl => exact (sweeps_all ps x _).2.1
  | fwd _ m ih => exact (c _ m).mp ih
  | bwd _ m ih => exact (c _ m).mpr ih
end Og
namespace Og
open PySem L2 NdefX LamX
def fU (a : Addr) (b : Addr) (g : Int) (l : Addr) : List (Str × V) := [("above", .ref a), ("sizes_of", .ref b), ("groups", .int g), ("lowered", .ref l)]
section
variable {a : Addr} {b : Addr} {g : Int} {l : Addr}
theorem fU_above : (fU a b g l).lookup ("above" : Str) = some (.ref a) := by kernel_rfl
theorem fU_p_above {y' : Addr} : putF ("above" : Str) (.ref y') (fU a b g l) = (fU y' b g l) := by kernel_rfl
theorem fU_sizes_of : (fU a b g l).lookup ("sizes_of" : Str) = some (.ref b) := by kernel_rfl
theorem fU_p_sizes_of {y' : Addr} : putF ("sizes_of" : Str) (.ref y') (fU a b g l) = (fU a y' g l) := by kernel_rfl
theorem fU_groups : (fU a b g l).lookup ("groups" : Str) = some (.int g) := by kernel_rfl
theorem fU_p_groups {y' : Int} : putF ("groups" : Str) (.int y') (fU a b g l) = (fU a b y' l) := by kernel_rfl
theorem fU_lowered : (fU a b g l).lookup ("lowered" : Str) = some (.ref l) := by kernel_rfl
theorem fU_p_lowered {y' : Addr} : putF ("lowered" : Str) (.ref y') (fU a b g l) = (fU a b g y') := by kernel_rfl
theorem fU_n_root : (fU a b g l).lookup ("root" : Str) = none := by kernel_rfl
theorem fU_n_push : (fU a b g l).lookup ("push" : Str) = none := by kernel_rfl
theorem fU_n_pop : (fU a b g l).lookup ("pop" : Str) = none := by kernel_rfl
theorem fU_n_ask : (fU a b g l).lookup ("ask" : Str) = none := by kernel_rfl
theorem fU_new : (putF ("lowered" : Str) (.ref l) (putF ("groups" : Str) (.int g) (putF ("sizes_of" : Str) (.ref b) (putF ("above" : Str) (.ref a) ([] : List (Str × V)))))) = (fU a b g l) := by kernel_rfl
theorem fU_len : (fU a b g l).length = 4 := rfl
end
def lV : Option Nat → V
  | none => .non
  | some k => .int (k : Int)
structure UA where
  u : Addr
  dx : Addr
  a : Addr
  b : Addr
  l : Addr
abbrev UE (C : Addr) (U : UA) (up sz : List Nat) (g : Int) (low : List (Option Nat)) (R : Ents) : Ents := (U.u, .ins C U.dx (fU U.a U.b g U.l)) :: (U.a, .lst (nV up)) :: (U.b, .lst (nV sz)) :: (U.l, .lst (low.map lV)) :: R
def nmP : Nat → Nat → Str := fun _ _ => ("Unions.push" ++ ".<locals>." : Str) ++ "<lambda>"
def T78 {K : PySem.W.Frag} {mg : Str → Option Value} (Z : Facts K mg) : List NTab := [(Z.P_Unions_push, nmP)]
theorem flat_nV (F : List Nat) : (nV F).all flatV = true := by
  unfold nV
  simp [flatV]
abbrev TBs {K : PySem.W.Frag} {mg : Str → Option Value} (Z : Facts K mg) (base : Heap) : Prop := TabB base mg Z.c_Unions_push Z.P_Unions_push
end Og
namespace Og
open PySem L2 NdefX LamX
set_option hygiene false in
local macro_rules | `(tactic| tm_at "own") => `(tactic| first
  | exact List.Mem.head _
  | (apply List.Mem.tail; tm_at "own")
  | assumption)
set_option hygiene false in
local macro_rules | `(tactic| tm_at "num") => `(tactic| first
  | omega
  | (exact And.intro (by omega) (by omega))
  | (exact Or.inl (And.intro (by omega) (by omega)))
  | (exact Or.inr (And.intro (by omega) (by omega)))
  | (exact And.intro (by omega) (And.intro (by omega) (by omega)))
  | exact rfl
  | exact of_decide_eq_true rfl)
set_option hygiene false in
local macro_rules | `(tactic| tm_at "seq") => `(tactic| first
  | exact SqL.of (w.at (by tm_at "own"))
  | exact Or.inl (SqL.of (w.at (by tm_at "own")))
  | exact SqT.of (w.at (by tm_at "own"))
  | exact Or.inr (SqT.of (w.at (by tm_at "own")))
  | assumption)
set_option hygiene false in
local macro_rules | `(tactic| tm_at "hp") => `(tactic| first
  | (intro p hp; generalize hw : upd _ p _ = H2; replace w := own_new w hp hw; clear hw hp)
  | (generalize hw : upd _ _ _ = H2; (first
    | replace w := own_put (i := 0) w rfl hw
    | replace w := own_put (i := 1) w rfl hw
    | replace w := own_put (i := 2) w rfl hw
    | replace w := own_put (i := 3) w rfl hw
    | replace w := own_put (i := 4) w rfl hw
    | replace w := own_put (i := 5) w rfl hw
    | replace w := own_put (i := 6) w rfl hw
    | replace w := own_put (i := 7) w rfl hw); clear hw; dsimp only [List.set] at w))
set_option hygiene false in
local macro_rules | `(tactic| tm_at "s1") => `(tactic| first
  | refine ⟨_, rfl, ?_⟩
  | refine ⟨_, _, rfl, rfl, ?_⟩
  | refine ⟨_, _, _, _, _, rfl, w.at (by tm_at "own"), by tm_at "cls", (by tm_at "na"), (by tm_at "lk"), ?_⟩
  | refine ⟨_, _, _, _, rfl, rfl, (by tm_at "seq"), (by tm_at "at"), ?_⟩
  | refine ⟨_, _, _, _, rfl, rfl, w.at (by tm_at "own"), (by tm_at "ixn"), ?_⟩
  | refine ⟨_, _, _, rfl, rfl, w.at (by tm_at "own"), (by tm_at "len"), ?_⟩
  | refine ⟨_, _, rfl, (by tm_at "seq"), (by tm_at "flat"), (by tm_at "flat"), ?_⟩
  | refine ⟨_, _, rfl, (by tm_at "seq"), ?_⟩
  | refine And.intro ⟨_, (by tm_at "seq")⟩ ?_
  | refine ⟨_, w.at (by tm_at "own"), (by tm_at "num"), ?_⟩
  | refine ⟨_, _, _, _, rfl, w.at (by tm_at "own"), by tm_at "cls", (by tm_at "na"), (by tm_at "flen"), ?_⟩
  | refine ⟨_, _, w.at (by tm_at "own"), (by tm_at "flen"), ?_⟩
  | refine ⟨_, _, _, rfl, w.at (by tm_at "own"), (by tm_at "nolk"), ?_⟩
  | refine ⟨_, _, _, rfl, rfl, w.at (by tm_at "own"), (by omega), (by omega), (by rw [PySem.sizeLine_eq]; simp; omega), ?_⟩
  | refine And.intro (Or.inl ⟨rfl, _, SqL.of (w.at (by tm_at "own"))⟩) ?_
  | refine And.intro (by tm_at "num") ?_
  | refine ⟨_, _, _, rfl, (by tm_at "seq"), ?_⟩
  | refine ⟨_, _, _, rfl, rfl, (by tm_at "seq"), (by tm_at "seq"), ?_⟩
  | refine ⟨_, _, rfl, ?_⟩
  | tm_at "hp")
set_option hygiene false in
local macro_rules | `(tactic| tm_at "cls") => `(tactic| exact Z.k_Unions)
set_option hygiene false in
local macro_rules | `(tactic| tm_at "na") => `(tactic| first
  | exact Z.na_Unions_above
  | exact Z.na_Unions_sizes_of
  | exact Z.na_Unions_groups
  | exact Z.na_Unions_lowered)
set_option hygiene false in
local macro_rules | `(tactic| tm_at "lk") => `(tactic| first
  | exact fU_above
  | exact fU_sizes_of
  | exact fU_groups
  | exact fU_lowered)
set_option hygiene false in
local macro_rules | `(tactic| tm_at "nolk") => `(tactic| first
  | exact fU_n_root
  | exact fU_n_push
  | exact fU_n_pop
  | exact fU_n_ask)
set_option hygiene false in
local macro_rules | `(tactic| tm_at "flen") => `(tactic| exact of_decide_eq_true rfl)
set_option hygiene false in
local macro_rules | `(tactic| tm_at "at") => `(tactic| first
  | exact atI_nV (by assumption)
  | assumption
  | exact atI_last _ _
  | rfl)
set_option hygiene false in
local macro_rules | `(tactic| tm_at "ixn") => `(tactic| first
  | rfl
  | exact ixN_nat (by assumption))
set_option hygiene false in
local macro_rules | `(tactic| tm_at "len") => `(tactic| first
  | assumption)
set_option hygiene false in
local macro_rules | `(tactic| tm_at "flat") => `(tactic| first
  | exact flat_nV _
  | exact (rfl : flatV (V.int _) = true)
  | exact (rfl : flatV (V.str _) = true))

section
variable {P : Program} {wd : World} {K : PySem.W.Frag} {mg : Str → Option Value} {base : Heap}
def spRoot (T : List NTab) (C : Addr) : Sp := fun vs H Q _ => ∃ (U : UA) (up sz : List Nat) (g : Int) (low : List (Option Nat)) (R : Ents) (x r k : Nat), vs = [.ref U.u, .int x] ∧ Own T (UE C U up sz g low R) H ∧ RootN up x r k ∧ Q (.int r) H
theorem ok_Unions_root (Z : Facts K mg) (TB : TBs Z base) : FnOk P wd K mg base CX0 1 Z.a_Unions_root Z.d_Unions_root ["self", "point"] (spRoot (T78 Z) Z.C_Unions) := by
  refine Z.F_Unions_root.ok sc_Unions_root (fun vs H Q E h => ?_) (fun cdv A outer s H vs Q E hr h => ?_)
  · obtain ⟨U, up, sz, g, low, R, x, r, k, rfl, _⟩ := h
    rfl
  · obtain ⟨U, up, sz, g, low, R, x, r, k, rfl, w, hx, q⟩ := h
    refine ⟨_, (pss_cons (ps_while PassesOwn.never (pt_cmpR op_ne (pe_ix (ixL (K := K)) (fldK (K := K) (pv 0) rfl) (pv 1) (fun _ _ => rfl)) (pv 1) (nomark _))
      (pss_one (ps_set (i := 1) sc_Unions_root.nd rfl (Or.inl rfl) (pe_ix (ixL (K := K)) (fldK (K := K) (pv 0) rfl) (pv 1) (fun _ _ => rfl)))))
      (pss_one (ps_ret (pv 1)))), ?_⟩
    refine ⟨fun m σ H' => ∃ y : Nat, RootN up y r m ∧ σ = [some (.ref U.u), some (.int y)] ∧ H' = H, ⟨k, x, hx, rfl, rfl⟩, ?_⟩
    rintro m σ H' ⟨y, hy, rfl, rfl⟩
    cases hy with
    | stop hy =>
      repeat tm_at "s1"
      refine ite_f (by simp) ?_
      exact ⟨_, rfl, q⟩
    | @step _ y2 _ k2 hy ne hy2 =>
      repeat tm_at "s1"
      refine ite_t (by simp; omega) ?_
      refine ⟨fun σ H1 => σ = [some (.ref U.u), some (.int y2)] ∧ H1 = H', fun σ' H1 e => ⟨k2, Nat.lt_succ_self _, y2, hy2, e.1, e.2⟩, ?_⟩
      repeat tm_at "s1"
      exact rfl
def spInit (T : List NTab) (C : Addr) : Sp := fun vs H Q _ => ∃ (u dx : Addr) (R : Ents) (n : Nat), vs = [.ref u, .int n] ∧ Own T ((u, .ins C dx []) :: R) H ∧ n ≤ 10000 ∧ ∀ a b l H', Own T (UE C ⟨u, dx, a, b, l⟩ (List.range n) (List.replicate n 1) n [] R) H' → Q .non H'
theorem ok_Unions_init (Z : Facts K mg) (TB : TBs Z base) : FnOk P wd K mg base CX0 1 Z.a_Unions_init Z.d_Unions_init ["self", "many"] (spInit (T78 Z) Z.C_Unions) := by
  refine Z.F_Unions_init.ok sc_Unions_init (fun vs H Q E h => ?_) (fun cdv A outer s H vs Q E hr h => ?_)
  · obtain ⟨u, dx, R, n, rfl, _⟩ := h
    rfl
  · obtain ⟨u, dx, R, n, rfl, w, hn, q⟩ := h
    refine ⟨_, (pss_cons (ps_fld (pv 0) (pe_listRg rfl (by rfl) Z.z_list (prg_1 (by rfl) Z.z_range (pv 1))) rfl)
      (pss_cons (ps_fld (pv 0) (pe_op op_rep (pe_lst (pa_cons pe_int pa_nil)) (pv 1)) rfl)
      (pss_cons (ps_fld (pv 0) (pv 1) rfl)
      (pss_one (ps_fld (pv 0) (pe_lst pa_nil) rfl))))), ?_⟩
    repeat tm_at "s1"
    rw [fU_new, rgV_nV, show V.int 1 = V.int ((1 : Nat) : Int) from rfl, rep_nV] at w
    exact q _ _ _ _ (w.picks [4, 3, 1, 0] 5)
def spPush (T : List NTab) (C : Addr) : Sp := fun vs H Q _ => ∃ (U : UA) (n : Nat) (ps : List (Nat × Nat)) (up sz : List Nat) (g : Int) (low : List (Option Nat)) (R : Ents) (x y : Nat) (pr : Addr), vs = [.ref U.u, .ref pr] ∧ Own T (UE C U up sz g low R) H ∧ St n ps up sz g low ∧ x < n ∧ y < n ∧
  (pr, HO.tup [.int x, .int y]) ∈ R ∧ ps.length < 100000 ∧ ∀ up' sz' g' low' H', St n (ps ++ [(x, y)]) up' sz' g' low' → Own T (UE C U up' sz' g' low' R) H' → Q .non H'
theorem ok_Unions_push (Z : Facts K mg) (TB : TBs Z base) : FnOk P wd K mg base CX0 3 Z.a_Unions_push Z.d_Unions_push ["self", "pair"] (spPush (T78 Z) Z.C_Unions) := by
  refine Z.F_Unions_push.ok sc_Unions_push (fun vs H Q E h => ?_) (fun A outer s H vs Q E hr h => ?_)
  · obtain ⟨U, n, ps, up, sz, g, low, R, x, y, pr, rfl, _⟩ := h
    rfl
  · obtain ⟨U, n, ps, up, sz, g, low, R, x, y, pr, rfl, w, S, hx, hy, hpr, hlen, q⟩ := h
    refine ⟨_, (pss_cons (ps_asg (pe_sortK (tk := tkFldIx K "sizes_of") (T := T78 Z) (nm := nmP) (fr := ["self"]) (Nl := ["root", "self"]) (js := [0]) (a := "root") (k := 0) (by rfl) Z.z_sorted TB rfl (List.Mem.head _) rfl (fun p hp _ => by rw [List.mem_singleton.mp hp]) (by show ndefB (defScope s_Unions_push) _ _ = true; decide +kernel) (nscope_by (by decide +kernel)) (hr.mono (by decide)) (pa_cons (pe_lc (own := [("point", 4)]) (g := gName 4) (tt := tYes) rfl sc_Unions_push.nd (pi_tup (pv 1)) (blkOk_by (own := [("point", 4)]) (N := n_Unions_push) (sc := defScope s_Unions_push) (by decide +kernel)) (fun _ _ _ _ _ => (pg_name (i := 4) sc_Unions_push.nd rfl (Or.inl rfl))) (fun _ _ _ _ _ => pts_nil) (fun _ _ _ _ _ => (pe_meth (pv 0) Z.k_Unions Z.t_Unions_root (ok_Unions_root Z TB) (hr.mono (by decide)) (b_Unions_root Z) .nil pass0 (pa_cons (pv 4) pa_nil)))) pa_nil) rfl (fun F doc pm ctv u e => by cases F; cases e; rfl) (fun A outer s H F f e => by cases F; cases e; (apply key_fld_ix <;> first | rfl | exact Or.inl rfl | exact Or.inr (Or.inr rfl) | decide))) (pg_lst rfl (pgs_cons (pg_name (i := 2) sc_Unions_push.nd rfl (Or.inl rfl)) (pgs_cons (pg_name (i := 3) sc_Unions_push.nd rfl (Or.inl rfl)) pgs_nil))))
      (pss_cons (ps_if (pt_cmpR op_eq (pv 2) (pv 3) (nomark _))
      (pss_cons (ps_expr (pe_bm PySem.F.plainAttrs_list PySem.F.slot_list_append PySem.F.type_list_append mt_append (fldK (K := K) (pv 0) rfl) (pa_cons pe_non pa_nil)))
      (pss_one ps_retN))
      pss_nil)
      (pss_cons (ps_asg (pv 3) (pg_sub (fldK (K := K) (pv 0) rfl) (pv 2) set_list))
      (pss_cons (ps_augS (fldK (K := K) (pv 0) rfl) (pv 3) get_list (pe_ix (ixL (K := K)) (fldK (K := K) (pv 0) rfl) (pv 2) (fun _ _ => rfl)) ip_add set_list)
      (pss_cons (ps_fldaug (pv 0) pe_int in_sub)
      (pss_one (ps_expr (pe_bm PySem.F.plainAttrs_list PySem.F.slot_list_append PySem.F.type_list_append mt_append (fldK (K := K) (pv 0) rfl) (pa_cons (pv 2) pa_nil))))))))), ?_⟩
    have G := S.good
    obtain ⟨r1, hr1, R1⟩ := G.root x hx
    obtain ⟨r2, hr2, R2⟩ := G.root y hy
    obtain ⟨k1, K1⟩ := R1
    obtain ⟨k2, K2⟩ := R2
    repeat tm_at "s1"
    refine lcT w (xs := [.int x, .int y]) (fun i H' => Own (T78 Z) ((_, .lst ((([r1, r2] : List Nat).take i).map fun n : Nat => V.int n)) :: UE Z.C_Unions U up sz g low R) H') w (fun i H' _ w => ?_) (fun i v H' e w => ?_) (fun H' w => ?_)
    · exact SqT.of (w.at (by tm_at "own"))
    · match i, e with
      | 0, e =>
        obtain rfl := Option.some.inj e
        repeat tm_at "s1"
        refine ⟨U, up, sz, g, low, _, x, r1, k1, rfl, w.picks [1, 2, 3, 4, 0] 5, K1, ?_⟩
        repeat tm_at "s1"
        exact w
      | 1, e =>
        obtain rfl := Option.some.inj e
        repeat tm_at "s1"
        refine ⟨U, up, sz, g, low, _, y, r2, k2, rfl, w.picks [1, 2, 3, 4, 0] 5, K2, ?_⟩
        repeat tm_at "s1"
        exact w
    · repeat tm_at "s1"
      have hg : ∀ r : Nat, r < n → ∃ i, sz[r]? = some i := fun r h => ⟨_, List.getElem?_eq_getElem (by rw [G.ls]; exact h)⟩
      refine ⟨_, [(r1 : Int), (r2 : Int)], fun z => ((sz.getD z.toNat 0 : Nat) : Int), rfl, SqL.of (w.at (List.Mem.head _)), w.tab, fun f c' H2 eN nn t2 hf ne h1 h2 => ?_⟩
      replace w := w.ext eN t2
      constructor
      · have go : ∀ r : Nat, r < n → tkFldIx K "sizes_of" (startF ["root", "self"] [.int r] ([0].map (slotAt (L2.start n_Unions_push [.ref U.u, .ref pr])))) H2 fun v => v = .int ((sz.getD (r : Int).toNat 0 : Nat) : Int) := fun r hr => by
          obtain ⟨i, hi⟩ := hg r hr
          have e : (sz.getD (r : Int).toNat 0) = i := by
            rw [Int.toNat_natCast, List.getD_eq_getElem?_getD, hi]
            rfl
          rw [e]
          exact ⟨_, rfl, _, _, _, _, _, rfl, w.at (by tm_at "own"), Z.k_Unions, Z.na_Unions_sizes_of, fU_sizes_of, _, rfl, _, _, _, _, rfl, rfl, SqL.of (w.at (by tm_at "own")), by omega, atI_nV hi, rfl⟩
        intro m hm
        rcases List.mem_cons.mp hm with e | hm
        · rw [e]
          exact go r1 hr1
        · rw [List.mem_singleton.mp hm]
          exact go r2 hr2
      · obtain ⟨s, t, es, hst⟩ := ms_two (fun a b => decide (((sz.getD a.toNat 0 : Nat) : Int) ≤ ((sz.getD b.toNat 0 : Nat) : Int))) r1 r2
        rw [es]
        have hs : s < n := by rcases hst with ⟨rfl, rfl⟩ | ⟨rfl, rfl⟩ <;> assumption
        have ht : t < n := by rcases hst with ⟨rfl, rfl⟩ | ⟨rfl, rfl⟩ <;> assumption
        obtain ⟨i, hi⟩ := hg s hs
        obtain ⟨j, hj⟩ := hg t ht
        have hs' : s < (nV up).length := by rw [nV_len, G.lu]; exact hs
        have ht' : t < (nV sz).length := by rw [nV_len, G.ls]; exact ht
        have hup : up[s]? = some s := by rcases hst with ⟨rfl, rfl⟩ | ⟨rfl, rfl⟩; exact K1.fix; exact K2.fix
        have hlo : (low.map lV).length < sizeLine := by rw [List.length_map, S.len, PySem.sizeLine_eq]; omega
        repeat tm_at "s1"
        refine ite2 (fun e => ?_) (fun e => ?_)
        · have e : s = t := by
            simp at e
            omega
          have er : r1 = r2 := by rcases hst with ⟨rfl, rfl⟩ | ⟨rfl, rfl⟩ <;> omega
          repeat tm_at "s1"
          refine q up sz g (low ++ [none]) H2 (.same S hx hy ⟨k1, K1⟩ ⟨k2, by rw [er]; exact K2⟩) ?_
          rw [show low.map lV ++ [V.non] = (low ++ [none]).map lV by simp [lV]] at w
          exact w.picks [2, 3, 4, 5] 6
        · have e : s ≠ t := by
            simp at e
            omega
          repeat tm_at "s1"
          refine q (up.set s t) (sz.set t (j + i)) (g - 1) (low ++ [some s]) H2 (.join S hx hy ?_ e hi hj) ?_
          · rcases hst with ⟨rfl, rfl⟩ | ⟨rfl, rfl⟩
            · exact .inl ⟨⟨k1, K1⟩, ⟨k2, K2⟩⟩
            · exact .inr ⟨⟨k1, K1⟩, ⟨k2, K2⟩⟩
          · rw [fU_p_groups, nV_set, ← Int.natCast_add, nV_set, show low.map lV ++ [V.int (s : Int)] = (low ++ [some s]).map lV by simp [lV]] at w
            exact w.picks [2, 3, 4, 5] 6
def spPop (T : List NTab) (C : Addr) : Sp := fun vs H Q _ => ∃ (U : UA) (n : Nat) (ps : List (Nat × Nat)) (pr : Nat × Nat) (up sz : List Nat) (g : Int) (low : List (Option Nat)) (R : Ents), vs = [.ref U.u] ∧ Own T (UE C U up sz g low R) H ∧ St n (ps ++ [pr]) up sz g low ∧
  ∀ up' sz' g' low' H', St n ps up' sz' g' low' → Own T (UE C U up' sz' g' low' R) H' → Q .non H'
theorem last_map {α β : Type} (f : α → β) (lo : List α) (x : α) : ((lo ++ [x]).map f)[((lo ++ [x]).map f).length - 1]? = some (f x) := by simp
theorem drop_map {α β : Type} (f : α → β) (lo : List α) (x : α) : ((lo ++ [x]).map f).dropLast = lo.map f := by simp
theorem ok_Unions_pop (Z : Facts K mg) (TB : TBs Z base) : FnOk P wd K mg base CX0 1 Z.a_Unions_pop Z.d_Unions_pop ["self"] (spPop (T78 Z) Z.C_Unions) := by
  refine Z.F_Unions_pop.ok sc_Unions_pop (fun vs H Q E h => ?_) (fun cdv A outer s H vs Q E hr h => ?_)
  · obtain ⟨U, n, ps, pr, up, sz, g, low, R, rfl, _⟩ := h
    rfl
  · obtain ⟨U, n, ps, pr, up, sz, g, low, R, rfl, w, S, q⟩ := h
    refine ⟨_, (pss_cons (ps_set (i := 1) sc_Unions_pop.nd rfl (Or.inl rfl) (pe_bm0 PySem.F.plainAttrs_list PySem.F.slot_list_pop PySem.F.type_list_pop mt_pop (fldK (K := K) (pv 0) rfl)))
      (pss_one (ps_if (pt_cmpR op_notN (pv 1) pe_non (nomark _))
      (pss_cons (ps_augS (fldK (K := K) (pv 0) rfl) (pe_ix (ixL (K := K)) (fldK (K := K) (pv 0) rfl) (pv 1) (fun _ _ => rfl)) get_list (pe_ix (ixL (K := K)) (fldK (K := K) (pv 0) rfl) (pv 1) (fun _ _ => rfl)) ip_sub set_list)
      (pss_cons (ps_asg (pv 1) (pg_sub (fldK (K := K) (pv 0) rfl) (pv 1) set_list))
      (pss_one (ps_fldaug (pv 0) pe_int in_add))))
      pss_nil))), ?_⟩
    rcases S.pop with ⟨lo, rfl, S'⟩ | ⟨lo, s, t, i, j, rfl, hs, ht, ne, hup, hj, hi, S'⟩
    · have h1 := last_map lV lo none
      repeat tm_at "s1"
      refine ite_f (by simp [lV]) ?_
      rw [drop_map] at w
      exact q up sz g lo H2 S' w
    · have h1 := last_map lV lo (some s)
      have G := S.good
      have hs' : s < (nV up).length := by rw [nV_len, G.lu]; exact hs
      have ht' : t < (nV sz).length := by rw [nV_len, G.ls]; exact ht
      repeat tm_at "s1"
      rw [drop_map, fU_p_groups] at w
      rw [show (((j + i : Nat) : Int) - (i : Int)) = (j : Int) by omega, show lV (some s) = V.int (s : Int) from rfl, nV_set, nV_set] at w
      exact q (up.set s s) (sz.set t j) (g + 1) lo H2 S' w
def spAsk (T : List NTab) (C : Addr) : Sp := fun vs H Q _ => ∃ (U : UA) (n : Nat) (ps : List (Nat × Nat)) (up sz : List Nat) (g : Int) (low : List (Option Nat)) (R : Ents) (qa : Addr), vs = [.ref U.u, .ref qa] ∧ Own T (UE C U up sz g low R) H ∧ St n ps up sz g low ∧
  (((qa, HO.tup [.str "groups"]) ∈ R ∧ ∀ H', Own T (UE C U up sz g low R) H' → Q (.int g) H') ∨
  (∃ x r z : Nat, x < n ∧ Root up x r ∧ sz[r]? = some z ∧ (qa, HO.tup [.str "size", .int x]) ∈ R ∧ ∀ H', Own T (UE C U up sz g low R) H' → Q (.int z) H') ∨
  (∃ x y r1 r2 : Nat, x < n ∧ y < n ∧ Root up x r1 ∧ Root up y r2 ∧ (qa, HO.tup [.str "same", .int x, .int y]) ∈ R ∧ ∀ H', Own T (UE C U up sz g low R) H' → Q (.bl (decide (r1 = r2))) H'))
theorem ok_Unions_ask (Z : Facts K mg) (TB : TBs Z base) : FnOk P wd K mg base CX0 2 Z.a_Unions_ask Z.d_Unions_ask ["self", "question"] (spAsk (T78 Z) Z.C_Unions) := by
  refine Z.F_Unions_ask.ok sc_Unions_ask (fun vs H Q E h => ?_) (fun cdv A outer s H vs Q E hr h => ?_)
  · obtain ⟨U, n, ps, up, sz, g, low, R, qa, rfl, _⟩ := h
    rfl
  · obtain ⟨U, n, ps, up, sz, g, low, R, qa, rfl, w, S, h⟩ := h
    refine ⟨_, (pss_cons (ps_asg (pv 1) (pg_star (i := 2) (j := 3) rfl sc_Unions_ask.nd rfl rfl (Or.inl rfl) (Or.inl rfl)))
      (pss_cons (ps_if (pt_cmpR op_eq (pv 2) pe_str (nomark _))
      (pss_one (ps_ret (fldK (K := K) (pv 0) rfl)))
      pss_nil)
      (pss_cons (ps_setLc (i := 4) (own := [("point", 5)]) (g := gName 5) (tt := tYes) rfl sc_Unions_ask.nd rfl rfl (sw_true rfl rfl rfl (by decide +kernel)) (pi_list (pv 3)) (blkOk_by (own := [("point", 5)]) (N := n_Unions_ask) (sc := defScope s_Unions_ask) (by decide +kernel)) (fun _ _ _ _ _ => (pg_name (i := 5) sc_Unions_ask.nd rfl (Or.inl rfl))) (fun _ _ _ _ _ => pts_nil) (fun _ _ _ _ _ => (pe_meth (pv 0) Z.k_Unions Z.t_Unions_root (ok_Unions_root Z TB) (hr.mono (by decide)) (b_Unions_root Z) .nil pass0 (pa_cons (pv 5) pa_nil))))
      (pss_one (ps_ret (pe_ifExp (pt_cmpR op_eq (pv 2) pe_str (nomark _)) (pe_cmpR op_eq (pe_ix (ixL (K := K)) (pv 4) pe_int (fun _ _ => rfl)) (pe_ix (ixL (K := K)) (pv 4) pe_int (fun _ _ => rfl)) (nomark _)) (pe_ix (ixL (K := K)) (fldK (K := K) (pv 0) rfl) (pe_ix (ixL (K := K)) (pv 4) pe_int (fun _ _ => rfl)) (fun _ _ => rfl)))))))), ?_⟩
    have G := S.good
    rcases h with ⟨hq, q⟩ | ⟨x, r, z, hx, ⟨k, K1⟩, hz, hq, q⟩ | ⟨x, y, r1, r2, hx, hy, ⟨k1, K1⟩, ⟨k2, K2⟩, hq, q⟩
    · repeat tm_at "s1"
      exact q H2 w.drop1
    · repeat tm_at "s1"
      refine lcL w (xs := [.int x]) (fun i H' => Own (T78 Z) ((_, .lst ((([r] : List Nat).take i).map fun n : Nat => V.int n)) :: (_, .lst [.int x]) :: UE Z.C_Unions U up sz g low R) H') w (fun i H' _ w => SqL.of (w.at (by tm_at "own"))) (fun i v H' e w => ?_) (fun H' w => ?_)
      · match i, e with
        | 0, e =>
          obtain rfl := Option.some.inj e
          repeat tm_at "s1"
          refine ⟨U, up, sz, g, low, _, x, r, k, rfl, w.picks [2, 3, 4, 5, 0, 1] 6, K1, ?_⟩
          repeat tm_at "s1"
          exact w
      · have w : Own (T78 Z) ((_, .lst [V.int r]) :: (_, .lst [.int x]) :: UE Z.C_Unions U up sz g low R) H' := w
        repeat tm_at "s1"
        exact q H' (w.picks [2, 3, 4, 5] 6)
    · repeat tm_at "s1"
      refine lcL w (xs := [.int x, .int y]) (fun i H' => Own (T78 Z) ((_, .lst ((([r1, r2] : List Nat).take i).map fun n : Nat => V.int n)) :: (_, .lst [.int x, .int y]) :: UE Z.C_Unions U up sz g low R) H') w (fun i H' _ w => SqL.of (w.at (by tm_at "own"))) (fun i v H' e w => ?_) (fun H' w => ?_)
      · match i, e with
        | 0, e =>
          obtain rfl := Option.some.inj e
          repeat tm_at "s1"
          refine ⟨U, up, sz, g, low, _, x, r1, k1, rfl, w.picks [2, 3, 4, 5, 0, 1] 6, K1, ?_⟩
          repeat tm_at "s1"
          exact w
        | 1, e =>
          obtain rfl := Option.some.inj e
          repeat tm_at "s1"
          refine ⟨U, up, sz, g, low, _, y, r2, k2, rfl, w.picks [2, 3, 4, 5, 0, 1] 6, K2, ?_⟩
          repeat tm_at "s1"
          exact w
      · have w : Own (T78 Z) ((_, .lst [V.int r1, V.int r2]) :: (_, .lst [.int x, .int y]) :: UE Z.C_Unions U up sz g low R) H' := w
        repeat tm_at "s1"
        have e := q H' (w.picks [2, 3, 4, 5] 6)
        rw [show decide (r1 = r2) = decide (V.int (r1 : Int) = V.int (r2 : Int)) by simp [Int.natCast_inj]] at e
        exact e
end
end Og
namespace Og
open PySem L2 NdefX LamX
set_option hygiene false in
local macro_rules | `(tactic| tm_at "own") => `(tactic| first
  | exact List.Mem.head _
  | (apply List.Mem.tail; tm_at "own")
  | assumption)
set_option hygiene false in
local macro_rules | `(tactic| tm_at "num") => `(tactic| first
  | omega
  | (exact And.intro (by omega) (by omega))
  | (exact Or.inl (And.intro (by omega) (by omega)))
  | (exact Or.inr (And.intro (by omega) (by omega)))
  | (exact And.intro (by omega) (And.intro (by omega) (by omega)))
  | exact rfl
  | exact of_decide_eq_true rfl)
set_option hygiene false in
local macro_rules | `(tactic| tm_at "seq") => `(tactic| first
  | exact SqL.of (w.at (by tm_at "own"))
  | exact Or.inl (SqL.of (w.at (by tm_at "own")))
  | exact SqT.of (w.at (by tm_at "own"))
  | exact Or.inr (SqT.of (w.at (by tm_at "own")))
  | assumption)
set_option hygiene false in
local macro_rules | `(tactic| tm_at "hp") => `(tactic| first
  | (intro p hp; generalize hw : upd _ p _ = H2; replace w := own_new w hp hw; clear hw hp)
  | (generalize hw : upd _ _ _ = H2; (first
    | replace w := own_put (i := 0) w rfl hw
    | replace w := own_put (i := 1) w rfl hw
    | replace w := own_put (i := 2) w rfl hw
    | replace w := own_put (i := 3) w rfl hw
    | replace w := own_put (i := 4) w rfl hw
    | replace w := own_put (i := 5) w rfl hw
    | replace w := own_put (i := 6) w rfl hw
    | replace w := own_put (i := 7) w rfl hw); clear hw; dsimp only [List.set] at w))
set_option hygiene false in
local macro_rules | `(tactic| tm_at "s1") => `(tactic| first
  | refine ⟨_, rfl, ?_⟩
  | refine ⟨_, _, rfl, rfl, ?_⟩
  | refine ⟨_, _, _, _, _, rfl, w.at (by tm_at "own"), by tm_at "cls", (by tm_at "na"), (by tm_at "lk"), ?_⟩
  | refine ⟨_, _, _, _, rfl, rfl, (by tm_at "seq"), (by tm_at "at"), ?_⟩
  | refine ⟨_, _, _, _, rfl, rfl, w.at (by tm_at "own"), (by tm_at "ixn"), ?_⟩
  | refine ⟨_, _, _, rfl, rfl, w.at (by tm_at "own"), (by tm_at "len"), ?_⟩
  | refine ⟨_, _, rfl, (by tm_at "seq"), (by tm_at "flat"), (by tm_at "flat"), ?_⟩
  | refine ⟨_, _, rfl, (by tm_at "seq"), ?_⟩
  | refine And.intro ⟨_, (by tm_at "seq")⟩ ?_
  | refine ⟨_, w.at (by tm_at "own"), (by tm_at "num"), ?_⟩
  | refine ⟨_, _, _, _, rfl, w.at (by tm_at "own"), by tm_at "cls", (by tm_at "na"), (by tm_at "flen"), ?_⟩
  | refine ⟨_, _, w.at (by tm_at "own"), (by tm_at "flen"), ?_⟩
  | refine ⟨_, _, _, rfl, w.at (by tm_at "own"), (by tm_at "nolk"), ?_⟩
  | refine ⟨_, _, _, rfl, rfl, w.at (by tm_at "own"), (by omega), (by omega), (by rw [PySem.sizeLine_eq]; simp; omega), ?_⟩
  | refine And.intro (Or.inl ⟨rfl, _, SqL.of (w.at (by tm_at "own"))⟩) ?_
  | refine And.intro (by tm_at "num") ?_
  | refine ⟨_, _, _, rfl, (by tm_at "seq"), ?_⟩
  | refine ⟨_, _, _, rfl, rfl, (by tm_at "seq"), (by tm_at "seq"), ?_⟩
  | refine ⟨_, _, rfl, ?_⟩
  | tm_at "hp")
set_option hygiene false in
local macro_rules | `(tactic| tm_at "cls") => `(tactic| exact Z.k_Unions)
set_option hygiene false in
local macro_rules | `(tactic| tm_at "na") => `(tactic| first
  | exact Z.na_Unions_above
  | exact Z.na_Unions_sizes_of
  | exact Z.na_Unions_groups
  | exact Z.na_Unions_lowered)
set_option hygiene false in
local macro_rules | `(tactic| tm_at "lk") => `(tactic| first
  | exact fU_above
  | exact fU_sizes_of
  | exact fU_groups
  | exact fU_lowered)
set_option hygiene false in
local macro_rules | `(tactic| tm_at "nolk") => `(tactic| first
  | exact fU_n_root
  | exact fU_n_push
  | exact fU_n_pop
  | exact fU_n_ask)
set_option hygiene false in
local macro_rules | `(tactic| tm_at "flen") => `(tactic| exact of_decide_eq_true rfl)
set_option hygiene false in
local macro_rules | `(tactic| tm_at "at") => `(tactic| first
  | exact atI_nV (by assumption)
  | assumption
  | exact atI_last _ _
  | rfl)
set_option hygiene false in
local macro_rules | `(tactic| tm_at "ixn") => `(tactic| first
  | rfl
  | exact ixN_nat (by assumption))
set_option hygiene false in
local macro_rules | `(tactic| tm_at "len") => `(tactic| first
  | assumption)
set_option hygiene false in
local macro_rules | `(tactic| tm_at "flat") => `(tactic| first
  | exact flat_nV _
  | exact (rfl : flatV (V.int _) = true)
  | exact (rfl : flatV (V.str _) = true))

section
variable {P : Program} {wd : World} {K : PySem.W.Frag} {mg : Str → Option Value} {base : Heap}
/-- the list a stands among the entries, or is a constant of the program -/
def Scr (K : PySem.W.Frag) (a : Addr) (xs : List V) (l : Ents) : Prop := (∃ o, (a, o) ∈ l ∧ (o = .lst xs ∨ ∃ ob, o = .frz ob (.lst xs))) ∨
  ∃ (o : Obj) (its : Array Value) (n : Nat), K.lookup a = some o ∧ o.cls = .type "list" ∧ o.dict = none ∧ o.data = .seq its n ∧ its.size ≤ sizeLine ∧ Vals xs its.toList
theorem Scr.sq {a : Addr} {xs : List V} {l : Ents} {T : List NTab} {H : Hp} (h : Scr K a xs l) (w : Own T l H) : SqL K H a xs := by
  rcases h with ⟨o, hm, rfl | ⟨ob, rfl⟩⟩ | h
  · exact .inl (.inl (w.at hm))
  · exact .inl (.inr ⟨ob, w.at hm⟩)
  · exact .inr h
theorem Scr.mono {a : Addr} {xs : List V} {l l' : Ents} (h : Scr K a xs l) (s : ∀ p ∈ l, p ∈ l') : Scr K a xs l' := by
  rcases h with ⟨o, hm, h⟩ | h
  · exact .inl ⟨o, s _ hm, h⟩
  · exact .inr h
def spBag (T : List NTab) (K : PySem.W.Frag) : Sp := fun vs H Q _ => ∃ (a : Addr) (ns : List Int) (i : Int) (l : Ents), vs = [.ref a, .int i] ∧ Own T l H ∧ Scr K a (ns.map V.int) l ∧ 0 ≤ i ∧ i < 4 ∧ ∀ p g r H', Own T ((p, .lst [.int g, .int r, .int 0]) :: l) H' → Q (.ref p) H'
theorem ok_bag (Z : Facts K mg) (TB : TBs Z base) : FnOk P wd K mg base CX0 1 Z.a_bag Z.d_bag ["_law_script", "_law_at"] (spBag (T78 Z) K) := by
  refine Z.F_bag.ok sc_bag (fun vs H Q E h => ?_) (fun cdv A outer s H vs Q E hr h => ?_)
  · obtain ⟨a, ns, i, l, rfl, _⟩ := h
    rfl
  · obtain ⟨a, ns, i, l, rfl, w, hS, h0, h4, q⟩ := h
    refine ⟨_, (pss_cons (ps_set (i := 2) sc_bag.nd rfl (Or.inl rfl) pe_int)
      (pss_cons (ps_if (pt_cmpR op_lt (pv 1) (pe_callB (lenL (K := K)) (by rfl) Z.z_len bt_len (pa_cons (pv 0) pa_nil)) (nomark _))
      (pss_one (ps_set (i := 2) sc_bag.nd rfl (Or.inl rfl) (pe_ix (ixL (K := K)) (pv 0) (pv 1) (fun _ _ => rfl))))
      pss_nil)
      (pss_cons (ps_set (i := 3) sc_bag.nd rfl (Or.inl rfl) pe_int)
      (pss_cons (ps_if (pt_cmpR op_ge (pe_callB call_abs (by rfl) Z.z_abs bt_abs (pa_cons (pv 2) pa_nil)) (pe_op op_pow pe_int pe_int) (nomark _))
      (pss_one (ps_set (i := 3) sc_bag.nd rfl (Or.inl rfl) (pe_callB call_abs (by rfl) Z.z_abs bt_abs (pa_cons (pv 2) pa_nil))))
      pss_nil)
      (pss_cons (ps_set (i := 4) sc_bag.nd rfl (Or.inl rfl) (pe_lst (pa_cons pe_int (pa_cons pe_int (pa_cons pe_int (pa_cons pe_int (pa_cons pe_int (pa_cons pe_int (pa_cons pe_int (pa_cons pe_int pa_nil))))))))))
      (pss_one (ps_ret (pe_lst (pa_cons (pv 3) (pa_cons (pe_op op_mod (pe_op op_pow (pe_op op_add (pe_op op_add (pe_op op_mod (pv 2) pe_int) (pe_op op_mul pe_int (pv 1))) pe_int) pe_int) (pe_ix (ixL (K := K)) (pv 4) (pe_op op_mod (pv 1) pe_int) (fun _ _ => rfl))) (pa_cons pe_int pa_nil))))))))))), ?_⟩
    have hs := hS.sq w
    have hs2 : SqL K H a (ns.map V.int) ∨ SqT K H a (ns.map V.int) := .inl hs
    have hpr : ∃ v : Int, 0 < v ∧ atI [V.int 2147483629, .int 2147483587, .int 2147483579, .int 2147483563, .int 2147483549, .int 2147483543, .int 2147483497, .int 2147483489] (i % 8) = some (.int v) := by
      obtain rfl | rfl | rfl | rfl : i = 0 ∨ i = 1 ∨ i = 2 ∨ i = 3 := by omega
      · exact ⟨_, by decide, rfl⟩
      · exact ⟨_, by decide, rfl⟩
      · exact ⟨_, by decide, rfl⟩
      · exact ⟨_, by decide, rfl⟩
    obtain ⟨v, hv, hpr⟩ := hpr
    repeat tm_at "s1"
    refine ite2 (fun e => ?_) (fun e => ?_)
    · obtain ⟨z, hz⟩ : ∃ z : Int, atI (ns.map V.int) i = some (.int z) := by
        obtain ⟨j, rfl⟩ : ∃ j : Nat, i = j := ⟨i.toNat, by omega⟩
        simp at e
        refine ⟨ns[j], atI_nat ?_⟩
        rw [List.getElem?_map, List.getElem?_eq_getElem e]
        rfl
      repeat tm_at "s1"
      refine ite2 (fun e => ?_) (fun e => ?_)
      · repeat tm_at "s1"
        exact q _ _ _ _ (w.picks [0] 2)
      · repeat tm_at "s1"
        exact q _ _ _ _ (w.picks [0] 2)
    · repeat tm_at "s1"
      exact q _ _ _ _ (w.picks [0] 2)
def spTake (T : List NTab) : Sp := fun vs H Q _ => ∃ (b : Addr) (g r c m : Int) (l : Ents), vs = [.ref b, .int m] ∧ Own T ((b, .lst [.int g, .int r, .int c]) :: l) H ∧ 0 < m ∧ m < 1073741824 ∧ ∀ d g' r' c' H', 0 ≤ d → d < m → Own T ((b, .lst [.int g', .int r', .int c']) :: l) H' → Q (.int d) H'
theorem ok_take (Z : Facts K mg) (TB : TBs Z base) : FnOk P wd K mg base CX0 1 Z.a_take Z.d_take ["_law_bag_here", "_law_count"] (spTake (T78 Z)) := by
  refine Z.F_take.ok sc_take (fun vs H Q E h => ?_) (fun cdv A outer s H vs Q E hr h => ?_)
  · obtain ⟨b, g, r, c, m, l, rfl, _⟩ := h
    rfl
  · obtain ⟨b, g, r, c, m, l, rfl, w, h0, h1, q⟩ := h
    refine ⟨_, (pss_cons (ps_if (pt_cmpR op_gt (pe_ix (ixL (K := K)) (pv 0) pe_int (fun _ _ => rfl)) pe_int (nomark _))
      (pss_cons (ps_set (i := 2) sc_take.nd rfl (Or.inl rfl) (pe_op op_mod (pe_ix (ixL (K := K)) (pv 0) pe_int (fun _ _ => rfl)) (pv 1)))
      (pss_cons (ps_asg (pe_op op_fdiv (pe_ix (ixL (K := K)) (pv 0) pe_int (fun _ _ => rfl)) (pv 1)) (pg_sub (pv 0) pe_int set_list))
      (pss_one (ps_ret (pv 2)))))
      pss_nil)
      (pss_cons (ps_asg (pe_op op_add (pe_ix (ixL (K := K)) (pv 0) pe_int (fun _ _ => rfl)) pe_int) (pg_sub (pv 0) pe_int set_list))
      (pss_cons (ps_asg (pe_op op_mod (pe_op op_add (pe_op op_add (pe_op op_mul (pe_ix (ixL (K := K)) (pv 0) pe_int (fun _ _ => rfl)) pe_int) (pe_op op_mul pe_int (pe_ix (ixL (K := K)) (pv 0) pe_int (fun _ _ => rfl)))) pe_int) pe_int) (pg_sub (pv 0) pe_int set_list))
      (pss_one (ps_ret (pe_op op_mod (pe_op op_mod (pe_op op_pow (pe_op op_fdiv (pe_ix (ixL (K := K)) (pv 0) pe_int (fun _ _ => rfl)) pe_int) pe_int) pe_int) (pv 1))))))), ?_⟩
    repeat tm_at "s1"
    refine ite2 (fun hg => ?_) (fun hg => ?_)
    · repeat tm_at "s1"
      exact q _ _ _ _ _ (Int.emod_nonneg _ (by omega)) (Int.emod_lt_of_pos _ h0) w
    · repeat tm_at "s1"
      exact q _ _ _ _ _ (Int.emod_nonneg _ (by omega)) (Int.emod_lt_of_pos _ h0) w
/-- a list of pairs among the entries -/
def PairsAt (l : Ents) (pl : Addr) (ps : List (Nat × Nat)) : Prop := ∃ as : List Addr, (pl, HO.lst (as.map V.ref)) ∈ l ∧ as.length = ps.length ∧ ∀ (i : Nat) (a : Addr) (p : Nat × Nat), as[i]? = some a → ps[i]? = some p → (a, HO.tup [.int p.1, .int p.2]) ∈ l
theorem PairsAt.mono {l l' : Ents} {pl : Addr} {ps : List (Nat × Nat)} (h : PairsAt l pl ps) (s : ∀ p ∈ l, p ∈ l') : PairsAt l' pl ps := by
  obtain ⟨as, h1, h2, h3⟩ := h
  exact ⟨as, s _ h1, h2, fun i a p e1 e2 => s _ (h3 i a p e1 e2)⟩
theorem inV_nV {x : Nat} {F : List Nat} : inV (.int (x : Int)) (nV F) = decide (x ∈ F) := by
  unfold inV nV
  rw [Bool.eq_iff_iff]
  simp [eqV]
  exact ⟨fun ⟨y, h, e⟩ => by rw [show x = y by omega]; exact h, fun h => ⟨x, h, rfl⟩⟩
theorem sweeps_nodup (ps : List (Nat × Nat)) (x k : Nat) : (sweeps ps k [x]).Nodup := (sweeps_all ps x k).1
theorem len_le {n : Nat} {F : List Nat} (h1 : F.Nodup) (h2 : ∀ y ∈ F, y < n) : F.length ≤ n := by
  have e : F.length = ((List.range n).filter (fun y => decide (y ∈ F))).length := same_len h1 (List.Nodup.sublist (List.filter_sublist ..) List.nodup_range) fun y => by
    rw [List.mem_filter, List.mem_range, decide_eq_true_eq]
    exact ⟨fun h => ⟨h2 y h, h⟩, fun h => h.2⟩
  rw [e]
  exact Nat.le_trans (List.length_filter_le ..) (by rw [List.length_range]; omega)
def spComp (T : List NTab) : Sp := fun vs H Q _ => ∃ (pl : Addr) (x n : Nat) (ps : List (Nat × Nat)) (l : Ents), vs = [.ref pl, .int x] ∧ Own T l H ∧ PairsAt l pl ps ∧ x < n ∧ (∀ p ∈ ps, p.1 < n ∧ p.2 < n) ∧ n ≤ 10000 ∧ ps.length < 100000 ∧ ∀ f H', Own T ((f, .lst (nV (comp ps x))) :: l) H' → Q (.ref f) H'
theorem ok_component (Z : Facts K mg) (TB : TBs Z base) : FnOk P wd K mg base CX0 1 Z.a_component Z.d_component ["_law_pairs", "_law_point"] (spComp (T78 Z)) := by
  refine Z.F_component.ok sc_component (fun vs H Q E h => ?_) (fun cdv A outer s H vs Q E hr h => ?_)
  · obtain ⟨pl, x, n, ps, l, rfl, _⟩ := h
    rfl
  · obtain ⟨pl, x, n, ps, l, rfl, w, hP, hx, hps, hn, hlen, q⟩ := h
    refine ⟨_, (pss_cons (ps_set (i := 2) sc_component.nd rfl (Or.inl rfl) (pe_lst (pa_cons (pv 1) pa_nil)))
      (pss_cons (ps_for PassesOwn.never rfl (pi_range1 (by rfl) Z.z_range (pa_cons (pe_callB (lenL (K := K)) (by rfl) Z.z_len bt_len (pa_cons (pv 0) pa_nil)) pa_nil)) (pg_name (i := 3) sc_component.nd rfl (Or.inl rfl))
      (pss_one (ps_for PassesOwn.never rfl (pi_list (pv 0)) (pg_tup rfl (pgs_cons (pg_name (i := 4) sc_component.nd rfl (Or.inl rfl)) (pgs_cons (pg_name (i := 5) sc_component.nd rfl (Or.inl rfl)) pgs_nil)))
      (pss_one (ps_if (pt_cmpR op_ne (pe_cmpR (opIn (K := K)) (pv 4) (pv 2) (by with_unfolding_all rfl)) (pe_cmpR (opIn (K := K)) (pv 5) (pv 2) (by with_unfolding_all rfl)) (nomark _))
      (pss_one (ps_expr (pe_bm PySem.F.plainAttrs_list PySem.F.slot_list_append PySem.F.type_list_append mt_append (pv 2) (pa_cons (pe_ifExp (pt_cmpR (opIn (K := K)) (pv 4) (pv 2) (by with_unfolding_all rfl)) (pv 5) (pv 4)) pa_nil))))
      pss_nil)))))
      (pss_one (ps_ret (pv 2))))), ?_⟩
    obtain ⟨as, h1, h2, h3⟩ := hP
    have hl : (as.map V.ref).length = ps.length := by rw [List.length_map, h2]
    repeat tm_at "s1"
    refine for_range (fun k σ H' => ∃ t o e, σ = [some (.ref pl), some (.int x), some (.ref p), t, o, e] ∧ Own (T78 Z) ((p, .lst (nV (sweeps ps k [x]))) :: l) H') ⟨_, _, _, rfl, w⟩ (fun i σ H' hi hp => ?_) (fun σ H' hp => ?_)
    · obtain ⟨t, o, e, rfl, w⟩ := hp
      repeat tm_at "s1"
      refine for_list (K := K) (a := pl) (xs := as.map V.ref) (fun k σ H' => ∃ o e, σ = [some (.ref pl), some (.int x), some (.ref p), some (.int (0 + (i : Nat))), o, e] ∧ Own (T78 Z) ((p, .lst (nV ((ps.take k).foldl sweepP (sweeps ps i [x])))) :: l) H') ⟨_, _, rfl, w⟩ (fun k σ H' hk hp => ?_) (fun k v σ H' hk hp => ?_) (fun σ H' hp => ?_)
      · obtain ⟨o, e, rfl, w⟩ := hp
        exact SqL.of (w.at (by tm_at "own"))
      · obtain ⟨o, e, rfl, w⟩ := hp
        rw [List.getElem?_map] at hk
        obtain ⟨a, ha, rfl⟩ := Option.map_eq_some_iff.mp hk
        obtain ⟨pr, hpr⟩ : ∃ pr, ps[k]? = some pr := ⟨_, List.getElem?_eq_getElem (by rw [← h2]; exact lt_of_get ha)⟩
        have hm := h3 k a pr ha hpr
        have hFd : ((ps.take k).foldl sweepP (sweeps ps i [x])).Nodup := fold_nodup _ (sweeps_nodup ps x i)
        have hFc := fold_conn (ps := ps) (x := x) (ps.take k) (F := sweeps ps i [x]) (fun q hq => List.mem_of_mem_take hq) (sweeps_all ps x i).2.2
        have et : (ps.take (k + 1)).foldl sweepP (sweeps ps i [x]) = sweepP ((ps.take k).foldl sweepP (sweeps ps i [x])) pr := by
          rw [List.take_add_one, hpr, List.foldl_append]
          rfl
        rw [et]
        generalize (ps.take k).foldl sweepP (sweeps ps i [x]) = F at *
        have hFl : (nV F).length < sizeLine := by
          rw [nV_len, PySem.sizeLine_eq]
          have := len_le hFd fun y hy => (hFc y hy).inr hps hx
          omega
        repeat tm_at "s1"
        refine ite2 (fun c => ?_) (fun c => ?_)
        · have c' : ¬ (pr.1 ∈ F ↔ pr.2 ∈ F) := by simpa [inV_nV] using c
          have es : sweepP F pr = F ++ [if pr.1 ∈ F then pr.2 else pr.1] := by
            unfold sweepP
            rw [if_pos]
            by_cases d1 : pr.1 ∈ F <;> by_cases d2 : pr.2 ∈ F <;> simp [d1, d2] at c' ⊢
          rw [es]
          repeat tm_at "s1"
          refine ite2 (fun d => ?_) (fun d => ?_)
          · have d' : pr.1 ∈ F := by simpa [inV_nV] using d
            rw [if_pos d']
            repeat tm_at "s1"
            rw [show nV F ++ [V.int (pr.2 : Int)] = nV (F ++ [pr.2]) by simp [nV]] at w
            exact w
          · have d' : ¬ pr.1 ∈ F := by simpa [inV_nV] using d
            rw [if_neg d']
            repeat tm_at "s1"
            rw [show nV F ++ [V.int (pr.1 : Int)] = nV (F ++ [pr.1]) by simp [nV]] at w
            exact w
        · have c' : (pr.1 ∈ F ↔ pr.2 ∈ F) := by simpa [inV_nV] using c
          rw [sweepP_id c']
          repeat tm_at "s1"
          exact w
      · obtain ⟨o, e, rfl, w⟩ := hp
        rw [hl, List.take_length] at w
        exact ⟨_, _, _, rfl, w⟩
    · obtain ⟨t, o, e, rfl, w⟩ := hp
      repeat tm_at "s1"
      rw [show ((as.map V.ref).length : Int).toNat = ps.length by omega] at w
      exact q _ _ w
end
end Og
namespace Og
open PySem L2 NdefX LamX
set_option hygiene false in
local macro_rules | `(tactic| tm_at "own") => `(tactic| first
  | exact List.Mem.head _
  | (apply List.Mem.tail; tm_at "own")
  | assumption)
set_option hygiene false in
local macro_rules | `(tactic| tm_at "num") => `(tactic| first
  | omega
  | (exact And.intro (by omega) (by omega))
  | (exact Or.inl (And.intro (by omega) (by omega)))
  | (exact Or.inr (And.intro (by omega) (by omega)))
  | (exact And.intro (by omega) (And.intro (by omega) (by omega)))
  | exact rfl
  | exact of_decide_eq_true rfl)
set_option hygiene false in
local macro_rules | `(tactic| tm_at "seq") => `(tactic| first
  | exact SqL.of (w.at (by tm_at "own"))
  | exact Or.inl (SqL.of (w.at (by tm_at "own")))
  | exact SqT.of (w.at (by tm_at "own"))
  | exact Or.inr (SqT.of (w.at (by tm_at "own")))
  | assumption)
set_option hygiene false in
local macro_rules | `(tactic| tm_at "hp") => `(tactic| first
  | (intro p hp; generalize hw : upd _ p _ = H2; replace w := own_new w hp hw; clear hw hp)
  | (generalize hw : upd _ _ _ = H2; (first
    | replace w := own_put (i := 0) w rfl hw
    | replace w := own_put (i := 1) w rfl hw
    | replace w := own_put (i := 2) w rfl hw
    | replace w := own_put (i := 3) w rfl hw
    | replace w := own_put (i := 4) w rfl hw
    | replace w := own_put (i := 5) w rfl hw
    | replace w := own_put (i := 6) w rfl hw
    | replace w := own_put (i := 7) w rfl hw); clear hw; dsimp only [List.set] at w))
set_option hygiene false in
local macro_rules | `(tactic| tm_at "s1") => `(tactic| first
  | refine ⟨_, rfl, ?_⟩
  | refine ⟨_, _, rfl, rfl, ?_⟩
  | refine ⟨_, _, _, _, _, rfl, w.at (by tm_at "own"), by tm_at "cls", (by tm_at "na"), (by tm_at "lk"), ?_⟩
  | refine ⟨_, _, _, _, rfl, rfl, (by tm_at "seq"), (by tm_at "at"), ?_⟩
  | refine ⟨_, _, _, _, rfl, rfl, w.at (by tm_at "own"), (by tm_at "ixn"), ?_⟩
  | refine ⟨_, _, _, rfl, rfl, w.at (by tm_at "own"), (by tm_at "len"), ?_⟩
  | refine ⟨_, _, rfl, (by tm_at "seq"), (by tm_at "flat"), (by tm_at "flat"), ?_⟩
  | refine ⟨_, _, rfl, (by tm_at "seq"), ?_⟩
  | refine And.intro ⟨_, (by tm_at "seq")⟩ ?_
  | refine ⟨_, w.at (by tm_at "own"), (by tm_at "num"), ?_⟩
  | refine ⟨_, _, _, _, rfl, w.at (by tm_at "own"), by tm_at "cls", (by tm_at "na"), (by tm_at "flen"), ?_⟩
  | refine ⟨_, _, w.at (by tm_at "own"), (by tm_at "flen"), ?_⟩
  | refine ⟨_, _, _, rfl, w.at (by tm_at "own"), (by tm_at "nolk"), ?_⟩
  | refine ⟨_, _, _, rfl, rfl, w.at (by tm_at "own"), (by omega), (by omega), (by rw [PySem.sizeLine_eq]; simp; omega), ?_⟩
  | refine And.intro (Or.inl ⟨rfl, _, SqL.of (w.at (by tm_at "own"))⟩) ?_
  | refine And.intro (by tm_at "num") ?_
  | refine ⟨_, _, _, rfl, (by tm_at "seq"), ?_⟩
  | refine ⟨_, _, _, rfl, rfl, (by tm_at "seq"), (by tm_at "seq"), ?_⟩
  | refine ⟨_, _, rfl, ?_⟩
  | tm_at "hp")
set_option hygiene false in
local macro_rules | `(tactic| tm_at "cls") => `(tactic| exact Z.k_Unions)
set_option hygiene false in
local macro_rules | `(tactic| tm_at "na") => `(tactic| first
  | exact Z.na_Unions_above
  | exact Z.na_Unions_sizes_of
  | exact Z.na_Unions_groups
  | exact Z.na_Unions_lowered)
set_option hygiene false in
local macro_rules | `(tactic| tm_at "lk") => `(tactic| first
  | exact fU_above
  | exact fU_sizes_of
  | exact fU_groups
  | exact fU_lowered)
set_option hygiene false in
local macro_rules | `(tactic| tm_at "nolk") => `(tactic| first
  | exact fU_n_root
  | exact fU_n_push
  | exact fU_n_pop
  | exact fU_n_ask)
set_option hygiene false in
local macro_rules | `(tactic| tm_at "flen") => `(tactic| exact of_decide_eq_true rfl)
set_option hygiene false in
local macro_rules | `(tactic| tm_at "at") => `(tactic| first
  | exact atI_nV (by assumption)
  | assumption
  | exact atI_last _ _
  | rfl)
set_option hygiene false in
local macro_rules | `(tactic| tm_at "ixn") => `(tactic| first
  | rfl
  | exact ixN_nat (by assumption))
set_option hygiene false in
local macro_rules | `(tactic| tm_at "len") => `(tactic| first
  | assumption)
set_option hygiene false in
local macro_rules | `(tactic| tm_at "flat") => `(tactic| first
  | exact flat_nV _
  | exact (rfl : flatV (V.int _) = true)
  | exact (rfl : flatV (V.str _) = true))

section
variable {P : Program} {wd : World} {K : PySem.W.Frag} {mg : Str → Option Value} {base : Heap}
theorem perm_nat {F : List Nat} {ns : List Int} (h : ns.Perm (F.map fun n : Nat => (n : Int))) : ∃ s : List Nat, ns = s.map (fun n : Nat => (n : Int)) ∧ s.Perm F := by
  refine ⟨ns.map Int.toNat, ?_, ?_⟩
  · rw [List.map_map]
    have : ∀ z ∈ ns, 0 ≤ z := fun z hz => by
      obtain ⟨n, _, rfl⟩ := List.mem_map.mp (h.mem_iff.mp hz)
      omega
    have e : ns.map ((fun n : Nat => (n : Int)) ∘ Int.toNat) = ns.map id := List.map_congr_left fun z hz => by
      have := this z hz
      show ((z.toNat : Nat) : Int) = z
      omega
    rw [e, List.map_id]
  · have e := h.map Int.toNat
    rw [List.map_map] at e
    have e2 : F.map (Int.toNat ∘ fun n : Nat => (n : Int)) = F := by
      rw [List.map_congr_left (g := id) (fun z _ => by show ((z : Int)).toNat = z; omega), List.map_id]
    rw [e2] at e
    exact e
theorem nV_ints (s : List Nat) : nV s = (s.map fun n : Nat => (n : Int)).map V.int := by
  unfold nV
  rw [List.map_map]
  rfl
/-- the sorted components of the first k points -/
def Parts (ps : List (Nat × Nat)) (qs : List Addr) (J : Ents) : Prop := ∀ (i : Nat) (q : Addr), qs[i]? = some q → ∃ s : List Nat, (q, HO.lst (nV s)) ∈ J ∧ s.Perm (comp ps i) ∧ s.Pairwise (· ≤ ·)
noncomputable def least (ps : List (Nat × Nat)) (y : Nat) : Bool := @decide (∀ z, Conn ps y z → y ≤ z) (Classical.propDecidable _)
theorem first_least {ps : List (Nat × Nat)} {y : Nat} {s : List Nat} (h1 : s.Perm (comp ps y)) (h2 : s.Pairwise (· ≤ ·)) : ∃ m, s[0]? = some m ∧ (m = y ↔ least ps y = true) := by
  have hy : y ∈ s := h1.mem_iff.mpr (comp_mem.mpr (.refl _))
  cases s with
  | nil => cases hy
  | cons m r =>
    refine ⟨m, rfl, ?_⟩
    unfold least
    rw [@decide_eq_true_eq _ (Classical.propDecidable _)]
    have hm : ∀ z, Conn ps y z → m ≤ z := fun z hz => by
      rcases List.mem_cons.mp (h1.mem_iff.mpr (comp_mem.mpr hz)) with e | h
      · omega
      · exact (List.pairwise_cons.mp h2).1 z h
    have mc : Conn ps y m := comp_mem.mp (h1.mem_iff.mp (List.mem_cons_self ..))
    exact ⟨fun e => by subst e; exact hm, fun h => Nat.le_antisymm (hm y (.refl _)) (h m mc)⟩
def spRight (T : List NTab) (C : Addr) : Sp := fun vs H Q _ => ∃ (U : UA) (n : Nat) (ps : List (Nat × Nat)) (up sz : List Nat) (g : Int) (low : List (Option Nat)) (R : Ents) (pl : Addr), vs = [.ref U.u, .ref pl, .int n] ∧ Own T (UE C U up sz g low R) H ∧ PairsAt R pl ps ∧ St n ps up sz g low ∧ n ≤ 1000 ∧ ps.length < 100000 ∧
  ∀ H', Own T (UE C U up sz g low R) H' → Q (.bl true) H'
theorem ok_right (Z : Facts K mg) (TB : TBs Z base) : FnOk P wd K mg base CX0 3 Z.a_right Z.d_right ["_law_unions", "_law_pairs", "_law_wide"] (spRight (T78 Z) Z.C_Unions) := by
  refine Z.F_right.ok sc_right (fun vs H Q E h => ?_) (fun cdv A outer s H vs Q E hr h => ?_)
  · obtain ⟨U, n, ps, up, sz, g, low, R, pl, rfl, _⟩ := h
    rfl
  · obtain ⟨U, n, ps, up, sz, g, low, R, pl, rfl, w, hP, S, hn, hlen, q⟩ := h
    refine ⟨_, (pss_cons (ps_set (i := 3) sc_right.nd rfl (Or.inr rfl) (pe_lc (own := [("_law_point", 6)]) (g := gName 6) (tt := tYes) rfl sc_right.nd (pi_range1 (by rfl) Z.z_range (pa_cons (pv 2) pa_nil)) (blkOk_by (own := [("_law_point", 6)]) (N := n_right) (sc := defScope s_right) (by decide +kernel)) (fun _ _ _ _ _ => (pg_name (i := 6) sc_right.nd rfl (Or.inl rfl))) (fun _ _ _ _ _ => pts_nil) (fun _ _ _ _ _ => (pe_callB (sortedI (K := K)) (by rfl) Z.z_sorted bt_sorted (pa_cons (pe_call (ok_component Z TB) (hr.mono (by decide)) rfl Z.m_component Z.F_component.kp (b_component Z) .nil pass0 (pa_cons (pv 1) (pa_cons (pv 6) pa_nil))) pa_nil)))))
      (pss_cons (ps_for PassesOwn.never rfl (pi_range1 (by rfl) Z.z_range (pa_cons (pv 2) pa_nil)) (pg_name (i := 4) sc_right.nd rfl (Or.inl rfl))
      (pss_cons (ps_if (pt_cmpR op_ne (pe_meth (pv 0) Z.k_Unions Z.t_Unions_ask (ok_Unions_ask Z TB) (hr.mono (by decide)) (b_Unions_ask Z) .nil pass0 (pa_cons (pe_tup (pa_cons pe_str (pa_cons (pv 4) pa_nil))) pa_nil)) (pe_callB (lenL (K := K)) (by rfl) Z.z_len bt_len (pa_cons (pe_ix (ixL (K := K)) (pv 3) (pv 4) (fun _ _ => rfl)) pa_nil)) (nomark _))
      (pss_one (ps_ret pe_bl))
      pss_nil)
      (pss_one (ps_for PassesOwn.never rfl (pi_range1 (by rfl) Z.z_range (pa_cons (pv 2) pa_nil)) (pg_name (i := 5) sc_right.nd rfl (Or.inl rfl))
      (pss_one (ps_if (pt_cmpR op_ne (pe_callB call_repr_bl (by rfl) Z.z_repr bt_repr (pa_cons (pe_meth (pv 0) Z.k_Unions Z.t_Unions_ask (ok_Unions_ask Z TB) (hr.mono (by decide)) (b_Unions_ask Z) .nil pass0 (pa_cons (pe_tup (pa_cons pe_str (pa_cons (pv 4) (pa_cons (pv 5) pa_nil)))) pa_nil)) pa_nil)) (pe_callB call_repr_bl (by rfl) Z.z_repr bt_repr (pa_cons (pe_cmpR (opIn (K := K)) (pv 5) (pe_ix (ixL (K := K)) (pv 3) (pv 4) (fun _ _ => rfl)) (by with_unfolding_all rfl)) pa_nil)) (nomark _))
      (pss_one (ps_ret pe_bl))
      pss_nil))))))
      (pss_one (ps_ret (pe_cmpR op_eq (pe_meth (pv 0) Z.k_Unions Z.t_Unions_ask (ok_Unions_ask Z TB) (hr.mono (by decide)) (b_Unions_ask Z) .nil pass0 (pa_cons (pe_tup (pa_cons pe_str pa_nil)) pa_nil)) (pe_callB (lenL (K := K)) (by rfl) Z.z_len bt_len (pa_cons (pe_lc (own := [("_law_point", 6)]) (g := gName 6)  rfl sc_right.nd (pi_range1 (by rfl) Z.z_range (pa_cons (pv 2) pa_nil)) (blkOk_by (own := [("_law_point", 6)]) (N := n_right) (sc := defScope s_right) (by decide +kernel)) (fun _ _ _ _ _ => (pg_name (i := 6) sc_right.nd rfl (Or.inl rfl))) (fun _ _ _ _ _ => (pts_one (pt_cmpR op_eq (pe_ix (ixL (K := K)) (pe_ix (ixL (K := K)) (pv 3) (pv 6) (fun _ _ => rfl)) pe_int (fun _ _ => rfl)) (pv 6) (nomark _)))) (fun _ _ _ _ _ => (pv 6))) pa_nil)) (nomark _)))))), ?_⟩
    have G := S.good
    repeat tm_at "s1"
    obtain ⟨D, rfl⟩ : ∃ D, D = p := ⟨_, rfl⟩
    refine lcR w (fun k H' => ∃ (qs : List Addr) (J : Ents), Own (T78 Z) (UE Z.C_Unions U up sz g low ((D, .lst (qs.map V.ref)) :: (J ++ R))) H' ∧ qs.length = k ∧ Parts ps qs J) ⟨[], [], w.picks [1, 2, 3, 4, 0] 5, rfl, fun i q h => by simp at h⟩ (fun i H' hi hp => ?_) (fun H' hp => ?_)
    · obtain ⟨qs, J, w, hl, hq⟩ := hp
      have hi : i < n := by omega
      rw [Int.zero_add]
      repeat tm_at "s1"
      refine ⟨pl, i, n, ps, _, rfl, w, hP.mono fun p hp => ?_, hi, G.inr, by omega, hlen, fun f H2 w => ?_⟩
      · exact .tail _ (.tail _ (.tail _ (.tail _ (.tail _ (List.mem_append_right _ hp)))))
      · refine ⟨_, (comp ps i).map (fun n : Nat => (n : Int)), rfl, by rw [← nV_ints]; exact SqL.of (w.at (List.Mem.head _)), fun ns' q' hperm hsort hq' => ?_⟩
        obtain ⟨s, rfl, hs⟩ := perm_nat hperm
        generalize hw : upd _ q' _ = H3
        replace w := own_new w hq' hw
        rw [← nV_ints] at w
        clear hw hq'
        have hql : (qs.map V.ref).length < sizeLine := by
          rw [List.length_map, hl, PySem.sizeLine_eq]
          omega
        refine ⟨_, w.at (by tm_at "own"), hql, ?_⟩
        tm_at "hp"
        refine ⟨qs ++ [q'], (q', .lst (nV s)) :: (f, .lst (nV (comp ps i))) :: J, ?_, by simp [hl], fun j a ha => ?_⟩
        · rw [List.map_append]
          exact w.picks [2, 3, 4, 5, 6, 0, 1] 7
        · rcases Nat.lt_or_ge j qs.length with hj | hj
          · rw [List.getElem?_append_left hj] at ha
            obtain ⟨s, h1, h2⟩ := hq j a ha
            exact ⟨s, .tail _ (.tail _ h1), h2⟩
          · rw [List.getElem?_append_right hj] at ha
            have e : j - qs.length = 0 := by
              have := lt_of_get ha
              simp at this
              omega
            rw [e] at ha
            obtain rfl := Option.some.inj ha
            obtain rfl : j = i := by omega
            refine ⟨s, List.mem_cons_self .., hs, ?_⟩
            rw [List.pairwise_map] at hsort
            exact hsort.imp fun h => by omega
    · obtain ⟨qs, J, w, hl, hq⟩ := hp
      have hl : qs.length = n := by omega
      have hat : ∀ i, i < n → ∃ qa s, atI (qs.map V.ref) ((i : Nat) : Int) = some (V.ref qa) ∧ (qa, HO.lst (nV s)) ∈ J ++ R ∧ s.Perm (comp ps i) ∧ s.Pairwise (· ≤ ·) := fun i hi => by
        obtain ⟨qa, hqa⟩ : ∃ qa, qs[i]? = some qa := ⟨_, List.getElem?_eq_getElem (by rw [hl]; exact hi)⟩
        obtain ⟨s, h1, h2⟩ := hq i qa hqa
        refine ⟨qa, s, atI_nat ?_, List.mem_append_left _ h1, h2⟩
        rw [List.getElem?_map, hqa]
        rfl
      generalize hR : J ++ R = R1 at w hat
      repeat tm_at "s1"
      refine for_range (fun k σ H' => ∃ o e, σ = [some (.ref U.u), some (.ref pl), some (.int n), some (.ref D), o, e, none] ∧ Own (T78 Z) (UE Z.C_Unions U up sz g low ((D, .lst (qs.map V.ref)) :: R1)) H') ⟨_, _, rfl, w⟩ (fun i σ H' hi hp => ?_) (fun σ H' hp => ?_)
      · obtain ⟨o, e, rfl, w⟩ := hp
        have hi : i < n := by omega
        obtain ⟨qa, t, ha1, hm, hp1, hp2⟩ := hat i hi
        obtain ⟨r, hr, Rr⟩ := G.root i hi
        obtain ⟨L, l1, l2, l3⟩ := G.size i r hi Rr
        rw [Int.zero_add]
        repeat tm_at "s1"
        refine ⟨U, n, ps, up, sz, g, low, _, _, rfl, w.picks [1, 2, 3, 4, 0] 5, S, .inr (.inl ⟨i, r, L.length, hi, Rr, l3, List.Mem.head _, fun H3 w => ?_⟩)⟩
        replace w := w.picks [0, 1, 2, 3] 5
        have w : Own (T78 Z) (UE Z.C_Unions U up sz g low ((D, .lst (qs.map V.ref)) :: R1)) H3 := w
        repeat tm_at "s1"
        have el : L.length = (nV t).length := by
          rw [nV_len]
          exact same_len l1 (hp1.nodup_iff.mpr (comp_nodup ps i)) fun y => by
            rw [l2, hp1.mem_iff, comp_mem]
            exact ⟨fun h => h.2, fun h => ⟨h.inr G.inr hi, h⟩⟩
        refine ite_f (by rw [el]; simp) ?_
        repeat tm_at "s1"
        refine for_range (fun k σ H' => ∃ e, σ = [some (.ref U.u), some (.ref pl), some (.int n), some (.ref D), some (.int i), e, none] ∧ Own (T78 Z) (UE Z.C_Unions U up sz g low ((D, .lst (qs.map V.ref)) :: R1)) H') ⟨_, rfl, w⟩ (fun j σ H' hj hp => ?_) (fun σ H' hp => ?_)
        · obtain ⟨e, rfl, w⟩ := hp
          have hj : j < n := by omega
          obtain ⟨r2, hr2, Rr2⟩ := G.root j hj
          rw [Int.zero_add]
          repeat tm_at "s1"
          refine ⟨U, n, ps, up, sz, g, low, _, _, rfl, w.picks [1, 2, 3, 4, 0] 5, S, .inr (.inr ⟨i, j, r, r2, hi, hj, Rr, Rr2, List.Mem.head _, fun H3 w => ?_⟩)⟩
          replace w := w.picks [0, 1, 2, 3] 5
          have w : Own (T78 Z) (UE Z.C_Unions U up sz g low ((D, .lst (qs.map V.ref)) :: R1)) H3 := w
          have eb : decide (r = r2) = inV (.int (j : Int)) (nV t) := by
            rw [inV_nV]
            apply decide_eq_decide.mpr
            rw [G.conn i j r r2 hi hj Rr Rr2, hp1.mem_iff, comp_mem]
          repeat tm_at "s1"
          refine ite_f (by rw [eb]; simp) ?_
          exact ⟨_, rfl, w⟩
        · obtain ⟨e, rfl, w⟩ := hp
          exact ⟨_, _, rfl, w⟩
      · obtain ⟨o, e, rfl, w⟩ := hp
        repeat tm_at "s1"
        refine ⟨U, n, ps, up, sz, g, low, _, _, rfl, w.picks [1, 2, 3, 4, 0] 5, S, .inl ⟨List.Mem.head _, fun H3 w => ?_⟩⟩
        replace w := w.picks [0, 1, 2, 3] 5
        have w : Own (T78 Z) (UE Z.C_Unions U up sz g low ((D, .lst (qs.map V.ref)) :: R1)) H3 := w
        repeat tm_at "s1"
        refine lcR w (fun k H' => Own (T78 Z) ((p, .lst (nV ((List.range k).filter (least ps)))) :: UE Z.C_Unions U up sz g low ((D, .lst (qs.map V.ref)) :: R1)) H') w (fun i H' hi w => ?_) (fun H' w => ?_)
        · have hi : i < n := by omega
          obtain ⟨qa, t, ha1, hm, hp1, hp2⟩ := hat i hi
          obtain ⟨m, hm0, hml⟩ := first_least hp1 hp2
          have h0 : atI (nV t) 0 = some (.int m) := atI_nV (x := 0) hm0
          have hfl : (nV ((List.range i).filter (least ps))).length < sizeLine := by
            rw [nV_len, PySem.sizeLine_eq]
            have := List.length_filter_le (least ps) (List.range i)
            rw [List.length_range] at this
            omega
          rw [Int.zero_add]
          repeat tm_at "s1"
          refine ite2 (fun c => ?_) (fun c => ?_)
          · have c' : least ps i = true := hml.mp (by simp at c; omega)
            repeat tm_at "s1"
            rw [List.range_succ, List.filter_append, show [i].filter (least ps) = [i] by simp [c']]
            rw [show nV ((List.range i).filter (least ps)) ++ [V.int (i : Int)] = nV ((List.range i).filter (least ps) ++ [i]) by simp [nV]] at w
            exact w
          · have c' : least ps i = false := by
              cases e : least ps i with
              | false => rfl
              | true =>
                exact absurd (by rw [hml.mpr e]; simp) c
            rw [List.range_succ, List.filter_append, show [i].filter (least ps) = [] by simp [c'], List.append_nil]
            exact w
        · repeat tm_at "s1"
          obtain ⟨L, l1, l2, l3⟩ := G.groups
          have eg : g = ((nV ((List.range (n : Int).toNat).filter (least ps))).length : Int) := by
            rw [l3, nV_len, Int.toNat_natCast]
            congr 1
            refine same_len l1 (List.nodup_range.sublist (List.filter_sublist ..)) fun y => ?_
            rw [l2, List.mem_filter, List.mem_range]
            unfold least
            rw [@decide_eq_true_eq _ (Classical.propDecidable _)]
          rw [← eg]
          have e := q H' ((w.picks [1, 2, 3, 4] 6).sub (hR ▸ ((((List.sublist_append_right J R).cons_cons _).cons_cons _).cons_cons _).cons_cons _))
          rw [show true = decide (V.int g = V.int g) by simp] at e
          exact e
end
end Og
namespace Og
open PySem L2 NdefX LamX
set_option hygiene false in
local macro_rules | `(tactic| tm_at "own") => `(tactic| first
  | exact List.Mem.head _
  | (apply List.Mem.tail; tm_at "own")
  | assumption)
set_option hygiene false in
local macro_rules | `(tactic| tm_at "num") => `(tactic| first
  | omega
  | (exact And.intro (by omega) (by omega))
  | (exact Or.inl (And.intro (by omega) (by omega)))
  | (exact Or.inr (And.intro (by omega) (by omega)))
  | (exact And.intro (by omega) (And.intro (by omega) (by omega)))
  | exact rfl
  | exact of_decide_eq_true rfl)
set_option hygiene false in
local macro_rules | `(tactic| tm_at "seq") => `(tactic| first
  | exact SqL.of (w.at (by tm_at "own"))
  | exact Or.inl (SqL.of (w.at (by tm_at "own")))
  | exact SqT.of (w.at (by tm_at "own"))
  | exact Or.inr (SqT.of (w.at (by tm_at "own")))
  | assumption)
set_option hygiene false in
local macro_rules | `(tactic| tm_at "hp") => `(tactic| first
  | (intro p hp; generalize hw : upd _ p _ = H2; replace w := own_new w hp hw; clear hw hp)
  | (generalize hw : upd _ _ _ = H2; (first
    | replace w := own_put (i := 0) w rfl hw
    | replace w := own_put (i := 1) w rfl hw
    | replace w := own_put (i := 2) w rfl hw
    | replace w := own_put (i := 3) w rfl hw
    | replace w := own_put (i := 4) w rfl hw
    | replace w := own_put (i := 5) w rfl hw
    | replace w := own_put (i := 6) w rfl hw
    | replace w := own_put (i := 7) w rfl hw); clear hw; dsimp only [List.set] at w))
set_option hygiene false in
local macro_rules | `(tactic| tm_at "s1") => `(tactic| first
  | refine ⟨_, rfl, ?_⟩
  | refine ⟨_, _, rfl, rfl, ?_⟩
  | refine ⟨_, _, _, _, _, rfl, w.at (by tm_at "own"), by tm_at "cls", (by tm_at "na"), (by tm_at "lk"), ?_⟩
  | refine ⟨_, _, _, _, rfl, rfl, (by tm_at "seq"), (by tm_at "at"), ?_⟩
  | refine ⟨_, _, _, _, rfl, rfl, w.at (by tm_at "own"), (by tm_at "ixn"), ?_⟩
  | refine ⟨_, _, _, rfl, rfl, w.at (by tm_at "own"), (by tm_at "len"), ?_⟩
  | refine ⟨_, _, rfl, (by tm_at "seq"), (by tm_at "flat"), (by tm_at "flat"), ?_⟩
  | refine ⟨_, _, rfl, (by tm_at "seq"), ?_⟩
  | refine And.intro ⟨_, (by tm_at "seq")⟩ ?_
  | refine ⟨_, w.at (by tm_at "own"), (by tm_at "num"), ?_⟩
  | refine ⟨_, _, _, _, rfl, w.at (by tm_at "own"), by tm_at "cls", (by tm_at "na"), (by tm_at "flen"), ?_⟩
  | refine ⟨_, _, w.at (by tm_at "own"), (by tm_at "flen"), ?_⟩
  | refine ⟨_, _, _, rfl, w.at (by tm_at "own"), (by tm_at "nolk"), ?_⟩
  | refine ⟨_, _, _, rfl, rfl, w.at (by tm_at "own"), (by omega), (by omega), (by rw [PySem.sizeLine_eq]; simp; omega), ?_⟩
  | refine And.intro (Or.inl ⟨rfl, _, SqL.of (w.at (by tm_at "own"))⟩) ?_
  | refine And.intro (by tm_at "num") ?_
  | refine ⟨_, _, _, rfl, (by tm_at "seq"), ?_⟩
  | refine ⟨_, _, _, rfl, rfl, (by tm_at "seq"), (by tm_at "seq"), ?_⟩
  | refine ⟨_, _, rfl, ?_⟩
  | tm_at "hp")
set_option hygiene false in
local macro_rules | `(tactic| tm_at "cls") => `(tactic| exact Z.k_Unions)
set_option hygiene false in
local macro_rules | `(tactic| tm_at "na") => `(tactic| first
  | exact Z.na_Unions_above
  | exact Z.na_Unions_sizes_of
  | exact Z.na_Unions_groups
  | exact Z.na_Unions_lowered)
set_option hygiene false in
local macro_rules | `(tactic| tm_at "lk") => `(tactic| first
  | exact fU_above
  | exact fU_sizes_of
  | exact fU_groups
  | exact fU_lowered)
set_option hygiene false in
local macro_rules | `(tactic| tm_at "nolk") => `(tactic| first
  | exact fU_n_root
  | exact fU_n_push
  | exact fU_n_pop
  | exact fU_n_ask)
set_option hygiene false in
local macro_rules | `(tactic| tm_at "flen") => `(tactic| exact of_decide_eq_true rfl)
set_option hygiene false in
local macro_rules | `(tactic| tm_at "at") => `(tactic| first
  | exact atI_nV (by assumption)
  | assumption
  | exact atI_last _ _
  | rfl)
set_option hygiene false in
local macro_rules | `(tactic| tm_at "ixn") => `(tactic| first
  | rfl
  | exact ixN_nat (by assumption))
set_option hygiene false in
local macro_rules | `(tactic| tm_at "len") => `(tactic| first
  | assumption)
set_option hygiene false in
local macro_rules | `(tactic| tm_at "flat") => `(tactic| first
  | exact flat_nV _
  | exact (rfl : flatV (V.int _) = true)
  | exact (rfl : flatV (V.str _) = true))

section
variable {P : Program} {wd : World} {K : PySem.W.Frag} {mg : Str → Option Value} {base : Heap}
def chP (k : Nat) : List (Nat × Nat) := (List.range k).map fun i => (i, i + 1)
theorem chP_succ (k : Nat) : chP (k + 1) = chP k ++ [(k, k + 1)] := by
  unfold chP
  rw [List.range_succ, List.map_append]
  rfl
theorem chP_len (k : Nat) : (chP k).length = k := by
  unfold chP
  rw [List.length_map, List.length_range]
theorem chP_mem {k a b : Nat} : (a, b) ∈ chP k ↔ a < k ∧ b = a + 1 := by
  unfold chP
  rw [List.mem_map]
  constructor
  · rintro ⟨i, hi, e⟩
    rw [List.mem_range] at hi
    obtain ⟨rfl, rfl⟩ := Prod.mk.inj e
    exact ⟨hi, rfl⟩
  · rintro ⟨h, rfl⟩
    exact ⟨a, List.mem_range.mpr h, rfl⟩
theorem ch_conn {k x y : Nat} : Conn (chP k) x y ↔ x = y ∨ (x ≤ k ∧ y ≤ k) := by
  constructor
  · intro h
    induction h with
    | refl => exact .inl rfl
    | fwd _ m ih =>
      obtain ⟨h1, rfl⟩ := chP_mem.mp m
      right
      rcases ih with e | e <;> omega
    | bwd _ m ih =>
      obtain ⟨h1, rfl⟩ := chP_mem.mp m
      right
      rcases ih with e | e <;> omega
  · have up : ∀ y, y ≤ k → Conn (chP k) 0 y := by
      intro y
      induction y with
      | zero => exact fun _ => .refl _
      | succ y ih => exact fun h => .fwd (ih (by omega)) (chP_mem.mpr ⟨by omega, rfl⟩)
    rintro (rfl | ⟨h1, h2⟩)
    · exact .refl _
    · exact (up x h1).symm.trans (up y h2)
theorem ch_size {n k : Nat} {L : List Nat} (hk : k < n) (l1 : L.Nodup) (l2 : ∀ y, y ∈ L ↔ y < n ∧ Conn (chP k) 0 y) : L.length = k + 1 := by
  rw [← List.length_range (n := k + 1)]
  refine same_len l1 List.nodup_range fun y => ?_
  rw [l2, ch_conn, List.mem_range]
  omega
theorem ch_groups {n k : Nat} {L : List Nat} (hk : k < n) (l1 : L.Nodup) (l2 : ∀ y, y ∈ L ↔ y < n ∧ ∀ z, Conn (chP k) y z → y ≤ z) : L.length = n - k := by
  have e : (0 :: (List.range (n - 1 - k)).map fun i => i + k + 1).length = n - k := by
    rw [List.length_cons, List.length_map, List.length_range]
    omega
  rw [← e]
  refine same_len l1 (List.nodup_cons.mpr ⟨?_, ?_⟩) fun y => ?_
  · rw [List.mem_map]
    rintro ⟨i, _, e⟩
    omega
  · rw [List.nodup_iff_pairwise_ne, List.pairwise_map]
    exact List.nodup_range.imp fun h e => h (by omega)
  · rw [l2, List.mem_cons, List.mem_map]
    constructor
    · rintro ⟨h1, h2⟩
      by_cases c : y ≤ k
      · have := h2 0 (ch_conn.mpr (.inr ⟨c, Nat.zero_le _⟩))
        left
        omega
      · right
        exact ⟨y - k - 1, List.mem_range.mpr (by omega), by omega⟩
    · rintro (rfl | ⟨i, hi, rfl⟩)
      · exact ⟨by omega, fun z _ => Nat.zero_le z⟩
      · rw [List.mem_range] at hi
        refine ⟨by omega, fun z hz => ?_⟩
        rcases ch_conn.mp hz with e | e <;> omega
def spChain (T : List NTab) : Sp := fun vs H Q _ => ∃ l : Ents, vs = [] ∧ Own T l H ∧ ∀ H', Own T l H' → Q (.bl true) H'
theorem ok_chain (Z : Facts K mg) (TB : TBs Z base) : FnOk P wd K mg base CX0 4 Z.a_chain Z.d_chain [] (spChain (T78 Z)) := by
  refine Z.F_chain.ok sc_chain (fun vs H Q E h => ?_) (fun cdv A outer s H vs Q E hr h => ?_)
  · obtain ⟨l, rfl, _⟩ := h
    rfl
  · obtain ⟨l, rfl, w, q⟩ := h
    refine ⟨_, (pss_cons (ps_set (i := 0) sc_chain.nd rfl (Or.inl rfl) (pe_make Z.M_Unions (ok_Unions_init Z TB) (hr.mono (by decide)) rfl Z.mC_Unions (b_Unions_init Z) .nil pass0 (pa_cons pe_int pa_nil)))
      (pss_cons (ps_for PassesOwn.never rfl (pi_range1 (by rfl) Z.z_range (pa_cons pe_int pa_nil)) (pg_name (i := 1) sc_chain.nd rfl (Or.inl rfl))
      (pss_one (ps_expr (pe_meth (pv 0) Z.k_Unions Z.t_Unions_push (ok_Unions_push Z TB) (hr.mono (by decide)) (b_Unions_push Z) .nil pass0 (pa_cons (pe_tup (pa_cons (pv 1) (pa_cons (pe_op op_add (pv 1) pe_int) pa_nil))) pa_nil)))))
      (pss_cons (ps_if (pt_cmpR (op_neD hr.units) (pe_lst (pa_cons (pe_meth (pv 0) Z.k_Unions Z.t_Unions_ask (ok_Unions_ask Z TB) (hr.mono (by decide)) (b_Unions_ask Z) .nil pass0 (pa_cons (pe_tup (pa_cons pe_str (pa_cons pe_int pa_nil))) pa_nil)) (pa_cons (pe_meth (pv 0) Z.k_Unions Z.t_Unions_ask (ok_Unions_ask Z TB) (hr.mono (by decide)) (b_Unions_ask Z) .nil pass0 (pa_cons (pe_tup (pa_cons pe_str (pa_cons pe_int (pa_cons pe_int pa_nil)))) pa_nil)) (pa_cons (pe_meth (pv 0) Z.k_Unions Z.t_Unions_ask (ok_Unions_ask Z TB) (hr.mono (by decide)) (b_Unions_ask Z) .nil pass0 (pa_cons (pe_tup (pa_cons pe_str pa_nil)) pa_nil)) pa_nil)))) (pe_lst (pa_cons pe_int (pa_cons pe_bl (pa_cons pe_int pa_nil)))) (nomark _))
      (pss_one (ps_ret pe_bl))
      pss_nil)
      (pss_cons (ps_for PassesOwn.never rfl (pi_range1 (by rfl) Z.z_range (pa_cons pe_int pa_nil)) (pg_name (i := 2) sc_chain.nd rfl (Or.inl rfl))
      (pss_one (ps_expr (pe_meth0 (pv 0) Z.k_Unions Z.t_Unions_pop (ok_Unions_pop Z TB) (hr.mono (by decide)) (b_Unions_pop Z) .nil pass0))))
      (pss_one (ps_ret (pe_and (pe_cmpR op_eq (pe_meth (pv 0) Z.k_Unions Z.t_Unions_ask (ok_Unions_ask Z TB) (hr.mono (by decide)) (b_Unions_ask Z) .nil pass0 (pa_cons (pe_tup (pa_cons pe_str (pa_cons pe_int pa_nil))) pa_nil)) pe_int (nomark _)) (pe_one (pe_cmpR op_eq (pe_meth (pv 0) Z.k_Unions Z.t_Unions_ask (ok_Unions_ask Z TB) (hr.mono (by decide)) (b_Unions_ask Z) .nil pass0 (pa_cons (pe_tup (pa_cons pe_str pa_nil)) pa_nil)) pe_int (nomark _)))))))))), ?_⟩
    intro u dx hu hdx ne
    generalize hw : upd (upd _ dx _) u _ = H2
    have w0 := own_make w hu hdx ne hw
    clear w hu hdx hw
    refine ⟨u, dx, l, 3000, rfl, w0, by omega, fun a b c H2 w => ⟨rfl, ?_⟩⟩
    clear w0 ne
    obtain ⟨U, hU⟩ : ∃ U : UA, U = ⟨u, dx, a, b, c⟩ := ⟨_, rfl⟩
    rw [← hU] at w
    obtain rfl : u = U.u := by rw [hU]
    clear hU
    have S : St 3000 (chP 0) (List.range 3000) (List.replicate 3000 1) ((3000 : Nat) : Int) [] := St.init
    generalize List.range 3000 = up at w S
    generalize List.replicate 3000 1 = sz at w S
    generalize ((3000 : Nat) : Int) = g at w S
    generalize ([] : List (Option Nat)) = low at w S
    repeat tm_at "s1"
    refine for_range (fun k σ H' => ∃ (e : Option V) (up sz : List Nat) (g : Int) (low : List (Option Nat)), σ = [some (.ref U.u), e, none] ∧ St 3000 (chP k) up sz g low ∧ Own (T78 Z) (UE Z.C_Unions U up sz g low l) H') ⟨_, up, sz, g, low, rfl, S, w⟩ (fun i σ H' hi hp => ?_) (fun σ H' hp => ?_)
    · obtain ⟨e, up, sz, g, low, rfl, S, w⟩ := hp
      have hi : i < 2999 := by omega
      rw [Int.zero_add]
      repeat tm_at "s1"
      refine ⟨U, 3000, chP i, up, sz, g, low, _, i, i + 1, _, rfl, w.picks [1, 2, 3, 4, 0] 5, S, by omega, by omega, List.Mem.head _, by rw [chP_len]; omega, fun up' sz' g' low' H3 S' w => ?_⟩
      rw [← chP_succ] at S'
      exact ⟨_, up', sz', g', low', rfl, S', w.picks [0, 1, 2, 3] 5⟩
    · obtain ⟨e, up, sz, g, low, rfl, S, w⟩ := hp
      have S : St 3000 (chP 2999) up sz g low := S
      have G := S.good
      obtain ⟨r, hr, Rr⟩ := G.root 0 (by omega)
      obtain ⟨r2, hr2, Rr2⟩ := G.root 2999 (by omega)
      obtain ⟨L, l1, l2, l3⟩ := G.size 0 r (by omega) Rr
      obtain ⟨M, m1, m2, m3⟩ := G.groups
      have e1 : L.length = 3000 := ch_size (k := 2999) (by omega) l1 l2
      have e2 : r = r2 := (G.conn 0 2999 r r2 (by omega) (by omega) Rr Rr2).mpr (ch_conn.mpr (.inr ⟨by omega, by omega⟩))
      have e3 : g = 1 := by
        rw [m3, ch_groups (k := 2999) (by omega) m1 m2]
        rfl
      rw [e1] at l3
      repeat tm_at "s1"
      refine ⟨U, 3000, chP 2999, up, sz, g, low, _, _, rfl, w.picks [1, 2, 3, 4, 0] 5, S, .inr (.inl ⟨0, r, 3000, by omega, Rr, l3, List.Mem.head _, fun H3 w => ?_⟩)⟩
      replace w := w.picks [0, 1, 2, 3] 5
      have w : Own (T78 Z) (UE Z.C_Unions U up sz g low l) H3 := w
      repeat tm_at "s1"
      refine ⟨U, 3000, chP 2999, up, sz, g, low, _, _, rfl, w.picks [1, 2, 3, 4, 0] 5, S, .inr (.inr ⟨0, 2999, r, r2, by omega, by omega, Rr, Rr2, List.Mem.head _, fun H3 w => ?_⟩)⟩
      replace w := w.picks [0, 1, 2, 3] 5
      have w : Own (T78 Z) (UE Z.C_Unions U up sz g low l) H3 := w
      rw [decide_eq_true e2]
      repeat tm_at "s1"
      refine ⟨U, 3000, chP 2999, up, sz, g, low, _, _, rfl, w.picks [1, 2, 3, 4, 0] 5, S, .inl ⟨List.Mem.head _, fun H3 w => ?_⟩⟩
      replace w := w.picks [0, 1, 2, 3] 5
      have w : Own (T78 Z) (UE Z.C_Unions U up sz g low l) H3 := w
      rw [e3]
      repeat tm_at "s1"
      have dp : Dp K H2 (.ref p) (.list [.int 3000, .bool true, .int 1]) := .lst (SqL.of (w.at (by tm_at "own"))) (.cons (.int _) (.cons (.bl _) (.cons (.int _) .nil)))
      refine ⟨.list [.int 3000, .bool true, .int 1], .list [.int 3000, .bool true, .int 1], .lst (SqL.of (w.at (by tm_at "own"))) (.cons (.int _) (.cons (.bl _) (.cons (.int _) .nil))), dp, by decide +kernel, by decide +kernel, ?_⟩
      rw [show PyData.eqv (.list [.int 3000, .bool true, .int 1]) (.list [.int 3000, .bool true, .int 1]) = true by decide +kernel]
      replace w := w.picks [2, 3, 4, 5] 6
      have w : Own (T78 Z) (UE Z.C_Unions U up sz g low l) H2 := w
      refine ⟨_, rfl, ite_f (by decide) ?_⟩
      repeat tm_at "s1"
      refine for_range (fun k σ H' => ∃ (o e : Option V) (up sz : List Nat) (g : Int) (low : List (Option Nat)), σ = [some (.ref U.u), o, e] ∧ St 3000 (chP (2999 - k)) up sz g low ∧ Own (T78 Z) (UE Z.C_Unions U up sz g low l) H') ⟨_, _, up, sz, g, low, rfl, S, w⟩ (fun i σ H' hi hp => ?_) (fun σ H' hp => ?_)
      · obtain ⟨o, e, up, sz, g, low, rfl, S, w⟩ := hp
        have hi : i < 100 := by omega
        rw [show 2999 - i = (2998 - i) + 1 by omega, chP_succ] at S
        rw [Int.zero_add]
        repeat tm_at "s1"
        refine ⟨U, 3000, _, _, up, sz, g, low, l, rfl, w, S, fun up' sz' g' low' H3 S' w => ?_⟩
        exact ⟨_, _, up', sz', g', low', rfl, (by rw [show 2999 - (i + 1) = 2998 - i by omega]; exact S'), w⟩
      · obtain ⟨o, e, up, sz, g, low, rfl, S, w⟩ := hp
        have S : St 3000 (chP 2899) up sz g low := S
        have G := S.good
        obtain ⟨r, hr, Rr⟩ := G.root 0 (by omega)
        obtain ⟨L, l1, l2, l3⟩ := G.size 0 r (by omega) Rr
        obtain ⟨M, m1, m2, m3⟩ := G.groups
        have e1 : L.length = 2900 := ch_size (k := 2899) (by omega) l1 l2
        have e3 : g = 101 := by
          rw [m3, ch_groups (k := 2899) (by omega) m1 m2]
          rfl
        rw [e1] at l3
        repeat tm_at "s1"
        refine ⟨U, 3000, chP 2899, up, sz, g, low, _, _, rfl, w.picks [1, 2, 3, 4, 0] 5, S, .inr (.inl ⟨0, r, 2900, by omega, Rr, l3, List.Mem.head _, fun H3 w => ?_⟩)⟩
        replace w := w.picks [0, 1, 2, 3] 5
        have w : Own (T78 Z) (UE Z.C_Unions U up sz g low l) H3 := w
        repeat tm_at "s1"
        refine ⟨U, 3000, chP 2899, up, sz, g, low, _, _, rfl, w.picks [1, 2, 3, 4, 0] 5, S, .inl ⟨List.Mem.head _, fun H3 w => ?_⟩⟩
        rw [e3]
        repeat tm_at "s1"
        exact q H3 (w.picks [] 5)
end
end Og
namespace Og
open PySem L2 NdefX LamX
set_option hygiene false in
local macro_rules | `(tactic| tm_at "own") => `(tactic| first
  | exact List.Mem.head _
  | (apply List.Mem.tail; tm_at "own")
  | assumption)
set_option hygiene false in
local macro_rules | `(tactic| tm_at "num") => `(tactic| first
  | omega
  | (exact And.intro (by omega) (by omega))
  | (exact Or.inl (And.intro (by omega) (by omega)))
  | (exact Or.inr (And.intro (by omega) (by omega)))
  | (exact And.intro (by omega) (And.intro (by omega) (by omega)))
  | exact rfl
  | exact of_decide_eq_true rfl)
set_option hygiene false in
local macro_rules | `(tactic| tm_at "seq") => `(tactic| first
  | exact SqL.of (w.at (by tm_at "own"))
  | exact Or.inl (SqL.of (w.at (by tm_at "own")))
  | exact SqT.of (w.at (by tm_at "own"))
  | exact Or.inr (SqT.of (w.at (by tm_at "own")))
  | assumption)
set_option hygiene false in
local macro_rules | `(tactic| tm_at "hp") => `(tactic| first
  | (intro p hp; generalize hw : upd _ p _ = H2; replace w := own_new w hp hw; clear hw hp)
  | (generalize hw : upd _ _ _ = H2; (first
    | replace w := own_put (i := 0) w rfl hw
    | replace w := own_put (i := 1) w rfl hw
    | replace w := own_put (i := 2) w rfl hw
    | replace w := own_put (i := 3) w rfl hw
    | replace w := own_put (i := 4) w rfl hw
    | replace w := own_put (i := 5) w rfl hw
    | replace w := own_put (i := 6) w rfl hw
    | replace w := own_put (i := 7) w rfl hw); clear hw; dsimp only [List.set] at w))
set_option hygiene false in
local macro_rules | `(tactic| tm_at "s1") => `(tactic| first
  | refine ⟨_, rfl, ?_⟩
  | refine ⟨_, _, rfl, rfl, ?_⟩
  | refine ⟨_, _, _, _, _, rfl, w.at (by tm_at "own"), by tm_at "cls", (by tm_at "na"), (by tm_at "lk"), ?_⟩
  | refine ⟨_, _, _, _, rfl, rfl, (by tm_at "seq"), (by tm_at "at"), ?_⟩
  | refine ⟨_, _, _, _, rfl, rfl, w.at (by tm_at "own"), (by tm_at "ixn"), ?_⟩
  | refine ⟨_, _, _, rfl, rfl, w.at (by tm_at "own"), (by tm_at "len"), ?_⟩
  | refine ⟨_, _, rfl, (by tm_at "seq"), (by tm_at "flat"), (by tm_at "flat"), ?_⟩
  | refine ⟨_, _, rfl, (by tm_at "seq"), ?_⟩
  | refine And.intro ⟨_, (by tm_at "seq")⟩ ?_
  | refine ⟨_, w.at (by tm_at "own"), (by tm_at "num"), ?_⟩
  | refine ⟨_, _, _, _, rfl, w.at (by tm_at "own"), by tm_at "cls", (by tm_at "na"), (by tm_at "flen"), ?_⟩
  | refine ⟨_, _, w.at (by tm_at "own"), (by tm_at "flen"), ?_⟩
  | refine ⟨_, _, _, rfl, w.at (by tm_at "own"), (by tm_at "nolk"), ?_⟩
  | refine ⟨_, _, _, rfl, rfl, w.at (by tm_at "own"), (by omega), (by omega), (by rw [PySem.sizeLine_eq]; simp; omega), ?_⟩
  | refine And.intro (Or.inl ⟨rfl, _, SqL.of (w.at (by tm_at "own"))⟩) ?_
  | refine And.intro (by tm_at "num") ?_
  | refine ⟨_, _, _, rfl, (by tm_at "seq"), ?_⟩
  | refine ⟨_, _, _, rfl, rfl, (by tm_at "seq"), (by tm_at "seq"), ?_⟩
  | refine ⟨_, _, rfl, ?_⟩
  | refine ⟨_, _, _, rfl, ?_⟩
  | tm_at "hp")
set_option hygiene false in
local macro_rules | `(tactic| tm_at "cls") => `(tactic| exact Z.k_Unions)
set_option hygiene false in
local macro_rules | `(tactic| tm_at "na") => `(tactic| first
  | exact Z.na_Unions_above
  | exact Z.na_Unions_sizes_of
  | exact Z.na_Unions_groups
  | exact Z.na_Unions_lowered)
set_option hygiene false in
local macro_rules | `(tactic| tm_at "lk") => `(tactic| first
  | exact fU_above
  | exact fU_sizes_of
  | exact fU_groups
  | exact fU_lowered)
set_option hygiene false in
local macro_rules | `(tactic| tm_at "nolk") => `(tactic| first
  | exact fU_n_root
  | exact fU_n_push
  | exact fU_n_pop
  | exact fU_n_ask)
set_option hygiene false in
local macro_rules | `(tactic| tm_at "flen") => `(tactic| exact of_decide_eq_true rfl)
set_option hygiene false in
local macro_rules | `(tactic| tm_at "at") => `(tactic| first
  | exact atI_nV (by assumption)
  | assumption
  | exact atI_last _ _
  | rfl)
set_option hygiene false in
local macro_rules | `(tactic| tm_at "ixn") => `(tactic| first
  | rfl
  | exact ixN_nat (by assumption))
set_option hygiene false in
local macro_rules | `(tactic| tm_at "len") => `(tactic| first
  | assumption)
set_option hygiene false in
local macro_rules | `(tactic| tm_at "flat") => `(tactic| first
  | exact flat_nV _
  | exact (rfl : flatV (V.int _) = true)
  | exact (rfl : flatV (V.str _) = true))

section
variable {P : Program} {wd : World} {K : PySem.W.Frag} {mg : Str → Option Value} {base : Heap}
def Tup (J : Ents) (as : List Addr) (ps : List (Nat × Nat)) : Prop := as.length = ps.length ∧ ∀ (i : Nat) (a : Addr) (p : Nat × Nat), as[i]? = some a → ps[i]? = some p → (a, HO.tup [.int p.1, .int p.2]) ∈ J
abbrev LE (C B PL OL : Addr) (U1 U2 : UA) (g r c : Int) (as1 as2 : List Addr) (up1 sz1 : List Nat) (g1 : Int) (low1 : List (Option Nat)) (up2 sz2 : List Nat) (g2 : Int) (low2 : List (Option Nat)) (J : Ents) : Ents :=
  (B, .lst [.int g, .int r, .int c]) :: (PL, .lst (as1.map V.ref)) :: (OL, .lst (as2.map V.ref)) :: UE C U1 up1 sz1 g1 low1 (UE C U2 up2 sz2 g2 low2 J)
theorem Tup.mono {J J' : Ents} {as : List Addr} {ps : List (Nat × Nat)} (t : Tup J as ps) (s : ∀ p ∈ J, p ∈ J') : Tup J' as ps := ⟨t.1, fun i a p e1 e2 => s _ (t.2 i a p e1 e2)⟩
theorem Tup.push {J : Ents} {as : List Addr} {ps : List (Nat × Nat)} (t : Tup J as ps) (q : Addr) (x y : Nat) : Tup ((q, HO.tup [.int (x : Int), .int (y : Int)]) :: J) (as ++ [q]) (ps ++ [(x, y)]) := by
  refine ⟨by rw [List.length_append, List.length_append, t.1]; rfl, fun i a p e1 e2 => ?_⟩
  rcases Nat.lt_or_ge i as.length with h | h
  · rw [List.getElem?_append_left h] at e1
    rw [List.getElem?_append_left (by rw [← t.1]; exact h)] at e2
    exact .tail _ (t.2 i a p e1 e2)
  · rw [List.getElem?_append_right h] at e1
    rw [List.getElem?_append_right (by rw [← t.1]; exact h)] at e2
    have e : i - as.length = 0 := by
      have := lt_of_get e1
      simp at this
      omega
    rw [e] at e1
    rw [← t.1, e] at e2
    obtain rfl := Option.some.inj e1
    obtain rfl := Option.some.inj e2
    exact .head _
theorem Tup.pop {J : Ents} {as : List Addr} {ps : List (Nat × Nat)} (t : Tup J as ps) (ne : (as.map V.ref).isEmpty = false) : ∃ as' a ps' p, as = as' ++ [a] ∧ ps = ps' ++ [p] ∧ Tup J as' ps' := by
  have h1 : as ≠ [] := fun e => by
    subst e
    cases ne
  have h2 : ps ≠ [] := fun e => h1 (List.eq_nil_of_length_eq_zero (by rw [t.1, e]; rfl))
  have e1 := List.dropLast_concat_getLast h1
  have e2 := List.dropLast_concat_getLast h2
  refine ⟨as.dropLast, as.getLast h1, ps.dropLast, ps.getLast h2, e1.symm, e2.symm, by rw [List.length_dropLast, List.length_dropLast, t.1], fun i a p a1 a2 => t.2 i a p ?_ ?_⟩
  · rw [List.getElem?_dropLast] at a1
    split at a1
    · exact a1
    · cases a1
  · rw [List.getElem?_dropLast] at a2
    split at a2
    · exact a2
    · cases a2
theorem map_snoc {as : List Addr} {p : Addr} : as.map V.ref ++ [V.ref p] = (as ++ [p]).map V.ref := by simp
inductive LS (T : List NTab) (C B PL OL : Addr) (U1 U2 : UA) (n k1 k2 : Nat) (l : Ents) (H : Hp) : Prop
  | mk (g r c : Int) (as1 as2 : List Addr) (ps1 ps2 : List (Nat × Nat)) (up1 sz1 : List Nat) (g1 : Int) (low1 : List (Option Nat)) (up2 sz2 : List Nat) (g2 : Int) (low2 : List (Option Nat)) (J : Ents) :
    Own T (LE C B PL OL U1 U2 g r c as1 as2 up1 sz1 g1 low1 up2 sz2 g2 low2 (J ++ l)) H → St n ps1 up1 sz1 g1 low1 → St n ps2 up2 sz2 g2 low2 → Tup J as1 ps1 → Tup J as2 ps2 → ps1.length ≤ k1 → ps2.length ≤ k2 → LS T C B PL OL U1 U2 n k1 k2 l H
  | no : False → LS T C B PL OL U1 U2 n k1 k2 l H
theorem LS.ex {T : List NTab} {C B PL OL : Addr} {U1 U2 : UA} {n k1 k2 : Nat} {l : Ents} {H : Hp} (h : LS T C B PL OL U1 U2 n k1 k2 l H) : ∃ (g r c : Int) (as1 as2 : List Addr) (ps1 ps2 : List (Nat × Nat)) (up1 sz1 : List Nat) (g1 : Int) (low1 : List (Option Nat)) (up2 sz2 : List Nat) (g2 : Int) (low2 : List (Option Nat)) (J : Ents),
    Own T (LE C B PL OL U1 U2 g r c as1 as2 up1 sz1 g1 low1 up2 sz2 g2 low2 (J ++ l)) H ∧ St n ps1 up1 sz1 g1 low1 ∧ St n ps2 up2 sz2 g2 low2 ∧ Tup J as1 ps1 ∧ Tup J as2 ps2 ∧ ps1.length ≤ k1 ∧ ps2.length ≤ k2 := by
  cases h with
  | mk g r c as1 as2 ps1 ps2 up1 sz1 g1 low1 up2 sz2 g2 low2 J h1 h2 h3 h4 h5 h6 h7 => exact ⟨g, r, c, as1, as2, ps1, ps2, up1, sz1, g1, low1, up2, sz2, g2, low2, J, h1, h2, h3, h4, h5, h6, h7⟩
  | no f => exact f.elim
def spLaw (T : List NTab) (K : PySem.W.Frag) : Sp := fun vs H Q _ => ∃ (a : Addr) (ns : List Int) (l : Ents), vs = [.ref a] ∧ Own T l H ∧ Scr K a (ns.map V.int) l ∧ ns.length ≤ 63 ∧ ∀ H', Q (.bl true) H'
theorem ok_law (Z : Facts K mg) (TB : TBs Z base) : FnOk P wd K mg base CX0 5 Z.a_law Z.d_law ["_law_script"] (spLaw (T78 Z) K) := by
  refine Z.F_law.ok sc_law (fun vs H Q E h => ?_) (fun cdv A outer s H vs Q E hr h => ?_)
  · obtain ⟨a, ns, l, rfl, _⟩ := h
    rfl
  · obtain ⟨a, ns, l, rfl, w, hS, hn, q⟩ := h
    refine ⟨_, (pss_cons (ps_for PassesOwn.never rfl (pi_range1 (by rfl) Z.z_range (pa_cons (pe_callB (call_max2 rfl) (by rfl) Z.z_max bt_max (pa_cons pe_int (pa_cons (pe_callB (call_min2 rfl) (by rfl) Z.z_min bt_min (pa_cons pe_int (pa_cons (pe_callB (lenL (K := K)) (by rfl) Z.z_len bt_len (pa_cons (pv 0) pa_nil)) pa_nil))) pa_nil))) pa_nil)) (pg_name (i := 1) sc_law.nd rfl (Or.inl rfl))
      (pss_cons (ps_set (i := 2) sc_law.nd rfl (Or.inl rfl) (pe_call (ok_bag Z TB) (hr.mono (by decide)) rfl Z.m_bag Z.F_bag.kp (b_bag Z) .nil pass0 (pa_cons (pv 0) (pa_cons (pv 1) pa_nil))))
      (pss_cons (ps_par3 (i := 3) (j := 4) (l := 5) rfl sc_law.nd rfl rfl rfl (by decide) (by decide) (by decide) rfl rfl rfl (pa_cons (pe_op op_add pe_int (pe_call (ok_take Z TB) (hr.mono (by decide)) rfl Z.m_take Z.F_take.kp (b_take Z) .nil pass0 (pa_cons (pv 2) (pa_cons pe_int pa_nil)))) (pa_cons (pe_lst pa_nil) (pa_cons pe_int pa_nil))) rfl)
      (pss_cons (ps_par3 (i := 6) (j := 7) (l := 8) rfl sc_law.nd rfl rfl rfl (by decide) (by decide) (by decide) rfl rfl rfl (pa_cons (pe_make Z.M_Unions (ok_Unions_init Z TB) (hr.mono (by decide)) rfl Z.mC_Unions (b_Unions_init Z) .nil pass0 (pa_cons (pv 3) pa_nil)) (pa_cons (pe_makeK0 Z.M_Unions (ok_Unions_init Z TB) (hr.mono (by decide)) rfl Z.mC_Unions (kb_Unions_init_0 Z) pass0 (pk_cons (pv 3) pk_nil)) (pa_cons (pe_lst pa_nil) pa_nil))) rfl)
      (pss_cons (ps_for PassesOwn.never rfl (pi_range1 (by rfl) Z.z_range (pa_cons (pe_op op_add pe_int (pe_call (ok_take Z TB) (hr.mono (by decide)) rfl Z.m_take Z.F_take.kp (b_take Z) .nil pass0 (pa_cons (pv 2) (pa_cons pe_int pa_nil)))) pa_nil)) (pg_name (i := 9) sc_law.nd rfl (Or.inl rfl))
      (pss_cons (ps_cut (ps_if (pt_cmpR op_eq (pe_call (ok_take Z TB) (hr.mono (by decide)) rfl Z.m_take Z.F_take.kp (b_take Z) .nil pass0 (pa_cons (pv 2) (pa_cons pe_int pa_nil))) pe_int (nomark _))
      (pss_one (ps_set (i := 5) sc_law.nd rfl (Or.inl rfl) (pe_call (ok_take Z TB) (hr.mono (by decide)) rfl Z.m_take Z.F_take.kp (b_take Z) .nil pass0 (pa_cons (pv 2) (pa_cons pe_int pa_nil)))))
      pss_nil))
      (pss_cons (ps_cut (ps_if (PW.pt (pw_or (pt_cmpR op_lt (pv 5) pe_int (nomark _)) (pw_or1 (pt_cmpR (op_eqNil hr.units0) (pv 4) (pe_lst pa_nil) (nomark _)))))
      (pss_cons (ps_expr (pe_bm PySem.F.plainAttrs_list PySem.F.slot_list_append PySem.F.type_list_append mt_append (pv 4) (pa_cons (pe_tup (pa_cons (pe_call (ok_take Z TB) (hr.mono (by decide)) rfl Z.m_take Z.F_take.kp (b_take Z) .nil pass0 (pa_cons (pv 2) (pa_cons (pv 3) pa_nil))) (pa_cons (pe_call (ok_take Z TB) (hr.mono (by decide)) rfl Z.m_take Z.F_take.kp (b_take Z) .nil pass0 (pa_cons (pv 2) (pa_cons (pv 3) pa_nil))) pa_nil))) pa_nil)))
      (pss_one (ps_if (pt_cmpR op_eq (pe_op op_mod (pv 9) pe_int) pe_int (nomark _))
      (pss_one (ps_expr (pe_meth (pv 6) Z.k_Unions Z.t_Unions_push (ok_Unions_push Z TB) (hr.mono (by decide)) (b_Unions_push Z) .nil pass0 (pa_cons (pe_ix (ixL (K := K)) (pv 4) (pe_un un_neg pe_int) (fun _ _ => rfl)) pa_nil))))
      (pss_one (ps_expr (pe_methN0 (pv 6) Z.k_Unions Z.t_Unions_push (ok_Unions_push Z TB) (hr.mono (by decide)) (kb_Unions_push_0 Z) pass0 (pk_cons (pe_ix (ixL (K := K)) (pv 4) (pe_un un_neg pe_int) (fun _ _ => rfl)) pk_nil)))))))
      (pss_cons (ps_expr (pe_bm0 PySem.F.plainAttrs_list PySem.F.slot_list_pop PySem.F.type_list_pop mt_pop (pv 4)))
      (pss_one (ps_expr (pe_meth0 (pv 6) Z.k_Unions Z.t_Unions_pop (ok_Unions_pop Z TB) (hr.mono (by decide)) (b_Unions_pop Z) .nil pass0))))))
      (pss_cons (ps_cut (ps_if (pt_cmpR op_eq (pe_call (ok_take Z TB) (hr.mono (by decide)) rfl Z.m_take Z.F_take.kp (b_take Z) .nil pass0 (pa_cons (pv 2) (pa_cons pe_int pa_nil))) pe_int (nomark _))
      (pss_cons (ps_expr (pe_bm PySem.F.plainAttrs_list PySem.F.slot_list_append PySem.F.type_list_append mt_append (pv 8) (pa_cons (pe_tup (pa_cons (pe_call (ok_take Z TB) (hr.mono (by decide)) rfl Z.m_take Z.F_take.kp (b_take Z) .nil pass0 (pa_cons (pv 2) (pa_cons (pv 3) pa_nil))) (pa_cons (pe_call (ok_take Z TB) (hr.mono (by decide)) rfl Z.m_take Z.F_take.kp (b_take Z) .nil pass0 (pa_cons (pv 2) (pa_cons (pv 3) pa_nil))) pa_nil))) pa_nil)))
      (pss_one (ps_expr (pe_meth (pv 7) Z.k_Unions Z.t_Unions_push (ok_Unions_push Z TB) (hr.mono (by decide)) (b_Unions_push Z) .nil pass0 (pa_cons (pe_ix (ixL (K := K)) (pv 8) (pe_un un_neg pe_int) (fun _ _ => rfl)) pa_nil)))))
      (pss_one (ps_if (pt_cmpR (op_neNil hr.units0) (pv 8) (pe_lst pa_nil) (nomark _))
      (pss_cons (ps_expr (pe_bm0 PySem.F.plainAttrs_list PySem.F.slot_list_pop PySem.F.type_list_pop mt_pop (pv 8)))
      (pss_one (ps_expr (pe_meth0 (pv 7) Z.k_Unions Z.t_Unions_pop (ok_Unions_pop Z TB) (hr.mono (by decide)) (b_Unions_pop Z) .nil pass0))))
      pss_nil))))
      (pss_one (ps_if (PW.pt (pw_or (pt_not (pt_val (pe_call (ok_right Z TB) (hr.mono (by decide)) rfl Z.m_right Z.F_right.kp (b_right Z) .nil pass0 (pa_cons (pv 6) (pa_cons (pv 4) (pa_cons (pv 3) pa_nil)))))) (pw_or1 (pt_not (pt_val (pe_call (ok_right Z TB) (hr.mono (by decide)) rfl Z.m_right Z.F_right.kp (b_right Z) .nil pass0 (pa_cons (pv 7) (pa_cons (pv 8) (pa_cons (pv 3) pa_nil)))))))))
      (pss_one (ps_ret pe_bl))
      pss_nil))))))
      (pss_one (ps_if (pt_cmpR op_ne (pe_methN0 (pe_make Z.M_Unions (ok_Unions_init Z TB) (hr.mono (by decide)) rfl Z.mC_Unions (b_Unions_init Z) .nil pass0 (pa_cons (pv 3) pa_nil)) Z.k_Unions Z.t_Unions_ask (ok_Unions_ask Z TB) (hr.mono (by decide)) (kb_Unions_ask_0 Z) pass0 (pk_cons (pe_tup (pa_cons pe_str pa_nil)) pk_nil)) (pv 3) (nomark _))
      (pss_one (ps_ret pe_bl))
      pss_nil)))))))
      (pss_one (ps_ret (pe_call0 (ok_chain Z TB) (hr.mono (by decide)) rfl Z.m_chain Z.F_chain.kp (b_chain Z) .nil pass0)))), ?_⟩
    have hs := hS.sq w
    have hs2 : SqL K H a (ns.map V.int) ∨ SqT K H a (ns.map V.int) := .inl hs
    have hl : (ns.map V.int).length ≤ 63 := by rw [List.length_map]; exact hn
    generalize hN : (ns.map V.int).length = N at hl
    repeat tm_at "s1"
    generalize hM : (if (if ((N : Nat) : Int) < 4 then ((N : Nat) : Int) else 4) > 1 then (if ((N : Nat) : Int) < 4 then ((N : Nat) : Int) else 4) else (1 : Int)) = M
    have hM4 : M ≤ 4 := by
      subst hM
      split <;> split <;> omega
    refine for_range (fun k σ H' => (∃ x1 x2 x3 x4 x5 x6 x7 x8 x9, σ = [some (.ref a), x1, x2, x3, x4, x5, x6, x7, x8, x9]) ∧ Own (T78 Z) l H') ⟨⟨_, _, _, _, _, _, _, _, _, rfl⟩, w⟩ (fun i σ H' hi hp => ?_) (fun σ H' hp => ?_)
    · obtain ⟨⟨x1, x2, x3, x4, x5, x6, x7, x8, x9, rfl⟩, w⟩ := hp
      have hi4 : i < 4 := by omega
      repeat tm_at "s1"
      refine ⟨a, ns, 0 + (i : Int), l, rfl, w, hS, by omega, by omega, fun B g r H2 w => ?_⟩
      repeat tm_at "s1"
      refine ⟨B, _, _, _, _, l, rfl, w, by omega, by omega, fun d g r c H2 hd0 hd9 w => ?_⟩
      obtain ⟨d, rfl⟩ : ∃ d' : Nat, d = d' := ⟨d.toNat, by omega⟩
      obtain ⟨n, hn'⟩ : ∃ n : Nat, (n : Int) = 1 + d := ⟨1 + d, by omega⟩
      have n9 : n ≤ 9 := by omega
      have n0 : 0 < n := by omega
      refine ⟨_, _, rfl, rfl, ?_⟩
      dsimp only
      rw [← hn']
      clear hn' hd0 hd9
      repeat tm_at "s1"
      obtain ⟨PL, rfl⟩ : ∃ PL, PL = p := ⟨_, rfl⟩
      intro u1 dx1 hu hdx ne
      generalize hw : upd (upd _ dx1 _) u1 _ = H2
      replace w := own_make w hu hdx ne hw
      clear hu hdx ne hw
      refine ⟨u1, dx1, _, n, rfl, w, by omega, fun a1 b1 c1 H2 w => ⟨rfl, ?_⟩⟩
      repeat tm_at "s1"
      intro u2 dx2 hu hdx ne
      generalize hw : upd (upd _ dx2 _) u2 _ = H2
      replace w := own_make w hu hdx ne hw
      clear hu hdx ne hw
      refine ⟨u2, dx2, _, n, rfl, w, by omega, fun a2 b2 c2 H2 w => ⟨rfl, ?_⟩⟩
      repeat tm_at "s1"
      obtain ⟨OL, rfl⟩ : ∃ OL, OL = p := ⟨_, rfl⟩
      have W0 := w.picks [10, 9, 0, 5, 6, 7, 8, 1, 2, 3, 4] 11
      clear w
      generalize hU1 : (⟨u1, dx1, a1, b1, c1⟩ : UA) = U1 at W0
      generalize hU2 : (⟨u2, dx2, a2, b2, c2⟩ : UA) = U2 at W0
      obtain rfl : u1 = U1.u := by rw [← hU1]
      obtain rfl : u2 = U2.u := by rw [← hU2]
      clear hU1 hU2
      have L : LS (T78 Z) Z.C_Unions B PL OL U1 U2 n 0 0 l H2 := .mk g r c [] [] [] [] _ _ _ _ _ _ _ _ [] W0 .init .init ⟨rfl, fun i a p h => by simp at h⟩ ⟨rfl, fun i a p h => by simp at h⟩ (Nat.le_refl _) (Nat.le_refl _)
      clear W0
      obtain ⟨g, r, c, as1, as2, ps1, ps2, up1, sz1, g1, low1, up2, sz2, g2, low2, J, w, S1, S2, t1, t2, b1, b2⟩ := L.ex
      repeat tm_at "s1"
      refine ⟨B, _, _, _, _, _, rfl, w, by omega, by omega, fun d g r c H2 hd0 hd51 w => ?_⟩
      have L0 : LS (T78 Z) Z.C_Unions B PL OL U1 U2 n 0 0 l H2 := .mk _ _ _ _ _ _ _ _ _ _ _ _ _ _ _ _ w S1 S2 t1 t2 b1 b2
      clear w S1 S2 t1 t2 b1 b2
      repeat tm_at "s1"
      refine for_range (fun k σ H' => ∃ (rd : Int) (t : Option V), σ = [some (.ref a), some (.int (0 + (i : Int))), some (.ref B), some (.int n), some (.ref PL), some (.int rd), some (.ref U1.u), some (.ref U2.u), some (.ref OL), t] ∧ LS (T78 Z) Z.C_Unions B PL OL U1 U2 n k k l H') ⟨_, _, rfl, L0⟩ (fun k σ H' hk hp => ?_) (fun σ H' hp => ?_)
      · obtain ⟨rd, t, rfl, L⟩ := hp
        have hk : k < 61 := by omega
        refine ⟨fun σ H' => ∃ rd : Int, σ = [some (.ref a), some (.int (0 + (i : Int))), some (.ref B), some (.int n), some (.ref PL), some (.int rd), some (.ref U1.u), some (.ref U2.u), some (.ref OL), some (.int (0 + (k : Int)))] ∧ LS (T78 Z) Z.C_Unions B PL OL U1 U2 n k k l H', ?_, fun σ H' ⟨rd, eσ, L⟩ => ?_⟩
        · obtain ⟨g, r, c, as1, as2, ps1, ps2, up1, sz1, g1, low1, up2, sz2, g2, low2, J, w, S1, S2, t1, t2, b1, b2⟩ := L.ex
          repeat tm_at "s1"
          refine ⟨B, _, _, _, _, _, rfl, w, by omega, by omega, fun d g r c H2 _ _ w => ?_⟩
          repeat tm_at "s1"
          refine ite2 (fun _ => ?_) (fun _ => ?_)
          · repeat tm_at "s1"
            refine ⟨B, _, _, _, _, _, rfl, w, by omega, by omega, fun d g r c H2 _ _ w => ?_⟩
            exact ⟨_, rfl, .mk _ _ _ _ _ _ _ _ _ _ _ _ _ _ _ _ w S1 S2 t1 t2 b1 b2⟩
          · exact ⟨_, rfl, .mk _ _ _ _ _ _ _ _ _ _ _ _ _ _ _ _ w S1 S2 t1 t2 b1 b2⟩
        · subst eσ
          refine ⟨fun σ H' => σ = [some (.ref a), some (.int (0 + (i : Int))), some (.ref B), some (.int n), some (.ref PL), some (.int rd), some (.ref U1.u), some (.ref U2.u), some (.ref OL), some (.int (0 + (k : Int)))] ∧ LS (T78 Z) Z.C_Unions B PL OL U1 U2 n (k + 1) k l H', ?_, fun σ H' ⟨eσ, L⟩ => ?_⟩
          · obtain ⟨g, r, c, as1, as2, ps1, ps2, up1, sz1, g1, low1, up2, sz2, g2, low2, J, w, S1, S2, t1, t2, b1, b2⟩ := L.ex
            repeat tm_at "s1"
            refine ite2 (fun c1 => ?_) (fun c1 => ?_)
            · repeat tm_at "s1"
              refine ⟨B, _, _, _, _, _, rfl, w, by omega, by omega, fun x g r c H2 hx0 hx1 w => ?_⟩
              repeat tm_at "s1"
              refine ⟨B, _, _, _, _, _, rfl, w, by omega, by omega, fun y g r c H2 hy0 hy1 w => ?_⟩
              obtain ⟨x, rfl⟩ : ∃ x' : Nat, x = x' := ⟨x.toNat, by omega⟩
              obtain ⟨y, rfl⟩ : ∃ y' : Nat, y = y' := ⟨y.toNat, by omega⟩
              have hx : x < n := by omega
              have hy : y < n := by omega
              have hlen : (as1.map V.ref).length < sizeLine := by
                rw [List.length_map, t1.1, PySem.sizeLine_eq]
                omega
              repeat tm_at "s1"
              refine ite2 (fun _ => ?_) (fun _ => ?_)
              · repeat tm_at "s1"
                refine ⟨U1, n, ps1, up1, sz1, g1, low1, _, x, y, _, rfl, w.picks [4, 5, 6, 7, 0, 1, 2, 3, 8, 9, 10, 11] 12, S1, hx, hy, .head _, by omega, fun up' sz' g' low' H3 S' w => ?_⟩
                replace w := w.picks [5, 6, 7, 0, 1, 2, 3, 8, 9, 10, 11, 4] 12
                rw [map_snoc] at w
                exact ⟨rfl, .mk _ _ _ _ _ _ _ _ _ _ _ _ _ _ _ (_ :: J) w S' S2 (t1.push _ x y) (t2.mono fun p hp => .tail _ hp) (by rw [List.length_append]; exact Nat.succ_le_succ b1) b2⟩
              · repeat tm_at "s1"
                refine ⟨U1, n, ps1, up1, sz1, g1, low1, _, x, y, _, rfl, w.picks [4, 5, 6, 7, 0, 1, 2, 3, 8, 9, 10, 11] 12, S1, hx, hy, .head _, by omega, fun up' sz' g' low' H3 S' w => ?_⟩
                replace w := w.picks [5, 6, 7, 0, 1, 2, 3, 8, 9, 10, 11, 4] 12
                rw [map_snoc] at w
                exact ⟨rfl, .mk _ _ _ _ _ _ _ _ _ _ _ _ _ _ _ (_ :: J) w S' S2 (t1.push _ x y) (t2.mono fun p hp => .tail _ hp) (by rw [List.length_append]; exact Nat.succ_le_succ b1) b2⟩
            · repeat tm_at "s1"
              replace w := w.drop1
              refine ite2 (fun c2 => ?_) (fun c2 => ?_)
              · repeat tm_at "s1"
                refine ⟨B, _, _, _, _, _, rfl, w, by omega, by omega, fun x g r c H2 hx0 hx1 w => ?_⟩
                repeat tm_at "s1"
                refine ⟨B, _, _, _, _, _, rfl, w, by omega, by omega, fun y g r c H2 hy0 hy1 w => ?_⟩
                obtain ⟨x, rfl⟩ : ∃ x' : Nat, x = x' := ⟨x.toNat, by omega⟩
                obtain ⟨y, rfl⟩ : ∃ y' : Nat, y = y' := ⟨y.toNat, by omega⟩
                have hx : x < n := by omega
                have hy : y < n := by omega
                have hlen : (as1.map V.ref).length < sizeLine := by
                  rw [List.length_map, t1.1, PySem.sizeLine_eq]
                  omega
                repeat tm_at "s1"
                refine ite2 (fun _ => ?_) (fun _ => ?_)
                · repeat tm_at "s1"
                  refine ⟨U1, n, ps1, up1, sz1, g1, low1, _, x, y, _, rfl, w.picks [4, 5, 6, 7, 0, 1, 2, 3, 8, 9, 10, 11] 12, S1, hx, hy, .head _, by omega, fun up' sz' g' low' H3 S' w => ?_⟩
                  replace w := w.picks [5, 6, 7, 0, 1, 2, 3, 8, 9, 10, 11, 4] 12
                  rw [map_snoc] at w
                  exact ⟨rfl, .mk _ _ _ _ _ _ _ _ _ _ _ _ _ _ _ (_ :: J) w S' S2 (t1.push _ x y) (t2.mono fun p hp => .tail _ hp) (by rw [List.length_append]; exact Nat.succ_le_succ b1) b2⟩
                · repeat tm_at "s1"
                  refine ⟨U1, n, ps1, up1, sz1, g1, low1, _, x, y, _, rfl, w.picks [4, 5, 6, 7, 0, 1, 2, 3, 8, 9, 10, 11] 12, S1, hx, hy, .head _, by omega, fun up' sz' g' low' H3 S' w => ?_⟩
                  replace w := w.picks [5, 6, 7, 0, 1, 2, 3, 8, 9, 10, 11, 4] 12
                  rw [map_snoc] at w
                  exact ⟨rfl, .mk _ _ _ _ _ _ _ _ _ _ _ _ _ _ _ (_ :: J) w S' S2 (t1.push _ x y) (t2.mono fun p hp => .tail _ hp) (by rw [List.length_append]; exact Nat.succ_le_succ b1) b2⟩
              · have hne : (as1.map V.ref).isEmpty = false := by simpa using c2
                obtain ⟨as', a', ps', p', rfl, rfl, t'⟩ := t1.pop hne
                have hlast := last_map V.ref as' a'
                rw [List.length_append] at b1
                repeat tm_at "s1"
                rw [drop_map] at w
                refine ⟨U1, n, ps', p', up1, sz1, g1, low1, _, rfl, w.picks [3, 4, 5, 6, 0, 1, 2, 7, 8, 9, 10] 11, S1, fun up' sz' g' low' H3 S' w => ?_⟩
                replace w := w.picks [4, 5, 6, 0, 1, 2, 3, 7, 8, 9, 10] 11
                exact ⟨rfl, .mk _ _ _ _ _ _ _ _ _ _ _ _ _ _ _ J w S' S2 t' t2 (by omega) b2⟩
          · subst eσ
            refine ⟨fun σ H' => σ = [some (.ref a), some (.int (0 + (i : Int))), some (.ref B), some (.int n), some (.ref PL), some (.int rd), some (.ref U1.u), some (.ref U2.u), some (.ref OL), some (.int (0 + (k : Int)))] ∧ LS (T78 Z) Z.C_Unions B PL OL U1 U2 n (k + 1) (k + 1) l H', ?_, fun σ H' ⟨eσ, L⟩ => ?_⟩
            · obtain ⟨g, r, c, as1, as2, ps1, ps2, up1, sz1, g1, low1, up2, sz2, g2, low2, J, w, S1, S2, t1, t2, b1, b2⟩ := L.ex
              repeat tm_at "s1"
              refine ⟨B, _, _, _, _, _, rfl, w, by omega, by omega, fun d g r c H2 _ _ w => ?_⟩
              repeat tm_at "s1"
              refine ite2 (fun _ => ?_) (fun _ => ?_)
              · repeat tm_at "s1"
                refine ⟨B, _, _, _, _, _, rfl, w, by omega, by omega, fun x g r c H2 hx0 hx1 w => ?_⟩
                repeat tm_at "s1"
                refine ⟨B, _, _, _, _, _, rfl, w, by omega, by omega, fun y g r c H2 hy0 hy1 w => ?_⟩
                obtain ⟨x, rfl⟩ : ∃ x' : Nat, x = x' := ⟨x.toNat, by omega⟩
                obtain ⟨y, rfl⟩ : ∃ y' : Nat, y = y' := ⟨y.toNat, by omega⟩
                have hx : x < n := by omega
                have hy : y < n := by omega
                have hlen : (as2.map V.ref).length < sizeLine := by
                  rw [List.length_map, t2.1, PySem.sizeLine_eq]
                  omega
                repeat tm_at "s1"
                repeat tm_at "s1"
                refine ⟨U2, n, ps2, up2, sz2, g2, low2, _, x, y, _, rfl, w.picks [8, 9, 10, 11, 0, 1, 2, 3, 4, 5, 6, 7] 12, S2, hx, hy, .head _, by omega, fun up' sz' g' low' H3 S' w => ?_⟩
                replace w := w.picks [5, 6, 7, 8, 9, 10, 11, 0, 1, 2, 3, 4] 12
                rw [map_snoc] at w
                exact ⟨rfl, .mk _ _ _ _ _ _ _ _ _ _ _ _ _ _ _ (_ :: J) w S1 S' (t1.mono fun p hp => .tail _ hp) (t2.push _ x y) b1 (by rw [List.length_append]; exact Nat.succ_le_succ b2)⟩
              · repeat tm_at "s1"
                replace w := w.drop1
                refine ite2 (fun c2 => ?_) (fun c2 => ?_)
                · have hne : (as2.map V.ref).isEmpty = false := by simpa using c2
                  obtain ⟨as', a', ps', p', rfl, rfl, t'⟩ := t2.pop hne
                  have hlast := last_map V.ref as' a'
                  rw [List.length_append] at b2
                  repeat tm_at "s1"
                  rw [drop_map] at w
                  refine ⟨U2, n, ps', p', up2, sz2, g2, low2, _, rfl, w.picks [7, 8, 9, 10, 0, 1, 2, 3, 4, 5, 6] 11, S2, fun up' sz' g' low' H3 S' w => ?_⟩
                  replace w := w.picks [4, 5, 6, 7, 8, 9, 10, 0, 1, 2, 3] 11
                  exact ⟨rfl, .mk _ _ _ _ _ _ _ _ _ _ _ _ _ _ _ J w S1 S' t1 t' b1 (by omega)⟩
                · exact ⟨rfl, .mk _ _ _ _ _ _ _ _ _ _ _ _ _ _ _ _ w S1 S2 t1 t2 b1 (Nat.le_succ_of_le b2)⟩
            · subst eσ
              obtain ⟨g, r, c, as1, as2, ps1, ps2, up1, sz1, g1, low1, up2, sz2, g2, low2, J, w, S1, S2, t1, t2, b1, b2⟩ := L.ex
              repeat tm_at "s1"
              have w1 : Own (T78 Z) (UE Z.C_Unions U1 up1 sz1 g1 low1 ((B, .lst [.int g, .int r, .int c]) :: (PL, .lst (as1.map V.ref)) :: (OL, .lst (as2.map V.ref)) :: UE Z.C_Unions U2 up2 sz2 g2 low2 (J ++ l))) H' := w.picks [3, 4, 5, 6, 0, 1, 2, 7, 8, 9, 10] 11
              refine ⟨U1, n, ps1, up1, sz1, g1, low1, _, PL, rfl, w1, ⟨as1, .tail _ (.head _), t1.1, fun j a p e1 e2 => .tail _ (.tail _ (.tail _ (.tail _ (.tail _ (.tail _ (.tail _ (List.mem_append_left _ (t1.2 j a p e1 e2))))))))⟩, S1, by omega, by omega, fun H3 w => ?_⟩
              clear w1
              have w2 : Own (T78 Z) (UE Z.C_Unions U2 up2 sz2 g2 low2 ((B, .lst [.int g, .int r, .int c]) :: (PL, .lst (as1.map V.ref)) :: (OL, .lst (as2.map V.ref)) :: UE Z.C_Unions U1 up1 sz1 g1 low1 (J ++ l))) H3 := w.picks [7, 8, 9, 10, 4, 5, 6, 0, 1, 2, 3] 11
              clear w
              repeat tm_at "s1"
              refine ⟨U2, n, ps2, up2, sz2, g2, low2, _, OL, rfl, w2, ⟨as2, .tail _ (.tail _ (.head _)), t2.1, fun j a p e1 e2 => .tail _ (.tail _ (.tail _ (.tail _ (.tail _ (.tail _ (.tail _ (List.mem_append_left _ (t2.2 j a p e1 e2))))))))⟩, S2, by omega, by omega, fun H4 w => ?_⟩
              replace w : Own (T78 Z) (LE Z.C_Unions B PL OL U1 U2 g r c as1 as2 up1 sz1 g1 low1 up2 sz2 g2 low2 (J ++ l)) H4 := w.picks [4, 5, 6, 7, 8, 9, 10, 0, 1, 2, 3] 11
              repeat tm_at "s1"
              exact .mk _ _ _ _ _ _ _ _ _ _ _ _ _ _ _ _ w S1 S2 t1 t2 b1 b2
      · obtain ⟨rd, t, rfl, L⟩ := hp
        obtain ⟨g, r, c, as1, as2, ps1, ps2, up1, sz1, g1, low1, up2, sz2, g2, low2, J, w, S1, S2, t1, t2, b1, b2⟩ := L.ex
        replace w : Own (T78 Z) l H' := (w.picks [] 11).sub (List.sublist_append_right J l)
        repeat tm_at "s1"
        intro u3 dx3 hu hdx ne
        generalize hw : upd (upd _ dx3 _) u3 _ = H2
        replace w := own_make w hu hdx ne hw
        clear hu hdx ne hw
        refine ⟨u3, dx3, _, n, rfl, w, by omega, fun a3 b3 c3 H2 w => ⟨rfl, ?_⟩⟩
        repeat tm_at "s1"
        refine ⟨⟨u3, dx3, a3, b3, c3⟩, n, [], _, _, _, _, _, _, rfl, w.picks [1, 2, 3, 4, 0] 5, .init, .inl ⟨.head _, fun H3 w => ?_⟩⟩
        repeat tm_at "s1"
        refine ite_f (by simp) ?_
        exact ⟨⟨_, _, _, _, _, _, _, _, _, rfl⟩, w.picks [] 5⟩
    · obtain ⟨⟨x1, x2, x3, x4, x5, x6, x7, x8, x9, rfl⟩, w⟩ := hp
      repeat tm_at "s1"
      exact ⟨l, rfl, w, fun H3 w => q H3⟩
end
end Og
namespace Og
open PySem L2 NdefX LamX
theorem law_at {l : PySem.W.OpenLaw} {w : World} {K : PySem.W.Frag} {mg : Str → Option Value} {fa : Addr} {h : Heap} (Z : Facts K mg) (X : K.In h) (hm : mg "law" = some (.ref fa)) (hP : h.get? Z.P_Unions_push = some (PySem.W.tabObj #[])) : LawAtS l w K CX0 5 63 "_law_script" mg fa h := by
  have e := hm.symm.trans Z.m_law
  cases e
  refine ⟨Z.d_law, [(Z.c_Unions_push, Z.P_Unions_push)], spLaw (T78 Z) K, fun p hp => ?_, fun p hp => ?_, fun p hp => ?_, fun s u => ?_, fun H a ns hl _ hT hS => ?_, fun base _ _ hTB => ?_⟩
  · rw [List.mem_singleton.mp hp]
    exact hP
  · rw [List.mem_singleton.mp hp]
    exact Z.n_Unions_push
  · rw [List.mem_singleton.mp hp]
    exact PySem.W.codeHd_of_K X Z.h_Unions_push
  · obtain ⟨oc, od, kV, doc, pm, an, cdv, ct, osl, e, lk, hcd⟩ := Z.F_law.ex
    rw [e]
    exact .of_eq rfl
  · have t : TabsN (T78 Z) H := fun p hp => by
      rw [List.mem_singleton.mp hp]
      exact TabN.nil (hT (Z.c_Unions_push, Z.P_Unions_push) (List.mem_singleton.mpr rfl))
    rcases hS with (z | ⟨o, z⟩) | z
    · exact ⟨a, ns, [(a, _)], rfl, Own.one t z, .inl ⟨_, .head _, .inl rfl⟩, hl, fun _ => rfl⟩
    · exact ⟨a, ns, [(a, _)], rfl, Own.one t z, .inl ⟨_, .head _, .inr ⟨o, rfl⟩⟩, hl, fun _ => rfl⟩
    · exact ⟨a, ns, [], rfl, Own.start t, .inr z, hl, fun _ => rfl⟩
  · exact ok_law Z (hTB (Z.c_Unions_push, Z.P_Unions_push) (List.mem_singleton.mpr rfl))
end Og
open PySem PySem.W PyProof.Rows in
set_option maxRecDepth 100000 in
set_option maxHeartbeats 0 in
theorem PySem.Challenge.cw_oncebuilt_k78_connected_components_holds : PySem.Challenge.rw_oncebuilt_k78_connected_components.Holds := by
  w_on; o_law; k_head; (case hw => w_witness2)
  k_fill
  refine LamX.walk_ofTs (l := PySem.Challenge.rw_oncebuilt_k78_connected_components) (n := 63) (k := 5) (x := "_law_script") (CX := fun _ => L2.CX0) rfl (by decide) rfl ⟨rfl, by decide, by decide⟩ (fun w h Y => km_in_of Y) ?F fun _ _ _ _ _ z => z
  case F =>
    intro w mg fa h Y KX G hmg
    refine' Og.law_at (Og.mkF (P_Unions_push := 37) KX G ?aC_Unions ?f_Unions_Unions_init ?i_Unions_init ?l_Unions_init ?e_Unions_init ?k_Unions_init ?f_Unions_Unions_root ?i_Unions_root ?l_Unions_root ?e_Unions_root ?k_Unions_root ?f_Unions_Unions_push ?i_Unions_push ?l_Unions_push ?e_Unions_push ?k_Unions_push ?h_Unions_push ?t_Unions_push ?f_Unions_Unions_pop ?i_Unions_pop ?l_Unions_pop ?e_Unions_pop ?k_Unions_pop ?f_Unions_Unions_ask ?i_Unions_ask ?l_Unions_ask ?e_Unions_ask ?k_Unions_ask ?n_bag ?l_bag ?e_bag ?k_bag ?n_take ?l_take ?e_take ?k_take ?n_component ?l_component ?e_component ?k_component ?n_right ?l_right ?e_right ?k_right ?n_chain ?l_chain ?e_chain ?k_chain ?n_law ?l_law ?e_law ?k_law ?pg_Unions ?hd_Unions ?po_Unions ?sa_Unions ?mk_Unions ?kc_Unions ?na_Unions_above ?na_Unions_sizes_of ?na_Unions_groups ?na_Unions_lowered ?z_list ?z_range ?z_sorted ?z_len ?z_abs ?z_max ?z_min ?z_repr) KX hmg ?tab
    (case aC_Unions => k_is)
    (case f_Unions_Unions_init => k_is)
    (case i_Unions_init => k_is)
    (case l_Unions_init => k_is)
    (case e_Unions_init => k_is)
    (case k_Unions_init => k_is)
    (case f_Unions_Unions_root => k_is)
    (case i_Unions_root => k_is)
    (case l_Unions_root => k_is)
    (case e_Unions_root => k_is)
    (case k_Unions_root => k_is)
    (case f_Unions_Unions_push => k_is)
    (case i_Unions_push => k_is)
    (case l_Unions_push => k_is)
    (case e_Unions_push => k_is)
    (case k_Unions_push => k_is)
    (case h_Unions_push => kernel_rfl)
    (case t_Unions_push => kernel_rfl)
    (case f_Unions_Unions_pop => k_is)
    (case i_Unions_pop => k_is)
    (case l_Unions_pop => k_is)
    (case e_Unions_pop => k_is)
    (case k_Unions_pop => k_is)
    (case f_Unions_Unions_ask => k_is)
    (case i_Unions_ask => k_is)
    (case l_Unions_ask => k_is)
    (case e_Unions_ask => k_is)
    (case k_Unions_ask => k_is)
    (case n_bag => k_is)
    (case l_bag => k_is)
    (case e_bag => k_is)
    (case k_bag => k_is)
    (case n_take => k_is)
    (case l_take => k_is)
    (case e_take => k_is)
    (case k_take => k_is)
    (case n_component => k_is)
    (case l_component => k_is)
    (case e_component => k_is)
    (case k_component => k_is)
    (case n_right => k_is)
    (case l_right => k_is)
    (case e_right => k_is)
    (case k_right => k_is)
    (case n_chain => k_is)
    (case l_chain => k_is)
    (case e_chain => k_is)
    (case k_chain => k_is)
    (case n_law => k_is)
    (case l_law => k_is)
    (case e_law => k_is)
    (case k_law => k_is)
    (case pg_Unions => k_is)
    (case hd_Unions => k_is)
    (case po_Unions => k_is)
    (case sa_Unions => k_is)
    (case mk_Unions => k_is)
    (case kc_Unions => k_is)
    (case na_Unions_above => k_is)
    (case na_Unions_sizes_of => k_is)
    (case na_Unions_groups => k_is)
    (case na_Unions_lowered => k_is)
    (case z_list => k_is)
    (case z_range => k_is)
    (case z_sorted => k_is)
    (case z_len => k_is)
    (case z_abs => k_is)
    (case z_max => k_is)
    (case z_min => k_is)
    (case z_repr => k_is)
    (case tab => exact km_tabs_of Y 37 (List.Mem.head _))
#print axioms PySem.Challenge.cw_oncebuilt_k78_connected_components_holds
