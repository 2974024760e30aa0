import PyProof.Rows.All
import Wide.All
import OpenK.AllK
import Wide.FinOn
import KE.KStateDown
import HandS.ForMost
import HandS.ForExc
import HandS.IsInst
import HandS.Wide
import HandS.Defaults
import HandS.MakeKw
import HandS.MakeKwOnly
import HandS.ExcInit
import HandS.ExcField
import HandS.ClsMeth
import HandS.TupAny
import HandS.Head0
import HandS.Head1
import HandS.Head2
import HandS.HeadEnd
import HandS.HeadHook1
import HandS.HeadHook2
import HandS.HeadHook3
import HandS.HeadHook4
import HandS.Strs
import HandS.SetFor
import PySem.Challenge.RW_haltday_k72_rules_and_what_is_paid_back
set_option Elab.async false
set_option linter.all false
set_option maxRecDepth 100000
set_option maxHeartbeats 4000000
namespace Hd
open PySem PySem.Spec PyProof.Rows L2
theorem if_true_of {b : Bool} {A B : Prop} (h : b = true) (a : A) : if b = true then A else B := by rw [if_pos h]; exact a
theorem if_false_of {b : Bool} {A B : Prop} (h : b = false) (a : B) : if b = true then A else B := by rw [if_neg (by rw [h]; exact Bool.false_ne_true)]; exact a
/-! ### how a heap goes on -/
/-- from H to H': all but what stands at A is kept, tuples and locked things are kept, nothing is let go -/
structure Stp (A : List Addr) (H H' : Hp) : Prop where
  k : ∀ b o, b ∉ A → H b = some o → H' b = some o
  t : ∀ b xs, H b = some (.tup xs) → H' b = some (.tup xs)
  z : ∀ b o u, H b = some (.frz o u) → H' b = some (.frz o u)
  f : ∀ b, H' b = none → H b = none
theorem Stp.refl {A : List Addr} (H : Hp) : Stp A H H := ⟨fun _ _ _ h => h, fun _ _ h => h, fun _ _ _ h => h, fun _ h => h⟩
theorem Stp.trans {A : List Addr} {H H1 H2 : Hp} (a : Stp A H H1) (b : Stp A H1 H2) : Stp A H H2 :=
  ⟨fun c o n h => b.k c o n (a.k c o n h), fun c x h => b.t c x (a.t c x h), fun c o u h => b.z c o u (a.z c o u h), fun c h => a.f c (b.f c h)⟩
theorem Stp.mono {A B : List Addr} {H H1 : Hp} (a : Stp A H H1) (h : ∀ x ∈ A, x ∈ B) : Stp B H H1 :=
  ⟨fun c o n q => a.k c o (fun z => n (h c z)) q, a.t, a.z, a.f⟩
theorem Stp.of_nil {A : List Addr} {H H1 : Hp} (a : Stp [] H H1) : Stp A H H1 := a.mono fun x h => by cases h
theorem Stp.same {H H1 : Hp} (a : Stp [] H H1) : Same H H1 := fun b o h => a.k b o (by simp) h
/-- a new object -/
theorem Stp.new {A : List Addr} {H : Hp} {p : Addr} {o : HO} (h : H p = none) : Stp A H (upd H p o) :=
  ⟨fun b u _ q => by rw [upd_ne (ne_of_none q h)]; exact q, fun b u q => by rw [upd_ne (ne_of_none q h)]; exact q, fun b u v q => by rw [upd_ne (ne_of_none q h)]; exact q,
    fun b q => by
      by_cases e : b = p
      · rw [e]; exact h
      · rw [upd_ne e] at q; exact q⟩
/-- a store to what stands at a -/
theorem Stp.put {A : List Addr} {H : Hp} {a : Addr} {o o' : HO} (h : H a = some o) (ha : a ∈ A := by simp) (hm : Mut (some o) := by exact True.intro) : Stp A H (upd H a o') :=
  ⟨fun b u n q => by rw [upd_ne (show b ≠ a from fun e => n (by rw [e]; exact ha))]; exact q,
    fun b u q => by rw [upd_ne (fun e => by subst e; rw [q] at h; cases h; exact hm)]; exact q,
    fun b u v q => by rw [upd_ne (fun e => by subst e; rw [q] at h; cases h; exact hm)]; exact q,
    fun b q => by
      by_cases e : b = a
      · subst e; rw [upd_same] at q; cases q
      · rw [upd_ne e] at q; exact q⟩
/-- behind H, a store to what was new since H -/
theorem Stp.putNew {A : List Addr} {H H1 : Hp} {a : Addr} {o o' : HO} (s : Stp A H H1) (h : H1 a = some o) (hn : H a = none) (hm : Mut (some o) := by exact True.intro) : Stp A H (upd H1 a o') :=
  ⟨fun b u n q => by rw [upd_ne (ne_of_none q hn)]; exact s.k b u n q,
    fun b u q => by rw [upd_ne (ne_of_none q hn)]; exact s.t b u q,
    fun b u v q => by rw [upd_ne (ne_of_none q hn)]; exact s.z b u v q,
    fun b q => by
      by_cases e : b = a
      · subst e; rw [upd_same] at q; cases q
      · rw [upd_ne e] at q; exact s.f b q⟩
/-- behind H1, H2: what was changed was new since H -/
theorem Stp.back {H H1 H2 : Hp} {x : Addr} (a : Stp [] H H1) (b : Stp [x] H1 H2) (n : H x = none) : Stp [] H H2 :=
  ⟨fun c o _ h => b.k c o (by simpa using ne_of_none h n) (a.k c o (by simp) h), fun c xs h => b.t c xs (a.t c xs h), fun c o u h => b.z c o u (a.z c o u h), fun c h => a.f c (b.f c h)⟩
/-- what was changed was new since H -/
theorem Stp.fresh {A : List Addr} {H H1 H2 : Hp} (a : Stp [] H H1) (b : Stp A H1 H2) (n : ∀ x ∈ A, H x = none) : Stp [] H H2 :=
  ⟨fun c o _ h => b.k c o (fun z => by rw [n c z] at h; cases h) (a.k c o (by simp) h), fun c xs h => b.t c xs (a.t c xs h), fun c o u h => b.z c o u (a.z c o u h), fun c h => a.f c (b.f c h)⟩
theorem Stp.sqT {A : List Addr} {K : PySem.W.Frag} {H H1 : Hp} {a : Addr} {xs : List V} (s : Stp A H H1) (h : SqT K H a xs) : SqT K H1 a xs := by
  rcases h with (h | ⟨o, h⟩) | h
  · exact .inl (.inl (s.t _ _ h))
  · exact .inl (.inr ⟨o, s.z _ _ _ h⟩)
  · exact .inr h
/-! ### what is seen of a heap: a list of objects at unlike addresses -/
structure Sees (H : Hp) (L : List (Addr × HO)) : Prop where
  at_ : ∀ e ∈ L, H e.1 = some e.2
  nd : (L.map (·.1)).Nodup
theorem Sees.nil (H : Hp) : Sees H [] := ⟨fun _ h => (by cases h), by simp⟩
theorem Sees.get {H : Hp} {L : List (Addr × HO)} (s : Sees H L) (i : Nat) {a : Addr} {o : HO} (h : L[i]? = some (a, o) := by rfl) : H a = some o := s.at_ (a, o) (List.mem_of_getElem? h)
theorem Sees.out {H : Hp} {L : List (Addr × HO)} (s : Sees H L) {p : Addr} (h : H p = none) : p ∉ L.map (·.1) := fun q => by
  obtain ⟨e, he, rfl⟩ := List.mem_map.mp q
  rw [s.at_ e he] at h; cases h
theorem Sees.add {H : Hp} {L : List (Addr × HO)} (s : Sees H L) {p : Addr} {o : HO} (h : H p = some o) (n : p ∉ L.map (·.1)) : Sees H (L ++ [(p, o)]) :=
  ⟨fun e he => by
    rcases List.mem_append.mp he with he | he
    · exact s.at_ e he
    · have e1 : e = (p, o) := by simpa using he
      subst e1; exact h, by
    rw [List.map_append, List.nodup_append]
    refine ⟨s.nd, by simp, fun x hx y hy => ?_⟩
    have e1 : y = p := by simpa using hy
    subst e1
    exact fun z => n (z ▸ hx)⟩
theorem Sees.keep {A : List Addr} {H H1 : Hp} {L : List (Addr × HO)} (s : Sees H L) (t : Stp A H H1) (h : ∀ x ∈ A, x ∉ L.map (·.1)) : Sees H1 L :=
  ⟨fun e he => t.k _ _ (fun z => h _ z (List.mem_map.mpr ⟨e, he, rfl⟩)) (s.at_ e he), s.nd⟩
theorem Sees.keep0 {H H1 : Hp} {L : List (Addr × HO)} (s : Sees H L) (t : Stp [] H H1) : Sees H1 L := s.keep t fun x h => by cases h
theorem Sees.new {H : Hp} {L : List (Addr × HO)} (s : Sees H L) {p : Addr} {o : HO} (h : H p = none) : Sees (upd H p o) (L ++ [(p, o)]) :=
  (s.keep0 (Stp.new h)).add upd_same (s.out h)
theorem set_self {α : Type} : ∀ {l : List α} {i : Nat} {x : α}, l[i]? = some x → l.set i x = l
  | [], i, x, h => by simp at h
  | a :: l, 0, x, h => by
    have e : a = x := by simpa using h
    rw [e]; rfl
  | a :: l, i + 1, x, h => by
    show a :: l.set i x = a :: l
    rw [set_self (l := l) (i := i) (by simpa using h)]
theorem nd_set {L : List (Addr × HO)} {i : Nat} {a : Addr} {o o' : HO} (h : L[i]? = some (a, o)) : (L.set i (a, o')).map (·.1) = L.map (·.1) := by
  rw [List.map_set]
  exact set_self (by rw [List.getElem?_map, h]; rfl)
/-- what stands at i is changed, all else seen is kept -/
theorem Sees.chg {H H1 : Hp} {L : List (Addr × HO)} (s : Sees H L) (i : Nat) {a : Addr} {o o' : HO} (t : Stp [a] H H1) (h1 : H1 a = some o') (h : L[i]? = some (a, o) := by rfl) : Sees H1 (L.set i (a, o')) :=
  ⟨fun e he => by
    obtain ⟨j, hj, e1⟩ := List.mem_iff_getElem.mp he
    rw [List.getElem_set] at e1
    have hj2 : j < L.length := by simpa using hj
    by_cases q : i = j
    · rw [if_pos q] at e1
      rw [← e1]; exact h1
    · rw [if_neg q] at e1
      have m : e ∈ L := by rw [← e1]; exact List.getElem_mem hj2
      refine t.k _ _ (fun z => ?_) (s.at_ e m)
      have z1 : e.1 = a := by simpa using z
      obtain ⟨hi, ei⟩ := List.getElem?_eq_some_iff.mp h
      refine q ((List.getElem_inj (h₀ := by simpa using hi) (h₁ := by simpa using hj2) s.nd).mp ?_)
      rw [List.getElem_map, List.getElem_map, ei, e1]
      exact z1.symm, by rw [nd_set h]; exact s.nd⟩
theorem Sees.put {H : Hp} {L : List (Addr × HO)} (s : Sees H L) (i : Nat) {a : Addr} {o o' : HO} (h : L[i]? = some (a, o) := by rfl) (hm : Mut (some o) := by exact True.intro) : Sees (upd H a o') (L.set i (a, o')) :=
  s.chg i (Stp.put (s.get i h) (by simp) hm) upd_same h
theorem Sees.sub {H : Hp} {L M : List (Addr × HO)} (s : Sees H L) (h : M.Sublist L) : Sees H M :=
  ⟨fun e he => s.at_ e (h.subset he), s.nd.sublist (h.map _)⟩
theorem Sees.take {H : Hp} {L : List (Addr × HO)} (s : Sees H L) (n : Nat) : Sees H (L.take n) := s.sub (List.take_sublist _ _)
theorem Sees.ne {H : Hp} {L : List (Addr × HO)} (s : Sees H L) (i j : Nat) {a b : Addr} {o u : HO} (hi : L[i]? = some (a, o) := by rfl) (hj : L[j]? = some (b, u) := by rfl) (n : i ≠ j := by decide) : a ≠ b := fun e => by
  obtain ⟨h1, e1⟩ := List.getElem?_eq_some_iff.mp hi
  obtain ⟨h2, e2⟩ := List.getElem?_eq_some_iff.mp hj
  refine n ((List.getElem_inj (h₀ := by simpa using h1) (h₁ := by simpa using h2) s.nd).mp ?_)
  rw [List.getElem_map, List.getElem_map, e1, e2]
  exact e
/-! ### data of tuples alone -/
mutual
/-- no list in it -/
def flatD : PyData → Bool
  | .list _ => false
  | .tuple ds => flatDs ds
  | .dict _ => false
  | _ => true
def flatDs : List PyData → Bool
  | [] => true
  | d :: ds => flatD d && flatDs ds
end
theorem flatDs_app : ∀ (xs ys : List PyData), flatDs (xs ++ ys) = (flatDs xs && flatDs ys)
  | [], ys => by simp [flatDs]
  | x :: xs, ys => by
    show (flatD x && flatDs (xs ++ ys)) = ((flatD x && flatDs xs) && flatDs ys)
    rw [flatDs_app xs ys, Bool.and_assoc]
mutual
theorem dp_mono {A : List Addr} {K : PySem.W.Frag} {H H1 : Hp} (s : Stp A H H1) : ∀ (d : PyData) (v : V), flatD d = true → Dp K H v d → Dp K H1 v d
  | .none, _, _, h => by cases h; exact .non
  | .bool b, _, _, h => by cases h; exact .bl b
  | .int i, _, _, h => by cases h; exact .int i
  | .str x, _, _, h => by cases h; exact .str x
  | .list ds, _, f, h => by cases f
  | .tuple ds, _, f, h => by
    cases h with
    | tup hs ha => exact .tup (s.sqT hs) (dps_mono s ds _ f ha)
  | .dict _, _, _, h => by cases h
theorem dps_mono {A : List Addr} {K : PySem.W.Frag} {H H1 : Hp} (s : Stp A H H1) : ∀ (ds : List PyData) (vs : List V), flatDs ds = true → DpAll K H vs ds → DpAll K H1 vs ds
  | [], _, _, h => by cases h; exact .nil
  | d :: ds, _, f, h => by
    have f2 : (flatD d && flatDs ds) = true := f
    obtain ⟨f3, f4⟩ := Bool.and_eq_true_iff.mp f2
    cases h with
    | cons h1 h2 => exact .cons (dp_mono s d _ f3 h1) (dps_mono s ds _ f4 h2)
end
/-! ### own error classes -/
/-- the class at C, by the written part, as OexC and XfC ask; no attribute f of its own -/
def oexB (K : PySem.W.Frag) (C : Addr) : Bool := match K.lookup C with
  | some ⟨.type "type", _, .cls cd, sl⟩ => (match cd.mro, sl.toList with
    | .ref C' :: bm, [_, _, _, _, some (.builtin n), _] => C' == C && n == "ValueError.__new__" && !cd.hasDel && cd.hasDict && PySem.HandSPX.refsVE bm
    | _, _ => false)
  | _ => false
theorem oexB_ok {K : PySem.W.Frag} {C : Addr} (q : oexB K C = true) : ∃ nm q N bs bm sn sub ab col dd k0 k1 k2 k3 k5, K.lookup C = some (excClassObj nm q C N bs bm true sn sub ab col dd k0 k1 k2 k3 k5 "ValueError.__new__") ∧ PySem.HandSPX.refsVE bm = true := by
  unfold oexB at q
  split at q
  · rename_i dd cd sl ho
    split at q
    · rename_i C' bm k0 k1 k2 k3 n k5 hm hs
      simp only [Bool.and_eq_true, beq_iff_eq, Bool.not_eq_true'] at q
      obtain ⟨⟨⟨⟨rfl, rfl⟩, hdel⟩, hdc⟩, ht⟩ := q
      obtain ⟨nm, bs, mro, ns, qn, hd, sn, sub, ab, col, del⟩ := cd
      dsimp only at hm hdel hdc
      subst hm hdel hdc
      have hsl : sl = #[k0, k1, k2, k3, some (.builtin "ValueError.__new__"), k5] := by
        obtain ⟨l⟩ := sl
        simp only at hs
        rw [hs]
      subst hsl
      exact ⟨nm, qn, ns, bs, bm, sn, sub, ab, col, dd, k0, k1, k2, k3, k5, ho, ht⟩
    · cases q
  · cases q
/-- what the written part says of an own error class x with the field f, its __init__ at fI; HaltError at CH -/
structure ErrC (K : PySem.W.Frag) (C : Addr) (f : Str) : Prop where
  oex : OexC K C
  xf : XfC K C
  no : PySem.W.findIn K (.ref C) f = some none
  init : PySem.W.findIn K (.ref C) "__init__" = some (some (.ref (He.ma K C "__init__")))
  tI : PySem.W.typeIn K (.ref (He.ma K C "__init__")) = some (.type "function")
def errB (K : PySem.W.Frag) (x f : Str) : Bool :=
  oexB K (He.ga K x) && (decide (PySem.W.findIn K (.ref (He.ga K x)) "__setattr__" = some (some (.builtin "object.__setattr__"))) && (decide (PySem.W.subIn K (.ref (He.ga K x)) (.type "BaseException") = some true) &&
  (decide (PySem.W.typeIn K (.ref (He.ga K x)) = some (.type "type")) && (PySem.W.keepIn K (.ref (He.ga K x)) && (xfB K (He.ga K x) && (decide (PySem.W.findIn K (.ref (He.ga K x)) f = some none) &&
  (decide (PySem.W.findIn K (.ref (He.ga K x)) "__init__" = some (some (.ref (He.ma K (He.ga K x) "__init__")))) && decide (PySem.W.typeIn K (.ref (He.ma K (He.ga K x) "__init__")) = some (.type "function")))))))))
theorem errB_ok {K : PySem.W.Frag} {x f : Str} (h : errB K x f = true) : ErrC K (He.ga K x) f := by
  obtain ⟨h1, h⟩ := He.ba h
  obtain ⟨h2, h⟩ := He.ba h
  obtain ⟨h3, h⟩ := He.ba h
  obtain ⟨h4, h⟩ := He.ba h
  obtain ⟨h5, h⟩ := He.ba h
  obtain ⟨h6, h⟩ := He.ba h
  obtain ⟨h7, h⟩ := He.ba h
  obtain ⟨h8, h9⟩ := He.ba h
  exact ⟨⟨oexB_ok h1, of_decide_eq_true h2, of_decide_eq_true h3, of_decide_eq_true h4, h5⟩, xfB_ok h6, of_decide_eq_true h7, of_decide_eq_true h8, of_decide_eq_true h9⟩
/-- HaltError, whose __init__ is ValueError's -/
structure BaseErr (K : PySem.W.Frag) (C : Addr) : Prop where
  rd : PySem.W.readsIn K C (.type "type") = true
  ga : PySem.W.specialIn K (.ref C) "__getattribute__" = some (some (.builtin "type.__getattribute__"))
  at_ : PySem.W.findCls K (.ref C) (.type "type") "__init__" = some (.val (.builtin "ValueError.__init__"))
def isVE : Option PySem.W.CFound → Bool
  | some (.val (.builtin n)) => n == "ValueError.__init__"
  | _ => false
theorem isVE_ok {o : Option PySem.W.CFound} (h : isVE o = true) : o = some (.val (.builtin "ValueError.__init__")) := by
  unfold isVE at h
  split at h
  · rw [beq_iff_eq.mp h]
  · cases h
def baseErrB (K : PySem.W.Frag) (x : Str) : Bool := PySem.W.readsIn K (He.ga K x) (.type "type") &&
  (decide (PySem.W.specialIn K (.ref (He.ga K x)) "__getattribute__" = some (some (.builtin "type.__getattribute__"))) && isVE (PySem.W.findCls K (.ref (He.ga K x)) (.type "type") "__init__"))
theorem baseErrB_ok {K : PySem.W.Frag} {x : Str} (h : baseErrB K x = true) : BaseErr K (He.ga K x) := by
  obtain ⟨h1, h⟩ := He.ba h
  obtain ⟨h2, h3⟩ := He.ba h
  exact ⟨h1, of_decide_eq_true h2, isVE_ok h3⟩
section
variable {X : Cx} {o e : Expr} {es : List Expr} {to te ta : TE} {t tk : TA} {x m : Str} {p p1 p2 apos pos : Pos} {kws : List Keyword} {E : L2.St → XK} {k n : Nat} {ps ks : List Str} {sp : Sp} {gV : List V → List V → List V}
/-- x.__init__(self, ..), x an own error class that has none of its own -/
theorem pe_hinit {CH : Addr} {pl : Sem Bool} (hg : Gl X x) (hm : X.mg x = some (.ref CH)) (B : BaseErr X.K CH) (ha : PA X (e :: es) t) (hdb : (x == ("__debug__" : Str)) = false := by decide)
    (hc : eval (.Call (.Attribute (.Name x p1) "__init__" p2) (e :: es) [] pos) X.env = (do
      let ov ← eval (.Name x p1) X.env
      standAt p2.atName
      let (f, first) ← holding [ov] (getMethod ov "__init__" pl)
      callWith pos f first (backTo pos (starEach (e :: es) X.env)) (backToKw pos (keywordEach [] X.env))) := by rfl)
    (he : starEach (e :: es) X.env = (false, eval e X.env) :: starEach es X.env := by rfl) (hpl : (backTo pos (starEach es X.env)).any (·.1) = false := by rfl) :
    PE X (.Call (.Attribute (.Name x p1) "__init__" p2) (e :: es) [] pos) (tVeI X.K t) := by
  refine ⟨fun pins s σ H Q I h => ?_⟩
  refine PySem.W.methodCall_KW (ld_glob I hg hm ?_ hdb) hc
  refine PySem.W.method_cls I.kIn B.ga (PySem.W.cls_value I.kIn B.rd B.at_ (by decide +kernel) ?_)
  show wpAny _ _ (callWith pos (Value.builtin "ValueError.__init__") [] (backTo pos (starEach (e :: es) X.env)) []) _ _ _
  refine PyProof.Rows.callWith_method1 (thn (ha.run pos pins _ σ H _ (I.tok _) h) fun us s1 ⟨vs, H1, I1, r1, a, C, ws, ev, hl, T, ea, q⟩ => ?_) he hpl
  subst ev
  cases r1 with
  | @cons _ u0 _ ur ra rw' =>
    obtain rfl : u0 = Value.ref a := ra
    have hlen : ur.length ≤ sizeLine := by
      rw [← Paired.length rw', sizeLine_eq]
      omega
    exact oinit_ok T I1 ea hlen fun s' J => ⟨.non, H1, J, rfl, q⟩
/-! ### calls, by name: what is let out is wished for at the caller's slots -/
/-- nothing is let out -/
theorem pL {X : Cx} (σ : L2.St) : PassesAt (L2.CX X.prog X.w) X σ E0 := fun _ _ _ _ _ _ h => by
  obtain ⟨_, _, _, _, _, _, _, _, _, _, _, _, z⟩ := h
  exact z.elim
/-- the def at f: its promise, its parameters one by one -/
structure Cal (P : Program) (w : World) (K : PySem.W.Frag) (mg : Str → Option Value) (base : Heap) (k : Nat) (f : Addr) (ps : List Str) (sp : Sp) : Prop where
  ex : ∃ fd, FnOk P w K mg base (L2.CX P w) k f fd ps sp ∧ Binds K fd ps []
  kp : PySem.W.keepIn K (.ref f) = true
/-- .. called with n values and the keywords ks -/
structure CalK (P : Program) (w : World) (K : PySem.W.Frag) (mg : Str → Option Value) (base : Heap) (k : Nat) (f : Addr) (ps : List Str) (sp : Sp) (n : Nat) (ks : List Str) (gV : List V → List V → List V) : Prop where
  ex : ∃ fd g, FnOk P w K mg base (L2.CX P w) k f fd ps sp ∧ KBn K fd ps n ks g gV
  kp : PySem.W.keepIn K (.ref f) = true
theorem pe_cal {f : Addr} (C : Cal X.prog X.w X.K X.mg X.base k f ps sp) (hr : Room k X.A) (hg : Gl X x) (hm : X.mg x = some (.ref f)) (hx : ∀ σ, PassesAt (L2.CX X.prog X.w) X σ (E σ)) (ha : PA X (e :: es) t)
    (hdb : (x == ("__debug__" : Str)) = false := by decide) (he : starEach (e :: es) X.env = (false, eval e X.env) :: starEach es X.env := by rfl) (hpl : (backTo pos (starEach es X.env)).any (·.1) = false := by rfl) :
    PE X (.Call (.Name x p) (e :: es) [] pos) (tCallS sp E t) := by
  obtain ⟨fd, F, b⟩ := C.ex
  exact pe_callS F hr hg hm C.kp b hx ha hdb he hpl
/-- f() -/
theorem pe_cal0 {f : Addr} (C : Cal X.prog X.w X.K X.mg X.base k f ps sp) (hr : Room k X.A) (hg : Gl X x) (hm : X.mg x = some (.ref f)) (hx : ∀ σ, PassesAt (L2.CX X.prog X.w) X σ (E σ))
    (hdb : (x == ("__debug__" : Str)) = false := by decide) : PE X (.Call (.Name x p) [] [] pos) (tCallS sp E tNil) := by
  obtain ⟨fd, F, b⟩ := C.ex
  refine ⟨fun pins s σ H Q I h => ?_⟩
  refine wpAny_Call_Name_kw (ld_glob I hg hm ?_ hdb)
  exact PySem.W.callWith_K0 I.kIn C.kp (run_fnS (us := []) (vs := []) F hr b (hx σ) I .nil h)
/-- the callee with keywords runs -/
theorem run_calK {pins : List (Addr × Obj)} {σ : L2.St} {H : Hp} {s : Shared} {Q : VK} {us ws : List Value} {vs zs : List V} {f : Addr} {fd : FuncData} {g : List Value → List Value → List Value} (F : FnOk X.prog X.w X.K X.mg X.base (L2.CX X.prog X.w) k f fd ps sp) (hr : Room k X.A) (hb : KBn X.K fd ps n ks g gV) (hx : PassesAt (L2.CX X.prog X.w) X σ (E σ))
    (I : Inv X pins σ H s) (r : Vals vs us) (rz : Vals zs ws) (l1 : vs.length = n) (l2 : zs.length = ks.length) (h : sp (gV vs zs) H Q (E σ)) : wpAny (model X.prog X.w) X.A (call (.ref f) us (ks.zip ws)) (EP X pins σ Q) X.xe s := by
  have r2 := hb.rel r rz
  refine wpAny_call (codeAny_mono (F.run X.A X.stack s H ⟨us, ks.zip ws⟩ (g us ws) (gV vs zs) Q (E σ) hr I.env0 (hb.to s us ws I.kIn (r.length.symm.trans l1) (rz.length.symm.trans l2)) r2 h) fun r s' hq => ?_)
  cases r with
  | error e => exact hx pins H s e s' I hq
  | ok fl =>
    cases fl with
    | ret u => exact I.after hq
    | next => exact False.elim hq
    | brk => exact False.elim hq
    | cont => exact False.elim hq
def tCallKS (n m : Nat) (sp : Sp) (gV : List V → List V → List V) (E : L2.St → XK) (t tk : TA) : TE := fun σ H Q => t σ H fun vs H1 => tk σ H1 fun zs H2 => vs.length = n ∧ zs.length = m ∧ sp (gV vs zs) H2 Q (E σ)
theorem pe_calK {f : Addr} (C : CalK X.prog X.w X.K X.mg X.base k f ps sp n ks gV) (hr : Room k X.A) (hg : Gl X x) (hm : X.mg x = some (.ref f)) (hx : ∀ σ, PassesAt (L2.CX X.prog X.w) X σ (E σ)) (ha : PA X (e :: es) t) (hkw : PK X kws tk)
    (hall : (backToKw pos (keywordEach kws X.env)).all (·.1.isSome) = true := by rfl) (hks : (backToKw pos (keywordEach kws X.env)).filterMap (·.1) = ks := by rfl)
    (hdb : (x == ("__debug__" : Str)) = false := by decide) (he : starEach (e :: es) X.env = (false, eval e X.env) :: starEach es X.env := by rfl)
    (hpl : ((backTo pos (starEach (e :: es) X.env)).any (·.1) || (backToKw pos (keywordEach kws X.env)).any (·.1.isNone)) = false := by rfl) :
    PE X (.Call (.Name x p) (e :: es) kws pos) (tCallKS n ks.length sp gV E t tk) := by
  obtain ⟨fd, g, F, b⟩ := C.ex
  refine ⟨fun pins s σ H Q I h => ?_⟩
  refine wpAny_Call_Name_kw (ld_glob I hg hm ?_ hdb)
  refine PySem.W.callWith_KW (h₀ := X.base) I.ok.mod.kin C.kp hall (thn (ha.run pos pins s σ H _ I h) fun us s1 ⟨vs, H1, I1, r, q⟩ => ?_) hpl he
  refine thn (hkw.run pos pins s1 σ H1 _ I1 q) fun ws s2 ⟨zs, H2, I2, rz, l1, l2, q2⟩ => ⟨I2.kIn, ?_⟩
  rw [hks]
  exact run_calK F hr b (hx σ) I2 r rz l1 l2 q2
theorem pe_calK0 {f : Addr} (C : CalK X.prog X.w X.K X.mg X.base k f ps sp n ks gV) (hr : Room k X.A) (hg : Gl X x) (hm : X.mg x = some (.ref f)) (hx : ∀ σ, PassesAt (L2.CX X.prog X.w) X σ (E σ)) (hkw : PK X kws tk)
    (hall : (backToKw pos (keywordEach kws X.env)).all (·.1.isSome) = true := by rfl) (hks : (backToKw pos (keywordEach kws X.env)).filterMap (·.1) = ks := by rfl)
    (hdb : (x == ("__debug__" : Str)) = false := by decide)
    (hpl : ((backTo pos (starEach [] X.env)).any (·.1) || (backToKw pos (keywordEach kws X.env)).any (·.1.isNone)) = false := by rfl) :
    PE X (.Call (.Name x p) [] kws pos) (tCallKS n ks.length sp gV E tNil tk) := by
  obtain ⟨fd, g, F, b⟩ := C.ex
  refine ⟨fun pins s σ H Q I h => ?_⟩
  refine wpAny_Call_Name_kw (ld_glob I hg hm ?_ hdb)
  refine PySem.W.callWith_KW0 (h₀ := X.base) I.ok.mod.kin C.kp hall ?_ hpl
  refine thn (hkw.run pos pins s σ H _ I h) fun ws s2 ⟨zs, H2, I2, rz, l1, l2, q2⟩ => ⟨I2.kIn, ?_⟩
  rw [hks]
  exact run_calK (us := []) (vs := []) F hr b (hx σ) I2 .nil rz l1 l2 q2
/-! ### new instances -/
def tMakeKS (C : Addr) (n m : Nat) (sp : Sp) (gV : List V → List V → List V) (E : L2.St → XK) (t tk : TA) : TE := fun σ H Q => t σ H fun vs H1 => tk σ H1 fun zs H2 => vs.length = n ∧ zs.length = m ∧ ∀ x dx, H2 x = none → H2 dx = none → dx ≠ x →
  sp (gV (.ref x :: vs) zs) (upd (upd H2 dx (.own x)) x (.ins C dx [])) (fun v H3 => v = .non ∧ Q (.ref x) H3) (E σ)
theorem run_makeKS {pins : List (Addr × Obj)} {σ : L2.St} {H : Hp} {s : Shared} {Q : VK} {us ws : List Value} {vs zs : List V} {f C : Addr} {fd : FuncData} {g : List Value → List Value → List Value} (M : Mk X.K C f) (F : FnOk X.prog X.w X.K X.mg X.base (L2.CX X.prog X.w) k f fd ps sp) (hr : Room (k + 1) X.A) (hb : KBn X.K fd ps (n + 1) ks g gV) (hx : PassesAt (L2.CX X.prog X.w) X σ (E σ))
    (I : Inv X pins σ H s) (r : Vals vs us) (rz : Vals zs ws) (l1 : vs.length = n) (l2 : zs.length = ks.length)
    (h : ∀ x dx, H x = none → H dx = none → dx ≠ x → sp (gV (.ref x :: vs) zs) (upd (upd H dx (.own x)) x (.ins C dx [])) (fun v H2 => v = .non ∧ Q (.ref x) H2) (E σ)) :
    wpAny (model X.prog X.w) X.A (call (.ref C) us (ks.zip ws)) (EP X pins σ Q) X.xe s := by
  have hq := h (s.heap.objs.size + 1) s.heap.objs.size (I.hok.fresh (Nat.le_succ _)) (I.hok.fresh (Nat.le_refl _)) (Nat.ne_of_lt (Nat.lt_succ_self _))
  have I2 := Inv.made (C := C) I
  have r1 : Vals (V.ref (s.heap.objs.size + 1) :: vs) (Value.ref (s.heap.objs.size + 1) :: us) := .cons rfl r
  have r2 := hb.rel r1 rz
  have n1 : (Value.ref (s.heap.objs.size + 1) :: us).length = n + 1 := by
    rw [List.length_cons, ← r.length, l1]
  refine wpAny_call (make_map (f := f) I.kIn M.makes M.init (beq_iff_eq.mp M.fn) (codeAny_mono (F.run _ X.stack _ _ ⟨Value.ref (s.heap.objs.size + 1) :: us, ks.zip ws⟩ (g (Value.ref (s.heap.objs.size + 1) :: us) ws) _ _ (E σ) (hr.make C us (ks.zip ws))
    (I2.env0.make C us (ks.zip ws)) (hb.to _ (Value.ref (s.heap.objs.size + 1) :: us) ws I2.kIn n1 (rz.length.symm.trans l2)) r2 hq) fun r s' hq' => ?_))
  cases r with
  | error e => exact hx pins _ _ e s' I2 hq'
  | ok fl =>
    cases fl with
    | ret u =>
      obtain ⟨v, H', I3, rv, ev, q3⟩ := I2.after hq'
      subst ev
      exact ⟨rv, ⟨V.ref (s.heap.objs.size + 1), H', I3, rfl, q3⟩⟩
    | next => exact False.elim hq'
    | brk => exact False.elim hq'
    | cont => exact False.elim hq'
/-- C(k = v, ..) -/
theorem pe_mk0 {f C : Addr} (M : Mk X.K C f) (F : CalK X.prog X.w X.K X.mg X.base k f ps sp 1 ks gV) (hr : Room (k + 1) X.A) (hg : Gl X x) (hm : X.mg x = some (.ref C)) (hx : ∀ σ, PassesAt (L2.CX X.prog X.w) X σ (E σ)) (hkw : PK X kws tk)
    (hall : (backToKw pos (keywordEach kws X.env)).all (·.1.isSome) = true := by rfl) (hks : (backToKw pos (keywordEach kws X.env)).filterMap (·.1) = ks := by rfl) (hdb : (x == ("__debug__" : Str)) = false := by decide)
    (hpl : ((backTo pos (starEach [] X.env)).any (·.1) || (backToKw pos (keywordEach kws X.env)).any (·.1.isNone)) = false := by rfl) :
    PE X (.Call (.Name x p) [] kws pos) (tMakeKS C 0 ks.length sp gV E tNil tk) := by
  obtain ⟨fd, g, F, b⟩ := F.ex
  refine ⟨fun pins s σ H Q I h => ?_⟩
  refine wpAny_Call_Name_kw (ld_glob I hg hm ?_ hdb)
  refine PySem.W.callWith_KW0 (h₀ := X.base) I.ok.mod.kin M.kp hall ?_ hpl
  refine thn (hkw.run pos pins s σ H _ I h) fun ws s2 ⟨zs, H2, I2, rz, l1, l2, q2⟩ => ⟨I2.kIn, ?_⟩
  rw [hks]
  exact run_makeKS (us := []) (vs := []) M F hr b (hx σ) I2 .nil rz rfl l2 q2
/-- C(e, .., k = v, ..) -/
theorem pe_mk {f C : Addr} (M : Mk X.K C f) (F : CalK X.prog X.w X.K X.mg X.base k f ps sp (n + 1) ks gV) (hr : Room (k + 1) X.A) (hg : Gl X x) (hm : X.mg x = some (.ref C)) (hx : ∀ σ, PassesAt (L2.CX X.prog X.w) X σ (E σ)) (ha : PA X (e :: es) t) (hkw : PK X kws tk)
    (hall : (backToKw pos (keywordEach kws X.env)).all (·.1.isSome) = true := by rfl) (hks : (backToKw pos (keywordEach kws X.env)).filterMap (·.1) = ks := by rfl) (hdb : (x == ("__debug__" : Str)) = false := by decide)
    (he : starEach (e :: es) X.env = (false, eval e X.env) :: starEach es X.env := by rfl) (hpl : ((backTo pos (starEach (e :: es) X.env)).any (·.1) || (backToKw pos (keywordEach kws X.env)).any (·.1.isNone)) = false := by rfl) :
    PE X (.Call (.Name x p) (e :: es) kws pos) (tMakeKS C n ks.length sp gV E t tk) := by
  obtain ⟨fd, g, F, b⟩ := F.ex
  refine ⟨fun pins s σ H Q I h => ?_⟩
  refine wpAny_Call_Name_kw (ld_glob I hg hm ?_ hdb)
  refine PySem.W.callWith_KW (h₀ := X.base) I.ok.mod.kin M.kp hall (thn (ha.run pos pins s σ H _ I h) fun us s1 ⟨vs, H1, I1, r, q⟩ => ?_) hpl he
  refine thn (hkw.run pos pins s1 σ H1 _ I1 q) fun ws s2 ⟨zs, H2, I2, rz, l1, l2, q2⟩ => ⟨I2.kIn, ?_⟩
  rw [hks]
  exact run_makeKS M F hr b (hx σ) I2 r rz l1 l2 q2
/-- a constant of the module -/
theorem pe_gint {i : Int} (hg : Gl X x) (h : ∃ t, X.mg x = some (.int i t)) (hdb : (x == ("__debug__" : Str)) = false := by decide) : PE X (.Name x pos) (tC (.int i)) := by
  obtain ⟨t, h⟩ := h
  exact pe_glob hg h ⟨t, rfl⟩ hdb
theorem pe_gstr {z : Str} (hg : Gl X x) (h : ∃ t, X.mg x = some (.str z t)) (hdb : (x == ("__debug__" : Str)) = false := by decide) : PE X (.Name x pos) (tC (.str z)) := by
  obtain ⟨t, h⟩ := h
  exact pe_glob hg h ⟨t, rfl⟩ hdb
end
/-! ### == and != of instances without an own __eq__ -/
def cmpB (K : PySem.W.Frag) (C : Addr) : Bool := match K.lookup C with
  | some ⟨.type "type", _, .cls cd, sl⟩ => (match cd.mro, sl.toList with
    | [.ref C', .type "object"], [_, _, _, _, some (.builtin _), _] => C' == C && !cd.hasDel && PySem.W.nsOkIn K cd.ns && PySem.W.nsIn K cd.ns "__eq__" == some none && PySem.W.nsIn K cd.ns "__ne__" == some none
    | _, _ => false)
  | _ => false
theorem cmpB_ok {K : PySem.W.Frag} {C x dx : Addr} {h : Heap} (X : K.In h) (q : cmpB K C = true) (hx : h.get? x = some (PySem.W.instObj C dx)) : h.CmpInst x C [.type "object"] := by
  unfold cmpB at q
  split at q
  · rename_i dd cd sl ho
    split at q
    · rename_i C' k0 k1 k2 k3 n k5 hm hs
      simp only [Bool.and_eq_true, beq_iff_eq, Bool.not_eq_true'] at q
      obtain ⟨⟨⟨⟨rfl, hdel⟩, hok⟩, he⟩, hne⟩ := q
      obtain ⟨nm, bs, mro, ns, qn, hd, sn, sub, ab, col, del⟩ := cd
      dsimp only at hm hdel hok he hne
      subst hm hdel
      have hsl : sl = #[k0, k1, k2, k3, some (.builtin n), k5] := by
        obtain ⟨l⟩ := sl
        simp only at hs
        rw [hs]
      subst hsl
      exact ⟨_, nm, qn, ns, bs, hd, sn, sub, ab, col, dd, k0, k1, k2, k3, k5, n, _, hx, rfl, X _ _ ho, .of_isNs (PySem.W.isNs_of_in X hok), PySem.W.nsMap_none_of_in X hok he, PySem.W.nsMap_none_of_in X hok hne⟩
    · cases q
  · cases q
def rEqI (K : PySem.W.Frag) (neg : Bool) : R2 := fun x y H Q => ∃ a b C D dx dy fs gs, x = .ref a ∧ y = .ref b ∧ H a = some (.ins C dx fs) ∧ H b = some (.ins D dy gs) ∧ cmpB K C = true ∧ cmpB K D = true ∧ Q (.bl (if neg then !decide (a = b) else decide (a = b))) H
theorem op_eqI {X : Cx} (hu : X.A.units + 1 < cLine) : OpR X (compareOp .Eq) (rEqI X.K false) := by
  intro pins s σ H x y u v Q I r1 r2 h
  obtain ⟨a, b, C, D, dx, dy, fs, gs, rfl, rfl, ha, hb, hC, hD, q⟩ := h
  cases (show u = Value.ref a from r1)
  cases (show v = Value.ref b from r2)
  obtain ⟨_, oa, _⟩ := ins_get I.hok ha
  obtain ⟨_, ob, _⟩ := ins_get I.hok hb
  have ca := cmpB_ok I.kIn hC oa.obj
  have cb := cmpB_ok I.kIn hD ob.obj
  obtain ⟨hp, g, d, t, os⟩ := s
  by_cases e : a = b
  · subst e
    refine compareOp_eq_same F.cmp_object ca (by omega) ⟨.bl true, H, I, rfl, ?_⟩
    simpa using q
  · refine compareOp_eq_other F.cmp_object F.cmp_object ca cb e (by omega) ⟨.bl false, H, I, rfl, ?_⟩
    simpa [e] using q
theorem op_neI {X : Cx} (hu : X.A.units + 1 < cLine) : OpR X (compareOp .NotEq) (rEqI X.K true) := by
  intro pins s σ H x y u v Q I r1 r2 h
  obtain ⟨a, b, C, D, dx, dy, fs, gs, rfl, rfl, ha, hb, hC, hD, q⟩ := h
  cases (show u = Value.ref a from r1)
  cases (show v = Value.ref b from r2)
  obtain ⟨_, oa, _⟩ := ins_get I.hok ha
  obtain ⟨_, ob, _⟩ := ins_get I.hok hb
  have ca := cmpB_ok I.kIn hC oa.obj
  have cb := cmpB_ok I.kIn hD ob.obj
  obtain ⟨hp, g, d, t, os⟩ := s
  by_cases e : a = b
  · subst e
    refine compareOp_ne_same F.cmp_object ca (by omega) ⟨.bl false, H, I, rfl, ?_⟩
    simpa using q
  · refine compareOp_ne_other F.cmp_object F.cmp_object ca cb e (by omega) ⟨.bl true, H, I, rfl, ?_⟩
    simpa [e] using q
/-! ### raising an own error -/
/-- what an own error's __init__ promises -/
def spErr (C : Addr) (f : Str) : Sp := fun vs H Q _ => ∃ (e : Addr) (v : V), vs = [.ref e, v] ∧ H e = some (exo e C none) ∧ ∀ dx, H dx = none → dx ≠ e → Q .non (upd (upd H dx (exd dx [(f, v)])) e (exo e C (some dx)))
/-- x(e): an error with the field f -/
def tErr (C : Addr) (f : Str) (ta : TA) : L2.St → Hp → XK → Prop := fun σ H Q => ta σ H fun vs H1 => ∃ v, vs = [v] ∧ ∀ d, H1 d = none → Q (.ref C) (some d) (upd H1 d (.xd [(f, v)]))
theorem PA.cl {X : Cx} {es : List Expr} {t : TA} (h : PA X es t) : PA X es (fun σ H Q => ∃ Q0, t σ H Q0 ∧ ∀ vs H1, Q0 vs H1 → Q vs H1) :=
  ⟨fun pos pins s σ H Q I ⟨Q0, q, m⟩ => wpAny_mono (h.run pos pins s σ H Q0 I q) (fun us s1 ⟨vs, H1, I1, r, z⟩ => ⟨vs, H1, I1, r, m _ _ z⟩) fun _ _ z => z⟩
theorem pmk_err {X : Cx} {e : Expr} {ta : TA} {p pos : Pos} {x : Str} {C : Addr} {f : Str} {k : Nat} (T : ErrC X.K C f) (F : Cal X.prog X.w X.K X.mg X.base k (He.ma X.K C "__init__") ["self", f] (spErr C f)) (hr : Room (k + 1) X.A) (hg : Gl X x) (hm : X.mg x = some (.ref C)) (ha : PA X [e] ta)
    (hdb : (x == ("__debug__" : Str)) = false := by decide) (he : starEach [e] X.env = (false, eval e X.env) :: starEach [] X.env := by rfl) (hpl : (backTo pos (starEach [] X.env)).any (·.1) = false := by rfl) :
    PMk X (.Call (.Name x p) [e] [] pos) (tErr C f ta) := by
  obtain ⟨fd, F1, b⟩ := F.ex
  have z := pmk_oex (p := p) (pos := pos) T.oex T.init T.tI F1 hr b .nil (passL) hg hm (PA.cl ha) hdb he hpl
  intro pins s σ H Q I h
  refine z pins s σ H Q I ⟨_, h, fun vs H1 ⟨v, ev, q⟩ => ?_⟩
  subst ev
  refine ⟨by show 1 ≤ 1000; decide, fun a na => ⟨a, v, rfl, upd_same, fun dx ndx ne => ⟨rfl, dx, [(f, v)], upd_same, ?_, ?_, ?_⟩⟩⟩
  · rw [upd_ne ne, upd_same]
  · rw [upd_ne ne] at ndx; exact ndx
  · rw [upd_ne ne] at ndx
    have e : upd (del (upd (upd (upd H1 a (exo a C none)) dx (exd dx [(f, v)])) a (exo a C (some dx))) a) dx (.xd [(f, v)]) = upd H1 dx (.xd [(f, v)]) := by
      funext b
      by_cases e1 : b = dx
      · rw [e1, upd_same, upd_same]
      · rw [upd_ne e1, upd_ne e1]
        by_cases e2 : b = a
        · rw [e2, del_same, na]
        · rw [del_ne e2, upd_ne e2, upd_ne e1, upd_ne e2]
    rw [e]
    exact q dx ndx
/-! ### things of any kind: what a value is, as data; lists and dicts that stand outside A -/
mutual
inductive Td (K : PySem.W.Frag) (A : List Addr) (H : Hp) : V → PyData → Prop
  | non : Td K A H .non .none
  | bl (b : Bool) : Td K A H (.bl b) (.bool b)
  | int (i : Int) : Td K A H (.int i) (.int i)
  | str (x : Str) : Td K A H (.str x) (.str x)
  | lst {a : Addr} {xs : List V} {ds : List PyData} : SqL K H a xs → a ∉ A → TdAll K A H xs ds → Td K A H (.ref a) (.list ds)
  | tup {a : Addr} {xs : List V} {ds : List PyData} : SqT K H a xs → TdAll K A H xs ds → Td K A H (.ref a) (.tuple ds)
  | dic {a : Addr} {kvs : List (Key × V)} : H a = some (.dK kvs) → a ∉ A → Td K A H (.ref a) (.dict [])
inductive TdAll (K : PySem.W.Frag) (A : List Addr) (H : Hp) : List V → List PyData → Prop
  | nil : TdAll K A H [] []
  | cons {v : V} {vs : List V} {d : PyData} {ds : List PyData} : Td K A H v d → TdAll K A H vs ds → TdAll K A H (v :: vs) (d :: ds)
end
section
variable {K : PySem.W.Frag} {A : List Addr} {H H1 : Hp}
theorem Stp.sqL (s : Stp A H H1) {a : Addr} {xs : List V} (h : SqL K H a xs) (n : a ∉ A) : SqL K H1 a xs := by
  rcases h with (h | ⟨o, h⟩) | h
  · exact .inl (.inl (s.k _ _ n h))
  · exact .inl (.inr ⟨o, s.z _ _ _ h⟩)
  · exact .inr h
mutual
theorem Td.mono (s : Stp A H H1) : ∀ {d : PyData} {v : V}, Td K A H v d → Td K A H1 v d
  | _, _, .non => .non
  | _, _, .bl b => .bl b
  | _, _, .int i => .int i
  | _, _, .str x => .str x
  | _, _, .lst h n t => .lst (s.sqL h n) n (TdAll.mono s t)
  | _, _, .tup h t => .tup (s.sqT h) (TdAll.mono s t)
  | _, _, .dic h n => .dic (s.k _ _ n h) n
theorem TdAll.mono (s : Stp A H H1) : ∀ {ds : List PyData} {vs : List V}, TdAll K A H vs ds → TdAll K A H1 vs ds
  | _, _, .nil => .nil
  | _, _, .cons h t => .cons (Td.mono s h) (TdAll.mono s t)
end
mutual
/-- outside another address too -/
theorem Td.away {B : List Addr} (h : ∀ a ∈ B, a ∈ A) : ∀ {d : PyData} {v : V}, Td K A H v d → Td K B H v d
  | _, _, .non => .non
  | _, _, .bl b => .bl b
  | _, _, .int i => .int i
  | _, _, .str x => .str x
  | _, _, .lst q n t => .lst q (fun z => n (h _ z)) (TdAll.away h t)
  | _, _, .tup q t => .tup q (TdAll.away h t)
  | _, _, .dic q n => .dic q (fun z => n (h _ z))
theorem TdAll.away {B : List Addr} (h : ∀ a ∈ B, a ∈ A) : ∀ {ds : List PyData} {vs : List V}, TdAll K A H vs ds → TdAll K B H vs ds
  | _, _, .nil => .nil
  | _, _, .cons q t => .cons (Td.away h q) (TdAll.away h t)
end
mutual
/-- data of tuples alone stands outside anything -/
theorem Td.any {B : List Addr} : ∀ {d : PyData} {v : V}, flatD d = true → Td K A H v d → Td K B H v d
  | .none, _, _, h => by cases h; exact .non
  | .bool b, _, _, h => by cases h; exact .bl b
  | .int i, _, _, h => by cases h; exact .int i
  | .str x, _, _, h => by cases h; exact .str x
  | .list ds, _, f, _ => by cases f
  | .tuple ds, _, f, h => by
    cases h with
    | tup q t => exact .tup q (TdAll.any f t)
  | .dict _, _, f, _ => by cases f
theorem TdAll.any {B : List Addr} : ∀ {ds : List PyData} {vs : List V}, flatDs ds = true → TdAll K A H vs ds → TdAll K B H vs ds
  | [], _, _, h => by cases h; exact .nil
  | d :: ds, _, f, h => by
    obtain ⟨f1, f2⟩ := Bool.and_eq_true_iff.mp (show (flatD d && flatDs ds) = true from f)
    cases h with
    | cons q t => exact .cons (Td.any f1 q) (TdAll.any f2 t)
end
mutual
/-- no dict in it -/
def nodic : PyData → Bool
  | .list ds => nodics ds
  | .tuple ds => nodics ds
  | .dict _ => false
  | _ => true
def nodics : List PyData → Bool
  | [] => true
  | d :: ds => nodic d && nodics ds
end
mutual
theorem Td.dp : ∀ {d : PyData} {v : V}, nodic d = true → Td K A H v d → Dp K H v d
  | .none, _, _, h => by cases h; exact .non
  | .bool b, _, _, h => by cases h; exact .bl b
  | .int i, _, _, h => by cases h; exact .int i
  | .str x, _, _, h => by cases h; exact .str x
  | .list ds, _, f, h => by
    cases h with
    | lst q n t => exact .lst q (TdAll.dp f t)
  | .tuple ds, _, f, h => by
    cases h with
    | tup q t => exact .tup q (TdAll.dp f t)
  | .dict _, _, f, _ => by cases f
theorem TdAll.dp : ∀ {ds : List PyData} {vs : List V}, nodics ds = true → TdAll K A H vs ds → DpAll K H vs ds
  | [], _, _, h => by cases h; exact .nil
  | d :: ds, _, f, h => by
    obtain ⟨f1, f2⟩ := Bool.and_eq_true_iff.mp (show (nodic d && nodics ds) = true from f)
    cases h with
    | cons q t => exact .cons (Td.dp f1 q) (TdAll.dp f2 t)
end
theorem TdAll.len : ∀ {ds : List PyData} {vs : List V}, TdAll K A H vs ds → vs.length = ds.length
  | _, _, .nil => rfl
  | _, _, .cons _ t => congrArg Nat.succ t.len
theorem TdAll.get : ∀ {ds : List PyData} {vs : List V} {i : Nat} {v : V}, TdAll K A H vs ds → vs[i]? = some v → ∃ d, ds[i]? = some d ∧ Td K A H v d
  | _, _, _, _, .nil, e => by simp at e
  | _, _, 0, _, .cons h _, e => by simp at e; subst e; exact ⟨_, rfl, h⟩
  | _, _, i + 1, v, .cons _ t, e => by
    obtain ⟨d, h1, h2⟩ := TdAll.get (i := i) (v := v) t (by simpa using e)
    exact ⟨d, by simpa using h1, h2⟩
theorem TdAll.getD : ∀ {ds : List PyData} {vs : List V} {i : Nat} {d : PyData}, TdAll K A H vs ds → ds[i]? = some d → ∃ v, vs[i]? = some v ∧ Td K A H v d
  | _, _, _, _, .nil, e => by simp at e
  | _, _, 0, _, .cons h _, e => by simp at e; subst e; exact ⟨_, rfl, h⟩
  | _, _, i + 1, d, .cons _ t, e => by
    obtain ⟨v, h1, h2⟩ := TdAll.getD (i := i) (d := d) t (by simpa using e)
    exact ⟨v, by simpa using h1, h2⟩
theorem TdAll.app : ∀ {ds es : List PyData} {vs ws : List V}, TdAll K A H vs ds → TdAll K A H ws es → TdAll K A H (vs ++ ws) (ds ++ es)
  | _, _, _, _, .nil, s => s
  | _, _, _, _, .cons r t, s => .cons r (t.app s)
theorem TdAll.take : ∀ {ds : List PyData} {vs : List V} (n : Nat), TdAll K A H vs ds → TdAll K A H (vs.take n) (ds.take n)
  | _, _, 0, _ => .nil
  | _, _, _ + 1, .nil => .nil
  | _, _, n + 1, .cons r t => .cons r (t.take n)
theorem TdAll.drop : ∀ {ds : List PyData} {vs : List V} (n : Nat), TdAll K A H vs ds → TdAll K A H (vs.drop n) (ds.drop n)
  | _, _, 0, r => r
  | _, _, _ + 1, .nil => .nil
  | _, _, n + 1, .cons _ t => t.drop n
theorem TdAll.ints : ∀ ns : List Int, TdAll K A H (ns.map V.int) (ns.map PyData.int)
  | [] => .nil
  | n :: r => .cons (.int n) (TdAll.ints r)
theorem TdAll.flatMono {B : List Addr} {ds : List PyData} {vs : List V} (h : TdAll K A H vs ds) (f : flatDs ds = true) (s : Stp B H H1) : TdAll K A H1 vs ds := ((h.any f).mono s).any f
theorem Td.flatMono {B : List Addr} {d : PyData} {v : V} (h : Td K A H v d) (f : flatD d = true) (s : Stp B H H1) : Td K A H1 v d := ((h.any f).mono s).any f
def kindD : PyData → String
  | .none => "NoneType"
  | .bool _ => "bool"
  | .int _ => "int"
  | .str _ => "str"
  | .list _ => "list"
  | .tuple _ => "tuple"
  | .dict _ => "dict"
theorem sqL_ty {a : Addr} {xs : List V} (h : SqL K H a xs) : TyX K H (.ref a) (.type "list") := by
  rcases h with (h | ⟨o, h⟩) | ⟨o, its, n, e, c, _⟩
  · exact .base (.lst h)
  · exact .base (.frz h)
  · exact .kList e c
theorem sqT_ty {a : Addr} {xs : List V} (h : SqT K H a xs) : TyX K H (.ref a) (.type "tuple") := by
  rcases h with (h | ⟨o, h⟩) | ⟨o, its, n, e, c, _⟩
  · exact .base (.tup h)
  · exact .fTuple h
  · exact .kTuple e c
theorem Td.ty : ∀ {d : PyData} {v : V}, Td K A H v d → TyX K H v (.type (kindD d))
  | _, _, .non => .base .non
  | _, _, .bl b => .base (.bl b)
  | _, _, .int i => .base (.int i)
  | _, _, .str x => .base (.str x)
  | _, _, .lst h _ _ => sqL_ty h
  | _, _, .tup h _ => sqT_ty h
  | _, _, .dic h _ => .base (.dK h)
end
/-- isinstance(x, T), T a built-in kind -/
def isT : String → PyData → Bool
  | "int", .int _ => true
  | "int", .bool _ => true
  | "bool", .bool _ => true
  | "str", .str _ => true
  | "list", .list _ => true
  | "tuple", .tuple _ => true
  | "dict", .dict _ => true
  | _, _ => false
def kinds6 : List String := ["int", "bool", "str", "list", "tuple", "dict"]
def isK (T k : String) : Bool := k == T || (T == "int" && k == "bool")
theorem kit_tab : ∀ T ∈ kinds6, ∀ k ∈ ["NoneType", "bool", "int", "str", "list", "tuple", "dict"], kitB k T = some (isK T k) := by decide +kernel
theorem isT_tab {T : String} (hT : T ∈ kinds6) (d : PyData) : isK T (kindD d) = isT T d := by
  have e : T = "int" ∨ T = "bool" ∨ T = "str" ∨ T = "list" ∨ T = "tuple" ∨ T = "dict" := by simpa [kinds6] using hT
  rcases e with rfl | rfl | rfl | rfl | rfl | rfl <;> cases d <;> first | rfl | (simp [isK, kindD, isT])
theorem kit_isT {T : String} (hT : T ∈ kinds6) (d : PyData) : kitB (kindD d) T = some (isT T d) := by
  rw [← isT_tab hT d]
  exact kit_tab T hT _ (by cases d <;> simp [kindD])
theorem isT_tuple {d : PyData} (h : isT "tuple" d = true) : ∃ ds, d = .tuple ds := by
  cases d with
  | tuple ds => exact ⟨ds, rfl⟩
  | _ => cases h
theorem isT_list {d : PyData} (h : isT "list" d = true) : ∃ ds, d = .list ds := by
  cases d with
  | list ds => exact ⟨ds, rfl⟩
  | _ => cases h
theorem isT_str {d : PyData} (h : isT "str" d = true) : ∃ z, d = .str z := by
  cases d with
  | str z => exact ⟨z, rfl⟩
  | _ => cases h
theorem drop_at {α : Type} : ∀ {l : List α} {i : Nat} {x : α}, l[i]? = some x → l.drop i = x :: l.drop (i + 1)
  | [], i, x, h => by simp at h
  | a :: l, 0, x, h => by
    have e : a = x := by simpa using h
    rw [e]; rfl
  | a :: l, i + 1, x, h => by
    show l.drop i = x :: l.drop (i + 1)
    exact drop_at (by simpa using h)
def rIsD (K : PySem.W.Frag) (T : String) : List V → Hp → VK → Prop := fun xs H Q => ∃ (x : V) (A : List Addr) (d : PyData), xs = [x, .ty T] ∧ Td K A H x d ∧ Q (.bl (isT T d)) H
theorem call_isD {X : Cx} {T : String} (hT : T ∈ kinds6) : CallR X (.builtin "isinstance") (rIsD X.K T) := by
  intro pins s σ H xs us Q I r h
  obtain ⟨x, A, d, rfl, td, q⟩ := h
  exact call_isi pins s σ H _ us Q I r ⟨x, .ty T, _, _, _, rfl, .ty T, td.ty, kit_ty (kit_isT hT d), q⟩
/-! ### numbers -/
def isWhole : PyData → Bool
  | .int _ => true
  | _ => false
def isFrom (d : PyData) (lo hi : Int) : Bool := match d with
  | .int i => decide (lo ≤ i) && decide (i ≤ hi)
  | _ => false
theorem isFrom_int {d : PyData} {lo hi : Int} (h : isFrom d lo hi = true) : ∃ i, d = .int i ∧ lo ≤ i ∧ i ≤ hi := by
  cases d with
  | int i =>
    obtain ⟨h1, h2⟩ := Bool.and_eq_true_iff.mp (show (decide (lo ≤ i) && decide (i ≤ hi)) = true from h)
    exact ⟨i, rfl, of_decide_eq_true h1, of_decide_eq_true h2⟩
  | _ => cases h
def spWhole (K : PySem.W.Frag) : Sp := fun vs H Q _ => ∃ (v : V) (A : List Addr) (d : PyData), vs = [v] ∧ Td K A H v d ∧ Q (.bl (isWhole d)) H
def spFrom (K : PySem.W.Frag) : Sp := fun vs H Q _ => ∃ (v : V) (A : List Addr) (d : PyData) (lo hi : Int), vs = [v, .int lo, .int hi] ∧ Td K A H v d ∧ Q (.bl (isFrom d lo hi)) H
/-! ### the law's draws -/
/-- a source of draws stands at a -/
def Src (H : Hp) (a : Addr) : Prop := ∃ x c k : Int, H a = some (.lst [.int x, .int c, .int k])
def spMixed : Sp := fun vs H Q _ => ∃ c k : Int, vs = [.int c, .int k] ∧ ∀ r : Int, Q (.int r) H
def spSource : Sp := fun vs H Q _ => ∃ c : Int, vs = [.int c] ∧ ∀ p, H p = none → Q (.ref p) (upd H p (.lst [.int c, .int c, .int 0]))
def spTake : Sp := fun vs H Q _ => ∃ (a : Addr) (m : Int), vs = [.ref a, .int m] ∧ 0 < m ∧ m < 2 ^ 62 ∧ Src H a ∧ ∀ (r : Int) (H' : Hp), 0 ≤ r → r < m → Src H' a → Stp [a] H H' → Q (.int r) H'
/-! ### the written part of a context -/
theorem kx1 {CX : CXT} {P : Program} {w : World} {K : PySem.W.Frag} {mg : Str → Option Value} {base : Heap} {N : List Str} {q : Str} {sc : Scope} {f : Addr} {cdv : Value} {A : Around} {outer : List Env} {s : Shared} {H : Hp} {E : XK} : (cxOf CX P w K mg base N q sc f cdv A outer s H E).nox.K = K := rfl
theorem kx2 {CX : CXT} {P : Program} {w : World} {K : PySem.W.Frag} {mg : Str → Option Value} {base : Heap} {N : List Str} {q : Str} {sc : Scope} {f : Addr} {cdv : Value} {A : Around} {outer : List Env} {s : Shared} {H : Hp} {E : XK} : (cxOf CX P w K mg base N q sc f cdv A outer s H E).K = K := rfl
theorem kx3 {X : Cx} {pn : List (Addr × Obj)} {xe : Value → Shared → Prop} : (X.tr pn xe).K = X.K := rfl
theorem kx4 {X : Cx} {pn : List (Addr × Obj)} {a : Addr} : (X.suite a pn).K = X.K := rfl
theorem kx5 {X : Cx} {s : Shared} {H : Hp} {scope : Scope} {cenv : Env} {fp : List Addr} : (X.blk s H scope cenv fp).K = X.K := rfl
/-- a keyword-only default of the def at f, if it is an object -/
def kwAt (f : Str × Option Str) (x : Str) (K : PySem.W.Frag) : Addr := match K.lookup (He.fAd K f) with
  | some ⟨_, _, .func fd, _⟩ => (match fd.kwdefaults with
    | .ref D => (match PySem.W.nsIn K D x with
      | some (some (.ref a)) => a
      | _ => 0)
    | _ => 0)
  | _ => 0
theorem lenF {f : Str} {v : V} : ∀ {fs : List (Str × V)} {n : Nat}, fs.length < n → (putF f v fs).length < n + 1
  | [], n, h => by show 1 < n + 1; simp only [List.length_nil] at h; omega
  | (g, x) :: r, n, h => by
    unfold putF
    split
    · simp only [List.length_cons] at h ⊢; omega
    · have h2 : r.length < n - 1 := by simp only [List.length_cons] at h; omega
      have := lenF (f := f) (v := v) h2
      simp only [List.length_cons] at h ⊢; omega
theorem Src.ne {H : Hp} {a p : Addr} (s : Src H a) (h : H p = none) : p ≠ a := fun e => by
  subst e
  obtain ⟨_, _, _, z⟩ := s
  rw [z] at h; cases h
theorem Src.new {H : Hp} {a p : Addr} {o : HO} (s : Src H a) (h : H p = none) : Src (upd H p o) a := by
  have n := s.ne h
  obtain ⟨x, c, k, z⟩ := s
  exact ⟨x, c, k, by rw [upd_ne n.symm]; exact z⟩
theorem Src.put {H : Hp} {a p : Addr} {o : HO} (s : Src H a) (n : p ≠ a) : Src (upd H p o) a := by
  obtain ⟨x, c, k, z⟩ := s
  exact ⟨x, c, k, by rw [upd_ne n.symm]; exact z⟩
theorem Src.keep {A : List Addr} {H H1 : Hp} {a : Addr} (s : Src H a) (t : Stp A H H1) (n : a ∉ A) : Src H1 a := by
  obtain ⟨x, c, k, z⟩ := s
  exact ⟨x, c, k, t.k _ _ n z⟩
/-! ### data that may be compared -/
structure Sh (n : Nat) (d : PyData) : Prop where
  lay : d.canLay0 = true
  dep : d.depth ≤ n
theorem sh_ok {n : Nat} {d : PyData} (h : Sh n d) (hn : n ≤ 64) : SeqAt.shaped d = true := by
  unfold SeqAt.shaped
  rw [h.lay, decide_eq_true (Nat.le_trans h.dep hn)]; rfl
theorem sh_all {n : Nat} : ∀ {ds : List PyData}, (∀ d ∈ ds, Sh n d) → PyData.canLayAll0 ds = true ∧ PyData.depthAll ds ≤ n
  | [], _ => ⟨by simp only [PyData.canLayAll0], by simp only [PyData.depthAll]; exact Nat.zero_le _⟩
  | d :: ds, h => by
    obtain ⟨h1, h2⟩ := sh_all (ds := ds) fun x hx => h x (List.mem_cons_of_mem _ hx)
    have h3 := h d (List.mem_cons_self ..)
    refine ⟨?_, ?_⟩
    · simp only [PyData.canLayAll0, h3.lay, h1, Bool.and_self]
    · simp only [PyData.depthAll]; exact Nat.max_le.mpr ⟨h3.dep, h2⟩
theorem sh_list {n : Nat} {ds : List PyData} (h : ∀ d ∈ ds, Sh n d) : Sh (n + 1) (.list ds) := by
  obtain ⟨h1, h2⟩ := sh_all h
  exact ⟨by simp only [PyData.canLay0, h1], by simp only [PyData.depth]; omega⟩
theorem sh_tuple {n : Nat} {ds : List PyData} (h : ∀ d ∈ ds, Sh n d) : Sh (n + 1) (.tuple ds) := by
  obtain ⟨h1, h2⟩ := sh_all h
  exact ⟨by simp only [PyData.canLay0, h1], by simp only [PyData.depth]; omega⟩
theorem sh_int {n : Nat} (i : Int) : Sh n (.int i) := ⟨by simp only [PyData.canLay0], by simp only [PyData.depth]; exact Nat.zero_le _⟩
theorem Sh.up {n m : Nat} {d : PyData} (h : Sh n d) (hn : n ≤ m) : Sh m d := ⟨h.lay, Nat.le_trans h.dep hn⟩
theorem eqv_self {n : Nat} {d : PyData} (h : Sh n d) : PyData.eqv d d = true := SeqAt.eqv_refl d h.lay
theorem ixN_last {n : Nat} : ixN (n + 1) (-1) = some (n + 1 - 1) := by
  unfold ixN
  rw [if_neg (by decide), if_pos (by omega)]
  congr 1
  omega
/-! ### new objects and stores, the heap behind them a letter -/
structure Nw (H H' : Hp) (p : Addr) (o : HO) : Prop where
  n : H p = none
  s : ∀ A, Stp A H H'
  a : H' p = some o
theorem Nw.mk' {H : Hp} {p : Addr} {o : HO} (h : H p = none) : Nw H (upd H p o) p o := ⟨h, fun _ => .new h, upd_same⟩
structure Wr (H H' : Hp) (p : Addr) (o : HO) : Prop where
  s : Stp [p] H H'
  a : H' p = some o
theorem Wr.mk' {H : Hp} {p : Addr} {o o' : HO} (h : H p = some o) (hm : Mut (some o) := by exact True.intro) : Wr H (upd H p o') p o' := ⟨.put h (by simp) hm, upd_same⟩
theorem OpR.imp {X : Cx} {f : Value → Value → Sem Value} {r r' : R2} (h : OpR X f r) (i : ∀ x y H Q, r' x y H Q → r x y H Q) : OpR X f r' := fun pins s σ H x y v u Q I a b q => h pins s σ H x y v u Q I a b (i _ _ _ _ q)
theorem CallR.imp {X : Cx} {f : Value} {r r' : List V → Hp → VK → Prop} (h : CallR X f r) (i : ∀ x H Q, r' x H Q → r x H Q) : CallR X f r' := fun pins s σ H x u Q I a q => h pins s σ H x u Q I a (i _ _ _ q)
theorem SlR.imp {X : Cx} {r r' : V → Option Int → Option Int → Hp → VK → Prop} (h : SlR X r) (i : ∀ x lo hi H Q, r' x lo hi H Q → r x lo hi H Q) : SlR X r' := fun pins s σ H x v vl vu lo hi sl Q I a b c d q => h pins s σ H x v vl vu lo hi sl Q I a b c d (i _ _ _ _ _ q)
section
variable {X : Cx} {es : List Expr} {t : TA} {pos : Pos}
def tTupN (t : TA) : TE := fun σ H Q => t σ H fun xs H1 => xs.length ≤ sizeLine ∧ ∀ p H', Nw H1 H' p (.tup xs) → Q (.ref p) H'
def tLstN (t : TA) : TE := fun σ H Q => t σ H fun xs H1 => xs.length ≤ sizeLine ∧ ∀ p H', Nw H1 H' p (.lst xs) → Q (.ref p) H'
theorem pe_tupN {x1} (h : PA X es t) : PE X (.Tuple es x1 pos) (tTupN t) := by
  refine ⟨fun pins s σ H Q I hq => ?_⟩
  refine wpAny_Tuple_spliced (thn (h.run pos pins s σ H _ I hq) fun us s1 ⟨xs, H1, I1, r, z, q⟩ => ⟨by rw [← r.length]; exact z, ?_⟩)
  have hf : H1 s1.heap.objs.size = none := I1.hok.fresh (Nat.le_refl _)
  refine ⟨.ref s1.heap.objs.size, upd H1 s1.heap.objs.size (.tup xs), I1.laid (t' := s1.toks) (fun b u e => Heap.get?_push_of_some _ e) (Nat.le_refl _) ?_, rfl, q _ _ (.mk' hf)⟩
  exact ⟨z, us, r, ⟨_, Heap.get?_push_size _ rfl, rfl, _, rfl⟩⟩
theorem pe_lstN (h : PA X es t) : PE X (.List es pos) (tLstN t) := by
  refine ⟨fun pins s σ H Q I hq => ?_⟩
  refine wpAny_List_spliced (thn (h.run pos pins s σ H _ I hq) fun us s1 ⟨xs, H1, I1, r, z, q⟩ => ⟨by rw [← r.length]; exact z, ?_⟩)
  have hf : H1 s1.heap.objs.size = none := I1.hok.fresh (Nat.le_refl _)
  refine ⟨.ref s1.heap.objs.size, upd H1 s1.heap.objs.size (.lst xs), I1.laid (t' := s1.toks) (fun b u e => Heap.get?_push_of_some _ e) (Nat.le_refl _) ?_, rfl, q _ _ (.mk' hf)⟩
  exact ⟨z, us, 0, r, Heap.get?_push_size _ rfl⟩
def tDNewN : TE := fun _ H Q => ∀ p H', Nw H H' p (.dK []) → Q (.ref p) H'
theorem pe_dnewN : PE X (.Dict [] [] pos) tDNewN := ⟨fun pins s σ H Q I h => pe_dnewK.run pins s σ H Q I fun p hp => h p _ (.mk' hp)⟩
theorem call_listN : CallR X (.type "list") (fun xs H Q => ∃ p ys, xs = [.ref p] ∧ (SqL X.K H p ys ∨ SqT X.K H p ys) ∧ ∀ l H', Nw H H' l (.lst ys) → Q (.ref l) H') :=
  CallR.imp call_list_of fun x H Q ⟨p, ys, e, h, q⟩ => ⟨p, ys, e, h, fun l hl => q l _ (.mk' hl)⟩
/-- tuple(xs), xs a list or a tuple -/
theorem call_tupleN : CallR X (.type "tuple") (fun xs H Q => ∃ p ys, xs = [.ref p] ∧ (SqL X.K H p ys ∨ SqT X.K H p ys) ∧ ∀ l H', (∀ A, Stp A H H') → SqT X.K H' l ys → Q (.ref l) H') :=
  CallR.imp call_tuple_of fun x H Q ⟨p, ys, e, h, q⟩ => ⟨p, ys, e, by
    rcases h with h | h
    · exact .inl ⟨h, fun l hl => q l _ (fun _ => .new hl) (SqT.of upd_same)⟩
    · exact .inr ⟨h, q p H (fun _ => .refl H) h⟩⟩
theorem op_catN : OpR X (binaryOp .Add) (fun x y H Q => ∃ l b xs zs, x = .ref l ∧ y = .ref b ∧ SqL X.K H l xs ∧ SqL X.K H b zs ∧ xs.length + zs.length ≤ sizeLine ∧ ∀ p H', Nw H H' p (.lst (xs ++ zs)) → Q (.ref p) H') := by
  intro pins s σ H x y v u Q I rx ry h
  obtain ⟨l, b, xs, zs, rfl, rfl, hL, hB, hz, q⟩ := h
  cases rx
  cases ry
  obtain ⟨its, r, pl, z1⟩ := I.list hL
  obtain ⟨its2, r2, pl2, z2⟩ := I.list hB
  obtain ⟨⟨cls, dd, data, sl⟩, ho, hc, n, hd⟩ := pl.isList
  obtain ⟨⟨cls2, dd2, data2, sl2⟩, ho2, hc2, n2, hd2⟩ := pl2.isList
  simp only at hc hd hc2 hd2
  subst hc hd hc2 hd2
  have hl1 := r.length
  have hl2 := r2.length
  have e : its.toArray ++ its2.toArray = (its ++ its2).toArray := by simp
  refine concat_meets ⟨_, ho, rfl⟩ ⟨_, ho2, rfl⟩ noFill_list_add seq_list_add PySem.F.slot_list_add PySem.F.entry_list_add (PySem.F.args_list_add_2 _ _) (list_addW l b its.toArray its2.toArray n n2 dd dd2 sl sl2 (by simp only [List.size_toArray]; omega)) ⟨ho, ho2, ?_⟩
  rw [e]
  have hf : H s.heap.objs.size = none := I.hok.fresh (Nat.le_refl _)
  exact ⟨.ref s.heap.objs.size, upd H s.heap.objs.size (.lst (xs ++ zs)), I.laid (t' := s.toks) (fun b u e => Heap.get?_push_of_some _ e) (Nat.le_refl _) ⟨by rw [List.length_append]; omega, its ++ its2, 0, r.append r2, Heap.get?_push_size _ rfl⟩, rfl, q _ _ (.mk' hf)⟩
theorem sl_listN : SlR X (fun x lo hi H Q => ∃ a xs, x = .ref a ∧ SqL X.K H a xs ∧ ∀ p H', Nw H H' p (.lst (cutV xs lo hi)) → Q (.ref p) H') :=
  SlR.imp sl_list fun x lo hi H Q ⟨a, xs, e, h, q⟩ => ⟨a, xs, e, h, fun p hp => q p _ (.mk' hp)⟩
end
/-! ### tuples put together and cut, whichever object comes -/
theorem catA_of {K : PySem.W.Frag} {H : Hp} {Q : VK} {a b : Addr} {xs ys : List V} (ha : SqT K H a xs) (hb : SqT K H b ys) (h : ∀ p H', (∀ A, Stp A H H') → SqT K H' p (xs ++ ys) → Q (.ref p) H') :
    (xs = [] → Q (.ref b) H) ∧ (xs ≠ [] → ys = [] → Q (.ref a) H) ∧ (xs ≠ [] → ys ≠ [] → ∀ p, H p = none → Q (.ref p) (upd H p (.tup (xs ++ ys)))) := by
  refine ⟨fun e => h b H (fun _ => .refl H) ?_, fun _ e => h a H (fun _ => .refl H) ?_, fun _ _ p hp => h p _ (fun _ => .new hp) (SqT.of upd_same)⟩
  · rw [e]; exact hb
  · rw [e, List.append_nil]; exact ha
theorem cutV_whole {xs : List V} {lo hi : Option Int} (h1 : HT.sIx xs.length 0 lo = 0) (h2 : HT.sIx xs.length xs.length hi = xs.length) : cutV xs lo hi = xs := by
  unfold cutV
  rw [h1, h2, List.drop_zero, Nat.sub_zero, List.take_length]
theorem slA_of {K : PySem.W.Frag} {H : Hp} {Q : VK} {a : Addr} {xs : List V} {lo hi : Option Int} (ha : SqT K H a xs) (h : ∀ p H', (∀ A, Stp A H H') → SqT K H' p (cutV xs lo hi) → Q (.ref p) H') :
    (HT.sIx xs.length 0 lo = 0 ∧ HT.sIx xs.length xs.length hi = xs.length → Q (.ref a) H) ∧ (¬ (HT.sIx xs.length 0 lo = 0 ∧ HT.sIx xs.length xs.length hi = xs.length) → ∀ p, H p = none → Q (.ref p) (upd H p (.tup (cutV xs lo hi)))) := by
  refine ⟨fun e => h a H (fun _ => .refl H) ?_, fun _ p hp => h p _ (fun _ => .new hp) (SqT.of upd_same)⟩
  rw [cutV_whole e.1 e.2]; exact ha
theorem op_catTN {X : Cx} : OpR X (binaryOp .Add) (fun x y H Q => ∃ a b xs ys, x = .ref a ∧ y = .ref b ∧ SqT X.K H a xs ∧ SqT X.K H b ys ∧ xs.length + ys.length ≤ sizeLine ∧ ∀ p H', (∀ A, Stp A H H') → SqT X.K H' p (xs ++ ys) → Q (.ref p) H') :=
  OpR.imp op_catA fun x y H Q ⟨a, b, xs, ys, e1, e2, h1, h2, hz, q⟩ => ⟨a, b, xs, ys, e1, e2, h1, h2, hz, catA_of h1 h2 q⟩
theorem sl_tupN {X : Cx} : SlR X (fun x lo hi H Q => ∃ a xs, x = .ref a ∧ SqT X.K H a xs ∧ ∀ p H', (∀ A, Stp A H H') → SqT X.K H' p (cutV xs lo hi) → Q (.ref p) H') :=
  SlR.imp sl_tupA fun x lo hi H Q ⟨a, xs, e, h, q⟩ => ⟨a, xs, e, h, slA_of h q⟩
theorem cutV_to {xs : List V} {i : Int} (h : 0 ≤ i) : cutV xs none (some i) = xs.take i.toNat := by
  unfold cutV
  rw [HT.sIx_none, List.drop_zero, Nat.sub_zero]
  show xs.take (if i < 0 then (i + (xs.length : Int)).toNat else min i.toNat xs.length) = _
  rw [if_neg (by omega)]
  by_cases q : i.toNat ≤ xs.length
  · rw [Nat.min_eq_left q]
  · rw [Nat.min_eq_right (by omega), List.take_length, List.take_of_length_le (by omega)]
theorem cutV_from {xs : List V} {i : Int} (h : 0 ≤ i) : cutV xs (some i) none = xs.drop i.toNat := by
  unfold cutV
  rw [HT.sIx_none]
  have e : HT.sIx xs.length 0 (some i) = min i.toNat xs.length := by
    show (if i < 0 then (i + (xs.length : Int)).toNat else min i.toNat xs.length) = _
    rw [if_neg (by omega)]
  rw [e, List.take_of_length_le (by rw [List.length_drop]; exact Nat.le_refl _)]
  by_cases q : i.toNat ≤ xs.length
  · rw [Nat.min_eq_left q]
  · rw [Nat.min_eq_right (by omega), List.drop_length, List.drop_of_length_le (by omega)]
theorem TdAll.new {K : PySem.W.Frag} {A : List Addr} {H : Hp} {vs : List V} {ds : List PyData} {p : Addr} {xs : List V} {es : List PyData} (h : TdAll K A H vs ds) (hp : H p = none) (hx : TdAll K A H xs es) : TdAll K A (upd H p (.tup xs)) (vs ++ [.ref p]) (ds ++ [.tuple es]) :=
  (h.mono (.new hp)).app (.cons (.tup (SqT.of upd_same) (hx.mono (.new hp))) .nil)
theorem TdAll.nw {K : PySem.W.Frag} {A : List Addr} {H H' : Hp} {vs : List V} {ds : List PyData} {p : Addr} {xs : List V} {es : List PyData} (h : TdAll K A H vs ds) (n : Nw H H' p (.tup xs)) (hx : TdAll K A H xs es) : TdAll K A H' (vs ++ [.ref p]) (ds ++ [.tuple es]) :=
  (h.mono (n.s _)).app (.cons (.tup (SqT.of n.a) (hx.mono (n.s _))) .nil)
theorem TdAll.nwL {K : PySem.W.Frag} {A : List Addr} {H H' : Hp} {vs : List V} {ds : List PyData} {p : Addr} {xs : List V} {es : List PyData} (h : TdAll K A H vs ds) (n : Nw H H' p (.lst xs)) (hx : TdAll K A H xs es) (hA : p ∉ A) : TdAll K A H' (vs ++ [.ref p]) (ds ++ [.list es]) :=
  (h.mono (n.s _)).app (.cons (.lst (SqL.of n.a) hA (hx.mono (n.s _))) .nil)
theorem TdAll.snoc {K : PySem.W.Frag} {A : List Addr} {H : Hp} {vs : List V} {ds : List PyData} {v : V} {d : PyData} (h : TdAll K A H vs ds) (t : Td K A H v d) : TdAll K A H (vs ++ [v]) (ds ++ [d]) := h.app (.cons t .nil)
theorem Src.nw {H H' : Hp} {a p : Addr} {o : HO} (s : Src H a) (n : Nw H H' p o) : Src H' a := s.keep (n.s []) (by simp)
theorem Src.st {H H' : Hp} {a : Addr} (s : Src H a) (n : ∀ A, Stp A H H') : Src H' a := s.keep (n []) (by simp)
theorem Src.out {H H' : Hp} {a p : Addr} {o : HO} (s : Src H a) (n : Nw H H' p o) : p ∉ [a] := by simpa using s.ne n.n
theorem nw_out {A B : List Addr} {H H1 H2 : Hp} {p : Addr} {o : HO} (hA : ∀ b ∈ A, H b ≠ none) (s : Stp B H H1) (n : Nw H1 H2 p o) : p ∉ A := fun h => hA p h (s.f p n.n)
theorem take_at {α : Type} : ∀ {l : List α} {i : Nat} {x : α}, l[i]? = some x → l.take (i + 1) = l.take i ++ [x]
  | [], i, x, h => by simp at h
  | a :: l, 0, x, h => by
    have e : a = x := by simpa using h
    rw [e]; rfl
  | a :: l, i + 1, x, h => by
    show a :: l.take (i + 1) = a :: l.take i ++ [x]
    rw [take_at (by simpa using h)]; rfl
theorem atI_int {α : Type} {xs : List α} {i : Int} {v : α} (h0 : 0 ≤ i) (h : xs[i.toNat]? = some v) : atI xs i = some v := by
  have e : i = (i.toNat : Int) := by omega
  rw [e]
  exact atI_nat h
/-! ### data of the written part -/
mutual
/-- the value u of the written part is the data d (tuples, numbers, texts) -/
def kdB (K : PySem.W.Frag) : PyData → Value → Bool
  | .none, .none => true
  | .bool b, .bool c => b == c
  | .int i, .int j _ => decide (i = j)
  | .str x, .str y _ => decide (x = y)
  | .tuple ds, .ref a => (match K.lookup a with
    | some ⟨.type c, _, .seq its _, _⟩ => decide (c = "tuple") && (decide (its.size ≤ sizeLine) && kdsB K ds its.toList)
    | _ => false)
  | _, _ => false
def kdsB (K : PySem.W.Frag) : List PyData → List Value → Bool
  | [], [] => true
  | d :: ds, u :: us => kdB K d u && kdsB K ds us
  | _, _ => false
end
mutual
theorem kdB_ok {K : PySem.W.Frag} : ∀ (d : PyData) (u : Value), kdB K d u = true → ∃ v, RelV v u ∧ ∀ A H, Td K A H v d
  | .none, u, h => by
    cases u with
    | none => exact ⟨.non, rfl, fun _ _ => .non⟩
    | _ => simp [kdB] at h
  | .bool b, u, h => by
    cases u with
    | bool c =>
      have e : b = c := by simpa [kdB] using h
      subst e
      exact ⟨.bl b, rfl, fun _ _ => .bl b⟩
    | _ => simp [kdB] at h
  | .int i, u, h => by
    cases u with
    | int j t =>
      have e : i = j := by simpa [kdB] using h
      subst e
      exact ⟨.int i, ⟨t, rfl⟩, fun _ _ => .int i⟩
    | _ => simp [kdB] at h
  | .str x, u, h => by
    cases u with
    | str y t =>
      have e : x = y := by simpa [kdB] using h
      subst e
      exact ⟨.str x, ⟨t, rfl⟩, fun _ _ => .str x⟩
    | _ => simp [kdB] at h
  | .list ds, u, h => by cases u <;> simp [kdB] at h
  | .dict _, u, h => by cases u <;> simp [kdB] at h
  | .tuple ds, u, h => by
    cases u with
    | ref a =>
      simp only [kdB] at h
      split at h
      · rename_i c od its n sl hk
        simp only [Bool.and_eq_true, decide_eq_true_eq] at h
        obtain ⟨rfl, h2, h3⟩ := h
        obtain ⟨vs, r, t⟩ := kdsB_ok ds its.toList h3
        exact ⟨.ref a, rfl, fun A H => .tup (.inr ⟨_, its, n, hk, rfl, rfl, h2, r⟩) (t A H)⟩
      · cases h
    | _ => simp [kdB] at h
theorem kdsB_ok {K : PySem.W.Frag} : ∀ (ds : List PyData) (us : List Value), kdsB K ds us = true → ∃ vs, Vals vs us ∧ ∀ A H, TdAll K A H vs ds
  | [], us, h => by
    cases us with
    | nil => exact ⟨[], .nil, fun _ _ => .nil⟩
    | cons _ _ => simp [kdsB] at h
  | d :: ds, us, h => by
    cases us with
    | nil => simp [kdsB] at h
    | cons u us =>
      simp only [kdsB, Bool.and_eq_true] at h
      obtain ⟨v, r, t⟩ := kdB_ok d u h.1
      obtain ⟨vs, rs, ts⟩ := kdsB_ok ds us h.2
      exact ⟨v :: vs, .cons r rs, fun A H => .cons (t A H) (ts A H)⟩
end
theorem kd_ref {K : PySem.W.Frag} {a : Addr} {d : PyData} (h : kdB K d (.ref a) = true) : ∀ A H, Td K A H (.ref a) d := by
  obtain ⟨v, r, t⟩ := kdB_ok d _ h
  cases v with
  | ref b =>
    have e : Value.ref a = Value.ref b := r
    injection e with e
    subst e
    exact t
  | int i => obtain ⟨_, z⟩ := r; cases z
  | str i => obtain ⟨_, z⟩ := r; cases z
  | byt i => obtain ⟨_, z⟩ := r; cases z
  | flt i => obtain ⟨_, z⟩ := r; cases z
  | non => cases (show Value.ref a = Value.none from r)
  | bl b => cases (show Value.ref a = Value.bool b from r)
  | ty n => cases (show Value.ref a = Value.type n from r)
/-! ### the head's facts: what the module's names reach, and the interpreter's own table -/
def reach (g : Addr → Option Obj) : Nat → List Addr
  | 0 => [mainGlobals, cStatics]
  | n + 1 => He.growD g (reach g n)
def obsN (n : Nat) (fa : List He.Fa) (fn : List He.DefD) (ex : PySem.W.Frag → Bool) (g : Addr → Option Obj) : He.AlD × Bool := (He.obsD fa fn (He.frG g (reach g n)), ex (He.frG g (reach g n)))
def hookN (n : Nat) (fa : List He.Fa) (fn : List He.DefD) (ex : PySem.W.Frag → Bool) : PySem.W.Hook where
  α := He.AlD × Bool
  obs := fun s => obsN n fa fn ex s.heap.get?
  val := fun _ => (He.valD fn, true)
  says := fun _ h => ∃ K : PySem.W.Frag, K.In h ∧ He.SaysD fa fn K ∧ ex K = true
  of := fun _ _ e => ⟨_, He.frG_in, congrArg Prod.fst e, congrArg Prod.snd e⟩
  keeps := fun _ _ _ ⟨K, hK, c⟩ k => ⟨K, PySem.W.Frag.In.keeps hK k, c⟩
theorem obsN_eq {n : Nat} {fa : List He.Fa} {fn : List He.DefD} {ex : PySem.W.Frag → Bool} {g : Addr → Option Obj} {s : Shared} (h : ∀ a, g a = s.heap.get? a) : obsN n fa fn ex g = (hookN n fa fn ex).obs s := by
  have e : g = s.heap.get? := funext h
  rw [e] <;> rfl
/-! ### the end of a law -/
theorem walk_end {l : PySem.W.OpenLaw} {n k : Nat} {q : Program} {loose : List Str} {XP : (Str → Option Value) → Heap → Prop} {YP : World → Heap → Prop} {d : DefRec} {CX : World → CXT} {x : Str} (hn : l.most = some n) (hn2 : n ≤ sizeLine) (hdf : d.params.defaults = []) (hr : Room k callerA)
    (F : ∀ (w : World) (mg : Str → Option Value) (fa : Addr) (h : Heap), YP w h → h.Ns mainGlobals mg → mg d.name = some (.ref fa) → ∃ (K : PySem.W.Frag) (fd : FuncData) (sp : Sp), K.In h ∧ (∀ (s : Shared) (u : Value), BindsTo s fd ⟨[u], []⟩ [(x, u)]) ∧
      (∀ (H : Hp) (a : Addr) (ns : List Int), ns.length ≤ n → Only H → SqL K H a (ns.map V.int) → sp [.ref a] H (fun v _ => v = .bl true) fun _ _ _ => False) ∧ ∀ base : Heap, K.In base → base.Ns mainGlobals mg → FnOk l.prog w K mg base (CX w) k fa fd [x] sp)
    (hCX : ∀ (w : World) (H : Hp) (s : Shared) (e : Value) (s' : Shared), CX w [] H s (fun _ _ _ => False) e s' → False) : PySem.W.WalkO q loose XP YP l.row.toRowW d [] (fun f vs => PySem.call f vs) := by
  refine Att.attach_call hn hdf fun w _ s1 mg _ fa _ _ _ _ a _ ns G Y _ _ _ hmg hobj hints hlen hg => ?_
  obtain ⟨K, fd, sp, KX, hb, hsp, hF⟩ := F w mg fa _ Y G.T.g hmg
  exact law_call KX G.T.g G.T.b G.T.builtins G.T.nolimit hg hobj hints (Nat.le_trans hlen hn2) hr hF hb (fun H hO hS => hsp H a ns hlen hO hS) fun H e s' => hCX w H s1 e s'
theorem cx_none {P : Program} {w : World} {o : List Env} {H : Hp} {s s' : Shared} {e : Value} (h : L2.CX P w o H s (fun _ _ _ => False) e s') : False := by
  obtain ⟨_, _, _, _, _, _, _, _, _, _, _, _, z⟩ := h
  exact z
end Hd
namespace Hd
/-! ### set(xs) of a list of whole numbers, sorted(set(..)) -/
section
open PySem PySem.Spec PyProof.Rows L2 PySem.SeqAt
/-- the set that a call of set begins with -/
def bareSet (w : World) : Obj := { cls := .type "set", dict := none, data := .set #[] 0 (.fresh 0 0 (!w.params.followText "set-order")) }
set_option maxHeartbeats 8000000 in
theorem set_of_list {P : Program} {w : World} {A : Around} {E : Value → Shared → Prop} {s : Shared} {l : Addr} {items : Array Value} {ns : List Int} {Q : Value → Shared → Prop} (quiet : A.handled = none)
    (at_ : s.heap.IsList l items) (nums : IntsAre items.toList ns) (few : ns.length + 1 < scanBound)
    (done : ∀ (h' : Heap) (tk c : Nat), SetR w h' s.heap.objs.size (fun j => decide (j ∈ ns)) c → c ≤ ns.length → (∀ b o, s.heap.get? b = some o → h'.get? b = some o) → Q (.ref s.heap.objs.size) { s with heap := h', toks := tk }) :
    wpAny (model P w) A (call (.type "set") [.ref l]) Q E s := by
  have size : items.size = ns.length := by
    have z := IntsAre.length nums
    rwa [Array.length_toList] at z
  obtain ⟨c0, tl0, mro0⟩ := F.called_set.mro
  have made0 := F.called_set.made
  have sub0 := F.called_set.sub
  refine wpAny_call (codeAny_of_tree ?_)
  show wpAny _ _ (callAny (.type "set") _) _ _ _
  refine wpAny_pure ⟨Code.quiet_builtin _ (by decide +kernel), codeAny_builtin F.entry_type_call ?_⟩
  rw [Around.under_plain (weight_type_call_type "set" [.ref l] []) rfl]
  have no0 := F.called_set.notType
  have can0 := F.called_set.canCreate
  have call0 := F.typeCall_set_1 (.ref l)
  repeat (any_goals (first | assumption | wp_step))
  refine codeAny_mono (code_set_led1 (.ref l) (E := E) (Q₁ := fun v s1 => v = .ref s.heap.objs.size ∧ s1 = { s with heap := s.heap.push (bareSet w) }) ⟨rfl, rfl⟩) fun r s1 hr => ?_
  match r, hr with
  | .error e, hr => exact hr
  | .ok .next, hr => exact hr.elim
  | .ok .brk, hr => exact hr.elim
  | .ok .cont, hr => exact hr.elim
  | .ok (.ret v), hr =>
    obtain ⟨rfl, rfl⟩ := hr
    have setAt : (s.heap.push (bareSet w)).get? s.heap.objs.size = some (bareSet w) := Heap.get?_push_size _ rfl
    have isSet : Shared.TypeIs { s with heap := s.heap.push (bareSet w) } (.ref s.heap.objs.size) "set" := ⟨_, setAt, rfl⟩
    have look0 := F.called_set.init.lookup
    have bind0 := F.called_set.init.bind (.ref s.heap.objs.size)
    repeat (any_goals (first | assumption | wp_step))
    refine codeAny_mono (codeAny_call_builtin (R := wants (fun r s2 => r = .none ∧ ∃ h' tk c, s2 = { s with heap := h', toks := tk } ∧ SetR w h' s.heap.objs.size (fun j => decide (j ∈ ns)) c ∧ c ≤ ns.length ∧ ∀ b o, s.heap.get? b = some o → h'.get? b = some o) E)
      F.called_set.init.plain F.entry_set_init (check_set_init_1 isSet ?_)) fun r2 s2 hr2 => ?_
    · obtain ⟨⟨ocls, odict, odata, oslots⟩, hol, hcl, nl, hdl⟩ := at_
      simp only at hcl hdl
      subst hcl hdl
      have hol1 : (s.heap.push (bareSet w)).get? l = some { cls := .type "list", dict := odict, data := .seq items nl, slots := oslots } := Heap.get?_push_of_some _ hol
      have ls := F.sub_list_set
      have lf := F.sub_list_frozenset
      have ld : (Value.type "list" == Value.type "dict") = false := by decide
      have at1 : (s.heap.push (bareSet w)).IsList l items := ⟨_, hol1, rfl, nl, rfl⟩
      unfold Builtin.«set.__init__» noKeywords Builtin.Frozenset.updateFrom
      generalize hIt : pyIter = It0
      wp_walk
      subst hIt
      refine wpAny_pyIter_list at1 (wpAny_bind (wpAny_runValue ?_))
      have below : l < s.heap.objs.size := Heap.lt_size hol
      have q3 : A.in1.in1.in1.handled = none := by simp [quiet]
      have ne1 : l ≠ (s.heap.push (bareSet w)).objs.size := by
        rw [Heap.size_push]; exact Nat.ne_of_lt (Nat.lt_succ_of_lt below)
      have out1 : s.heap.objs.size ∉ [(s.heap.push (bareSet w)).objs.size, l] := by
        rw [Heap.size_push]
        intro z
        simp only [List.mem_cons, List.not_mem_nil, or_false] at z
        rcases z with z | z
        · exact Nat.ne_of_lt (Nat.lt_succ_self _) z
        · exact Nat.ne_of_gt below z
      refine set_update_ints ((Walks.list q3 _ l ne1 items).toS) s.heap.objs.size out1 ns size few (fun i v hv => ?_) (items.size - 0) 0 _ (by omega) (Nat.zero_le _)
        ⟨⟨_, Heap.get?_push_size _ rfl, rfl, rfl⟩, at1.push _⟩ ⟨0, Nat.le_refl 0, setR_new_at (Heap.get?_push_of_some _ setAt)⟩ (fun s' c' hm hc' hS' => ?_)
      · have hi : i < ns.length := by rw [← size]; exact (Array.getElem?_eq_some_iff.mp hv).1
        obtain ⟨t, e⟩ := IntsAre.int_at nums i v (by rw [Array.getElem?_toList]; exact hv)
        refine ⟨ns[i], t, List.getElem?_eq_getElem hi, ?_⟩
        rw [e, List.getD_eq_getElem?_getD, List.getElem?_eq_getElem hi] <;> rfl
      · obtain ⟨h', g2, d', tk', os'⟩ := s'
        cases (show g2 = s.gens from hm.gens)
        cases (show d' = s.drawn from hm.drawn)
        cases (show os' = s.os from hm.os)
        show wpAny _ _ _ _ _ _
        refine wpAny_pure ?_
        show wpAny _ _ (ret Value.none) _ _ _
        rw [size] at hc'
        refine wpAny_pure ⟨rfl, h', tk', c', rfl, hS', hc', fun b o e => ?_⟩
        have hb : b < s.heap.objs.size := Heap.lt_size e
        refine hm.heap b o (fun z => ?_) (Heap.get?_push_of_some _ (Heap.get?_push_of_some _ e))
        rw [Heap.size_push] at z
        simp only [List.mem_cons, List.not_mem_nil, or_false] at z
        rcases z with z | z
        · exact Nat.ne_of_lt hb z
        · exact Nat.ne_of_lt (Nat.lt_succ_of_lt hb) z
    · match r2, hr2 with
      | .error e, hr2 => exact hr2
      | .ok .next, hr2 => exact hr2.elim
      | .ok .brk, hr2 => exact hr2.elim
      | .ok .cont, hr2 => exact hr2.elim
      | .ok (.ret v2), hr2 =>
        obtain ⟨rfl, h', tk, c', rfl, hS', hc', hk'⟩ := hr2
        repeat (any_goals (first | assumption | wp_step))
        exact done _ _ _ hS' hc' hk'
/-- set(xs), xs a list of whole numbers -/
theorem call_setL {X : Cx} (hc : X.calm = true) : CallR X (.type "set") (fun xs H Q => ∃ (l : Addr) (ns : List Int), xs = [.ref l] ∧ SqL X.K H l (ns.map V.int) ∧ ns.length < 60 ∧ ∀ p H' c, c ≤ ns.length → Nw H H' p (SetO X.w p (fun j => decide (j ∈ ns)) c) → Q (.ref p) H') := by
  intro pins s σ H xs us Q I r h
  obtain ⟨l, ns, rfl, hl, few, q⟩ := h
  obtain ⟨u, rfl, rx⟩ := vals1 r
  cases rx
  obtain ⟨its, rv, pl, _⟩ := I.list hl
  refine set_of_list (I.ok.hd hc) pl.isList (by simpa using intsAre_of rv) (by have : scanBound = scanBound := rfl; unfold scanBound; omega) fun h' tk c hS hc' k => ?_
  have hf : H s.heap.objs.size = none := I.hok.fresh (Nat.le_refl _)
  exact ⟨.ref s.heap.objs.size, _, I.laid (t' := tk) k (Nat.le_refl _) (setO_new hS), rfl, q _ _ c hc' (.mk' hf)⟩
end
end Hd
namespace Hd
open PySem PySem.Spec PyProof.Rows L2
def top (i : Nat) : Stmt := PySem.Challenge.pw_haltday_k72_rules_and_what_is_paid_back.main.body.getD i (.Pass ⟨0, 0, 0, 0⟩)
abbrev s_NoTicket_init : Stmt := inClass (top 2) 0
theorem sc_NoTicket_init : FnScope ["self", "what"] ["self", "what"] (defScope s_NoTicket_init) := ⟨rfl, rfl, rfl, by decide +kernel, rfl, by decide +kernel, by decide +kernel⟩
abbrev s_is_whole : Stmt := top 4
theorem sc_is_whole : FnScope ["thing"] ["thing"] (defScope s_is_whole) := ⟨rfl, rfl, rfl, by decide +kernel, rfl, by decide +kernel, by decide +kernel⟩
abbrev s_is_from : Stmt := top 5
theorem sc_is_from : FnScope ["thing", "low", "high"] ["thing", "low", "high"] (defScope s_is_from) := ⟨rfl, rfl, rfl, by decide +kernel, rfl, by decide +kernel, by decide +kernel⟩
abbrev s_are_rows : Stmt := top 10
theorem sc_are_rows : FnScope ["thing", "least", "share", "row"] ["thing"] (defScope s_are_rows) := ⟨rfl, rfl, rfl, by decide +kernel, rfl, by decide +kernel, by decide +kernel⟩
abbrev s_Rules_init : Stmt := inClass (top 11) 0
theorem sc_Rules_init : FnScope ["self", "late", "wait", "back"] ["self", "late", "wait", "back"] (defScope s_Rules_init) := ⟨rfl, rfl, rfl, by decide +kernel, rfl, by decide +kernel, by decide +kernel⟩
abbrev s_paid_back : Stmt := top 12
theorem sc_paid_back : FnScope ["rules", "promised", "came", "found", "minutes", "hundredths"] ["rules", "promised", "came"] (defScope s_paid_back) := ⟨rfl, rfl, rfl, by decide +kernel, rfl, by decide +kernel, by decide +kernel⟩
abbrev s__law_mixed : Stmt := top 14
theorem sc__law_mixed : FnScope ["_law_cell", "_law_k", "_law_number"] ["_law_cell", "_law_k"] (defScope s__law_mixed) := ⟨rfl, rfl, rfl, by decide +kernel, rfl, by decide +kernel, by decide +kernel⟩
abbrev s__law_source : Stmt := top 15
theorem sc__law_source : FnScope ["_law_cell"] ["_law_cell"] (defScope s__law_source) := ⟨rfl, rfl, rfl, by decide +kernel, rfl, by decide +kernel, by decide +kernel⟩
abbrev s__law_take : Stmt := top 16
theorem sc__law_take : FnScope ["_law_source_here", "_law_many", "_law_found"] ["_law_source_here", "_law_many"] (defScope s__law_take) := ⟨rfl, rfl, rfl, by decide +kernel, rfl, by decide +kernel, by decide +kernel⟩
abbrev s__law_parts : Stmt := top 17
theorem sc__law_parts : FnScope ["_law_source_here", "_law_tardy", "_law_resting", "_law_rows", "_law_least", "_law_share", "_law_k"] ["_law_source_here"] (defScope s__law_parts) := ⟨rfl, rfl, rfl, by decide +kernel, rfl, by decide +kernel, by decide +kernel⟩
abbrev s__law_refused : Stmt := top 18
theorem sc__law_refused : FnScope ["_law_parts_here", "_law_tardy", "_law_resting", "_law_tiers", "e"] ["_law_parts_here"] (defScope s__law_refused) := ⟨rfl, rfl, rfl, by decide +kernel, rfl, by decide +kernel, by decide +kernel⟩
abbrev s__law_bad_rows : Stmt := top 19
theorem sc__law_bad_rows : FnScope ["_law_source_here", "_law_rows", "_law_at", "_law_ahead", "_law_share", "_law_odd", "_law_way", "_law_k"] ["_law_source_here", "_law_rows"] (defScope s__law_bad_rows) := ⟨rfl, rfl, rfl, by decide +kernel, rfl, by decide +kernel, by decide +kernel⟩
abbrev s__law_due : Stmt := top 20
theorem sc__law_due : FnScope ["_law_rows", "_law_more", "_law_found", "_law_minutes", "_law_hundredths"] ["_law_rows", "_law_more"] (defScope s__law_due) := ⟨rfl, rfl, rfl, by decide +kernel, rfl, by decide +kernel, by decide +kernel⟩
abbrev s__law_paid_right : Stmt := top 21
theorem sc__law_paid_right : FnScope ["_law_source_here", "_law_one", "_law_rows", "_law_least", "_law_share", "_law_more", "_law_pledged", "_law_found"] ["_law_source_here", "_law_one", "_law_rows"] (defScope s__law_paid_right) := ⟨rfl, rfl, rfl, by decide +kernel, rfl, by decide +kernel, by decide +kernel⟩
abbrev s_law : Stmt := top 22
theorem sc_law : FnScope ["_law_script", "_law_cell", "_law_source_here", "_law_tardy", "_law_resting", "_law_tiers", "_law_one", "_law_usual", "_law_bad", "_law_some", "_law_k", "_law_at"] ["_law_script"] (defScope s_law) := ⟨rfl, rfl, rfl, by decide +kernel, rfl, by decide +kernel, by decide +kernel⟩
structure Txt (K : PySem.W.Frag) (mg : Str → Option Value) : Prop where
  g_HaltError : mg "HaltError" = some (.ref (He.ga K "HaltError"))
  g_NoTicket : mg "NoTicket" = some (.ref (He.ga K "NoTicket"))
  g_is_whole : mg "is_whole" = some (.ref (He.ga K "is_whole"))
  g_is_from : mg "is_from" = some (.ref (He.ga K "is_from"))
  g_are_rows : mg "are_rows" = some (.ref (He.ga K "are_rows"))
  g_Rules : mg "Rules" = some (.ref (He.ga K "Rules"))
  g_paid_back : mg "paid_back" = some (.ref (He.ga K "paid_back"))
  g__law_mixed : mg "_law_mixed" = some (.ref (He.ga K "_law_mixed"))
  g__law_source : mg "_law_source" = some (.ref (He.ga K "_law_source"))
  g__law_take : mg "_law_take" = some (.ref (He.ga K "_law_take"))
  g__law_parts : mg "_law_parts" = some (.ref (He.ga K "_law_parts"))
  g__law_refused : mg "_law_refused" = some (.ref (He.ga K "_law_refused"))
  g__law_bad_rows : mg "_law_bad_rows" = some (.ref (He.ga K "_law_bad_rows"))
  g__law_due : mg "_law_due" = some (.ref (He.ga K "_law_due"))
  g__law_paid_right : mg "_law_paid_right" = some (.ref (He.ga K "_law_paid_right"))
  g_law : mg "law" = some (.ref (He.ga K "law"))
  f_bool : mg "bool" = none
  f_int : mg "int" = none
  f_isinstance : mg "isinstance" = none
  f_len : mg "len" = none
  f_list : mg "list" = none
  f_max : mg "max" = none
  f_range : mg "range" = none
  f_set : mg "set" = none
  f_sorted : mg "sorted" = none
  f_tuple : mg "tuple" = none
  c_MOST_RULE : ∃ t, mg "MOST_RULE" = some (.int 999 t)
  c_MOST_ROWS : ∃ t, mg "MOST_ROWS" = some (.int 5 t)
  c_WHOLE : ∃ t, mg "WHOLE" = some (.int 100 t)
  cl_Rules : Cls K (He.ga K "Rules")
  mk_Rules : Mk K (He.ga K "Rules") (He.ma K (He.ga K "Rules") "__init__")
  n_Rules_back : NoAttr K (He.ga K "Rules") "back"
  n_Rules_late : NoAttr K (He.ga K "Rules") "late"
  n_Rules_wait : NoAttr K (He.ga K "Rules") "wait"
  be_HaltError : BaseErr K (He.ga K "HaltError")
  e_NoTicket : ErrC K (He.ga K "NoTicket") "what"
  x_NoTicket_NoTicket : PySem.W.exmOne K (.ref (He.ga K "NoTicket")) (.ref (He.ga K "NoTicket")) = some true
  q_Rules : cmpB K (He.ga K "Rules") = true
  d_back : ∀ A H, Td K A H (.ref (kwAt ("Rules", some "__init__") "back" K)) (.tuple [.tuple [.int 30, .int 25], .tuple [.int 60, .int 50], .tuple [.int 120, .int 100]])
theorem ok_NoTicket_init {P : Program} {w : World} {K : PySem.W.Frag} {mg : Str → Option Value} {base : Heap} {fd : FuncData} (T : Txt K mg) (F : FunD K "__init__" "NoTicket.__init__" (defArgs s_NoTicket_init) (defBody s_NoTicket_init) (defScope s_NoTicket_init) [] [] (He.ma K (He.ga K "NoTicket") "__init__") fd)
     : FnOk P w K mg base (L2.CX P w) 1 (He.ma K (He.ga K "NoTicket") "__init__") fd ["self", "what"] (spErr (He.ga K "NoTicket") "what") := by
  refine FunD.ok F sc_NoTicket_init (fun vs H Q E h => ?_) (fun cdv A outer s H vs Q E hr h => ?_)
  · obtain ⟨e, v, rfl, he, k⟩ := h
    rfl
  · obtain ⟨e, v, rfl, he, k⟩ := h
    refine ⟨_, (PSs.nox (pss_cons (ps_expr (pe_hinit (by rfl) T.g_HaltError T.be_HaltError (pa_cons (pv 0) (pa_cons pe_str pa_nil))))
      (pss_one (ps_ost (pv 0) (pv 1))))), ?_⟩
    try simp only [kx1, kx2, kx3, kx4, kx5]
    refine ⟨_, rfl, e, _, [_], rfl, (by show 1 ≤ 1000; decide), T.e_NoTicket.oex, he, ?_⟩
    exact ⟨_, rfl, _, rfl, e, _, rfl, T.e_NoTicket.oex, T.e_NoTicket.no, .inl ⟨he, fun dx hd ne => k dx hd ne⟩⟩
theorem ok_is_whole {P : Program} {w : World} {K : PySem.W.Frag} {mg : Str → Option Value} {base : Heap} {fd : FuncData} (T : Txt K mg) (F : FunD K "is_whole" "is_whole" (defArgs s_is_whole) (defBody s_is_whole) (defScope s_is_whole) [] [] (He.ga K "is_whole") fd)
     : FnOk P w K mg base (L2.CX P w) 1 (He.ga K "is_whole") fd ["thing"] (spWhole K) := by
  refine FunD.ok F sc_is_whole (fun vs H Q E h => ?_) (fun cdv A outer s H vs Q E hr h => ?_)
  · obtain ⟨v, A0, d, rfl, td, k⟩ := h
    rfl
  · obtain ⟨v, A0, d, rfl, td, k⟩ := h
    refine ⟨_, (PSs.nox (pss_one (ps_ret (pe_and (pe_callB (call_isD (T := "int") (by decide)) (by rfl) T.f_isinstance (by decide +kernel) (pa_cons (pv 0) (pa_cons (pe_bltn (v := .ty "int") (by rfl) T.f_int (by decide +kernel) rfl) pa_nil))) (pe_one (pe_not (pe_callB (call_isD (T := "bool") (by decide)) (by rfl) T.f_isinstance (by decide +kernel) (pa_cons (pv 0) (pa_cons (pe_bltn (v := .ty "bool") (by rfl) T.f_bool (by decide +kernel) rfl) pa_nil))))))))), ?_⟩
    try simp only [kx1, kx2, kx3, kx4, kx5]
    refine ⟨_, rfl, _, A0, d, rfl, td, _, rfl, ?_⟩
    cases d with
    | int i => exact iteT ⟨_, rfl, _, A0, _, rfl, td, _, rfl, k⟩
    | bool b => exact iteT ⟨_, rfl, _, A0, _, rfl, td, _, rfl, k⟩
    | _ => exact iteF k
theorem ok_is_from {P : Program} {w : World} {K : PySem.W.Frag} {mg : Str → Option Value} {base : Heap} {fd : FuncData} (T : Txt K mg) (F : FunD K "is_from" "is_from" (defArgs s_is_from) (defBody s_is_from) (defScope s_is_from) [] [] (He.ga K "is_from") fd)
    (C_is_whole : Cal P w K mg base 1 (He.ga K "is_whole") ["thing"] (spWhole K)) : FnOk P w K mg base (L2.CX P w) 2 (He.ga K "is_from") fd ["thing", "low", "high"] (spFrom K) := by
  refine FunD.ok F sc_is_from (fun vs H Q E h => ?_) (fun cdv A outer s H vs Q E hr h => ?_)
  · obtain ⟨v, A0, d, lo, hi, rfl, td, k⟩ := h
    rfl
  · obtain ⟨v, A0, d, lo, hi, rfl, td, k⟩ := h
    refine ⟨_, (PSs.nox (pss_one (ps_ret (pe_and (pe_cal C_is_whole (hr.mono (by decide)) (by rfl) T.g_is_whole pL (pa_cons (pv 0) pa_nil)) (pe_one (pe_chain op_le op_le (pv 1) (pv 0) (pv 2))))))), ?_⟩
    try simp only [kx1, kx2, kx3, kx4, kx5]
    refine ⟨_, rfl, _, A0, d, rfl, td, _, rfl, ?_⟩
    cases d with
    | int i =>
      cases td
      refine iteT ⟨_, rfl, _, rfl, _, _, rfl, rfl, _, rfl, ?_⟩
      by_cases h : lo ≤ i
      · rw [show decide (lo ≤ i) = true from decide_eq_true h]
        refine iteT ⟨_, rfl, _, _, rfl, rfl, ?_⟩
        have e : isFrom (.int i) lo hi = decide (i ≤ hi) := by simp [isFrom, h]
        rw [e] at k
        exact k
      · rw [show decide (lo ≤ i) = false from decide_eq_false h]
        have e : isFrom (.int i) lo hi = false := by simp [isFrom, h]
        rw [e] at k
        exact iteF k
    | _ => exact iteF k
def rowsOk : Int → Int → List PyData → Bool
  | _, _, [] => true
  | l, s, .tuple [a, b] :: r => isFrom a (l + 1) 999 && (isFrom b (s + 1) 100 && (match a, b with | .int i, .int j => rowsOk i j r | _, _ => false))
  | _, _, _ :: _ => false
def areRows : PyData → Bool
  | .tuple ds => decide (ds.length ≤ 5) && rowsOk 0 0 ds
  | _ => false
theorem rowsOk_kind {d : PyData} {l s : Int} {r : List PyData} (h : isT "tuple" d = false) : rowsOk l s (d :: r) = false := by
  cases d with
  | tuple ds => cases h
  | _ => rfl
theorem rowsOk_len {ds : List PyData} {l s : Int} {r : List PyData} (h : ds.length ≠ 2) : rowsOk l s (.tuple ds :: r) = false := by
  match ds, h with
  | [], _ => rfl
  | [_], _ => rfl
  | [_, _], h => exact absurd rfl h
  | _ :: _ :: _ :: _, _ => rfl
def spRows (K : PySem.W.Frag) : Sp := fun vs H Q _ => ∃ (v : V) (A : List Addr) (d : PyData), vs = [v] ∧ Td K A H v d ∧ ∀ H', Stp [] H H' → Q (.bl (areRows d)) H'
theorem ok_are_rows {P : Program} {w : World} {K : PySem.W.Frag} {mg : Str → Option Value} {base : Heap} {fd : FuncData} (T : Txt K mg) (F : FunD K "are_rows" "are_rows" (defArgs s_are_rows) (defBody s_are_rows) (defScope s_are_rows) [] [] (He.ga K "are_rows") fd)
    (C_is_from : Cal P w K mg base 2 (He.ga K "is_from") ["thing", "low", "high"] (spFrom K)) : FnOk P w K mg base (L2.CX P w) 3 (He.ga K "are_rows") fd ["thing"] (spRows K) := by
  refine FunD.ok F sc_are_rows (fun vs H Q E h => ?_) (fun cdv A outer s H vs Q E hr h => ?_)
  · obtain ⟨v, A0, d, rfl, td, k⟩ := h
    rfl
  · obtain ⟨v, A0, d, rfl, td, k⟩ := h
    refine ⟨_, (PSs.nox (pss_cons (ps_if (PW.pt (pw_or (pt_not (pt_val (pe_callB (call_isD (T := "tuple") (by decide)) (by rfl) T.f_isinstance (by decide +kernel) (pa_cons (pv 0) (pa_cons (pe_bltn (v := .ty "tuple") (by rfl) T.f_tuple (by decide +kernel) rfl) pa_nil))))) (pw_or1 (pt_cmpR op_gt (pe_callB call_len_seq (by rfl) T.f_len (by decide +kernel) (pa_cons (pv 0) pa_nil)) (pe_gint (by rfl) T.c_MOST_ROWS) (nomark _))))) (pss_one (ps_ret pe_bl)) pss_nil)
      (pss_cons (ps_asg (pe_tup (pa_cons pe_int (pa_cons pe_int pa_nil))) (pg_tup (n := 2) (by rfl) (pgs_cons (pg_name (i := 1) sc_are_rows.nd rfl (by first | exact Or.inl rfl | exact Or.inr rfl)) (pgs_cons (pg_name (i := 2) sc_are_rows.nd rfl (by first | exact Or.inl rfl | exact Or.inr rfl)) pgs_nil))))
      (pss_cons (ps_for PassesOwn.never (by rfl) (pi_tup (pv 0)) (pg_name (i := 3) sc_are_rows.nd rfl (by first | exact Or.inl rfl | exact Or.inr rfl)) (pss_cons (ps_if (PW.pt (pw_or (pt_not (pt_val (pe_callB (call_isD (T := "tuple") (by decide)) (by rfl) T.f_isinstance (by decide +kernel) (pa_cons (pv 3) (pa_cons (pe_bltn (v := .ty "tuple") (by rfl) T.f_tuple (by decide +kernel) rfl) pa_nil))))) (pw_or1 (pt_cmpR op_ne (pe_callB call_len_seq (by rfl) T.f_len (by decide +kernel) (pa_cons (pv 3) pa_nil)) pe_int (nomark _))))) (pss_one (ps_ret pe_bl)) pss_nil)
      (pss_cons (ps_if (PW.pt (pw_or (pt_not (pt_val (pe_cal C_is_from (hr.mono (by decide)) (by rfl) T.g_is_from pL (pa_cons (pe_ix ix_tup (pv 3) pe_int (fun _ _ => rfl)) (pa_cons (pe_op op_add (pv 1) pe_int) (pa_cons (pe_gint (by rfl) T.c_MOST_RULE) pa_nil)))))) (pw_or1 (pt_not (pt_val (pe_cal C_is_from (hr.mono (by decide)) (by rfl) T.g_is_from pL (pa_cons (pe_ix ix_tup (pv 3) pe_int (fun _ _ => rfl)) (pa_cons (pe_op op_add (pv 2) pe_int) (pa_cons (pe_gint (by rfl) T.c_WHOLE) pa_nil))))))))) (pss_one (ps_ret pe_bl)) pss_nil)
      (pss_one (ps_asg (pv 3) (pg_tup (n := 2) (by rfl) (pgs_cons (pg_name (i := 1) sc_are_rows.nd rfl (by first | exact Or.inl rfl | exact Or.inr rfl)) (pgs_cons (pg_name (i := 2) sc_are_rows.nd rfl (by first | exact Or.inl rfl | exact Or.inr rfl)) pgs_nil))))))))
      (pss_one (ps_ret pe_bl)))))), ?_⟩
    try simp only [kx1, kx2, kx3, kx4, kx5]
    refine ⟨_, rfl, _, A0, d, rfl, td, _, rfl, ?_⟩
    have k0 := k H (.refl H)
    cases e : isT "tuple" d with
    | false =>
      have e2 : areRows d = false := by cases d with
        | tuple ds => cases e
        | _ => rfl
      rw [e2] at k0
      exact iteT k0
    | true =>
      obtain ⟨ds, rfl⟩ := isT_tuple e
      cases td with
      | @tup a xs _ sq ta =>
        have hl := ta.len
        refine iteF ⟨_, rfl, a, xs, rfl, .inr sq, _, _, rfl, rfl, _, rfl, ?_⟩
        by_cases h5 : ds.length ≤ 5
        · refine if_false_of (decide_eq_false (by omega)) ?_
          refine ⟨by show 2 ≤ sizeLine; decide, fun t ht => ?_⟩
          refine ⟨t, _, rfl, SqT.of upd_same, rfl, _, _, rfl, _, _, rfl, rfl, ?_⟩
          refine ⟨_, rfl, a, rfl, ⟨xs, (Stp.new (A := []) ht).sqT sq⟩, for_tup (K := K) (a := a) (xs := xs) (fun i σ H' => ∃ l s r, σ = [some (.ref a), some (.int l), some (.int s), r] ∧ Stp [] H H' ∧ rowsOk 0 0 ds = rowsOk l s (ds.drop i))
            ⟨0, 0, none, rfl, .new ht, rfl⟩ (fun i σ H' _ ⟨_, _, _, _, st, _⟩ => st.sqT sq) ?_ ?_⟩
          · rintro i x σ H' hx ⟨l, s, r, rfl, st, hv⟩
            obtain ⟨di, hdi, tdi⟩ := ta.get hx
            have tdi' := tdi.mono st.of_nil
            rw [drop_at hdi] at hv
            have kf : rowsOk 0 0 ds = false → Q (.bl false) H' := fun z => by
              have := k H' st
              rwa [show areRows (.tuple ds) = false by simp [areRows, z]] at this
            refine ⟨_, rfl, _, A0, di, rfl, tdi', _, rfl, ?_⟩
            cases e2 : isT "tuple" di with
            | false => exact iteT (kf (by rw [hv]; exact rowsOk_kind e2))
            | true =>
              obtain ⟨es, rfl⟩ := isT_tuple e2
              cases tdi' with
              | @tup p ys _ sq2 ta2 =>
                have hl2 := ta2.len
                refine iteF ⟨_, rfl, p, ys, rfl, .inr sq2, rfl, _, rfl, ?_⟩
                by_cases h2 : es.length = 2
                · refine if_false_of (by simp [hl2, h2]) ?_
                  obtain ⟨d1, d2, rfl⟩ : ∃ d1 d2, es = [d1, d2] := by
                    match es, h2 with
                    | [d1, d2], _ => exact ⟨d1, d2, rfl⟩
                  cases ta2 with
                  | @cons v1 _ _ _ t1 ta2 =>
                    cases ta2 with
                    | @cons v2 _ _ _ t2 ta2 =>
                      cases ta2
                      refine ⟨_, rfl, p, _, _, v1, rfl, rfl, sq2, rfl, _, rfl, _, _, rfl, rfl, v1, A0, d1, _, _, rfl, t1, _, rfl, ?_⟩
                      cases f1 : isFrom d1 (l + 1) 999 with
                      | false => exact iteT (kf (by rw [hv]; simp [rowsOk, f1]))
                      | true =>
                        refine iteF ⟨_, rfl, p, _, _, v2, rfl, rfl, sq2, rfl, _, rfl, _, _, rfl, rfl, v2, A0, d2, _, _, rfl, t2, _, rfl, ?_⟩
                        cases f2 : isFrom d2 (s + 1) 100 with
                        | false => exact iteT (kf (by rw [hv]; simp [rowsOk, f2]))
                        | true =>
                          obtain ⟨i1, rfl, _⟩ := isFrom_int f1
                          obtain ⟨i2, rfl, _⟩ := isFrom_int f2
                          cases t1
                          cases t2
                          refine iteF ⟨_, rfl, p, _, rfl, sq2, rfl, _, _, rfl, _, _, rfl, rfl, ?_⟩
                          exact ⟨i1, i2, _, rfl, st, by rw [hv]; simp [rowsOk, f1, f2]⟩
                · exact if_true_of (by simp [hl2, h2]; omega) (kf (by rw [hv]; exact rowsOk_len h2))
          · rintro σ H' ⟨l, s, r, rfl, st, hv⟩
            have := k H' st
            rw [hl, List.drop_length] at hv
            rw [show areRows (.tuple ds) = true by simp [areRows, h5, hv, rowsOk]] at this
            exact this
        · refine if_true_of (decide_eq_true (by omega)) ?_
          rw [show areRows (.tuple ds) = false by simp [areRows, h5]] at k0
          exact k0
/-- which part of rules is amiss -/
def rulesBad (d1 d2 d3 : PyData) : Option Str := if isFrom d1 1 999 = false then some "late" else if isFrom d2 0 999 = false then some "wait" else if areRows d3 = false then some "back" else none
structure RulesAt (K : PySem.W.Frag) (H : Hp) (x : Addr) (v1 v2 v3 : V) : Prop where
  ex : ∃ dx fs, H x = some (.ins (He.ga K "Rules") dx fs) ∧ fs.lookup ("late" : Str) = some v1 ∧ fs.lookup ("wait" : Str) = some v2 ∧ fs.lookup ("back" : Str) = some v3
def spRulesInit (K : PySem.W.Frag) : Sp := fun vs H Q E => ∃ (x dx : Addr) (v1 v2 v3 : V) (A : List Addr) (d1 d2 d3 : PyData), vs = [.ref x, v1, v2, v3] ∧ H x = some (.ins (He.ga K "Rules") dx []) ∧ Td K A H v1 d1 ∧ Td K A H v2 d2 ∧ Td K A H v3 d3 ∧
  (rulesBad d1 d2 d3 = none → ∀ H', Stp [x] H H' → RulesAt K H' x v1 v2 v3 → Q .non H') ∧
  (∀ z, rulesBad d1 d2 d3 = some z → ∀ H' d, Stp [] H H' → H d = none → H' d = some (.xd [("what", .str z)]) → E (.ref (He.ga K "NoTicket")) (some d) H')
theorem ok_Rules_init {P : Program} {w : World} {K : PySem.W.Frag} {mg : Str → Option Value} {base : Heap} {fd : FuncData} (T : Txt K mg) (F : FunD K "__init__" "Rules.__init__" (defArgs s_Rules_init) (defBody s_Rules_init) (defScope s_Rules_init) [] [("late", .int 30), ("wait", .int 60), ("back", .ref ((kwAt ("Rules", some "__init__") "back") K))] (He.ma K (He.ga K "Rules") "__init__") fd)
    (C_are_rows : Cal P w K mg base 3 (He.ga K "are_rows") ["thing"] (spRows K))
    (C_NoTicket_init : Cal P w K mg base 1 (He.ma K (He.ga K "NoTicket") "__init__") ["self", "what"] (spErr (He.ga K "NoTicket") "what"))
    (C_is_from : Cal P w K mg base 2 (He.ga K "is_from") ["thing", "low", "high"] (spFrom K)) : FnOk P w K mg base (L2.CX P w) 4 (He.ma K (He.ga K "Rules") "__init__") fd ["self", "late", "wait", "back"] (spRulesInit K) := by
  refine FunD.ok F sc_Rules_init (fun vs H Q E h => ?_) (fun cdv A outer s H vs Q E hr h => ?_)
  · obtain ⟨x, dx, v1, v2, v3, A0, d1, d2, d3, rfl, hx, t1, t2, t3, kn, ke⟩ := h
    rfl
  · obtain ⟨x, dx, v1, v2, v3, A0, d1, d2, d3, rfl, hx, t1, t2, t3, kn, ke⟩ := h
    refine ⟨_, (pss_cons (ps_if (pt_not (pt_val (pe_cal C_is_from (hr.mono (by decide)) (by rfl) T.g_is_from (fun σ => passAt (takes_of rfl rfl rfl rfl) σ) (pa_cons (pv 1) (pa_cons pe_int (pa_cons (pe_gint (by rfl) T.c_MOST_RULE) pa_nil)))))) (pss_one (ps_raise (by rfl) (takes_of rfl rfl rfl rfl) (pmk_err T.e_NoTicket C_NoTicket_init (hr.mono (by decide)) (by rfl) T.g_NoTicket (pa_cons pe_str pa_nil)))) pss_nil)
      (pss_cons (ps_if (pt_not (pt_val (pe_cal C_is_from (hr.mono (by decide)) (by rfl) T.g_is_from (fun σ => passAt (takes_of rfl rfl rfl rfl) σ) (pa_cons (pv 2) (pa_cons pe_int (pa_cons (pe_gint (by rfl) T.c_MOST_RULE) pa_nil)))))) (pss_one (ps_raise (by rfl) (takes_of rfl rfl rfl rfl) (pmk_err T.e_NoTicket C_NoTicket_init (hr.mono (by decide)) (by rfl) T.g_NoTicket (pa_cons pe_str pa_nil)))) pss_nil)
      (pss_cons (ps_if (pt_not (pt_val (pe_cal C_are_rows (hr.mono (by decide)) (by rfl) T.g_are_rows (fun σ => passAt (takes_of rfl rfl rfl rfl) σ) (pa_cons (pv 3) pa_nil)))) (pss_one (ps_raise (by rfl) (takes_of rfl rfl rfl rfl) (pmk_err T.e_NoTicket C_NoTicket_init (hr.mono (by decide)) (by rfl) T.g_NoTicket (pa_cons pe_str pa_nil)))) pss_nil)
      (pss_cons (ps_fld (pv 0) (pv 1) rfl)
      (pss_cons (ps_fld (pv 0) (pv 2) rfl)
      (pss_one (ps_fld (pv 0) (pv 3) rfl))))))), ?_⟩
    try simp only [kx1, kx2, kx3, kx4, kx5]
    refine ⟨_, rfl, v1, A0, d1, 1, 999, rfl, t1, _, rfl, ?_⟩
    cases f1 : isFrom d1 1 999 with
    | false => exact iteT ⟨_, rfl, fun d hd => ke _ (by simp [rulesBad, f1]) _ d (.new hd) hd upd_same⟩
    | true =>
      refine iteF ⟨_, rfl, v2, A0, d2, 0, 999, rfl, t2, _, rfl, ?_⟩
      cases f2 : isFrom d2 0 999 with
      | false => exact iteT ⟨_, rfl, fun d hd => ke _ (by simp [rulesBad, f1, f2]) _ d (.new hd) hd upd_same⟩
      | true =>
        refine iteF ⟨_, rfl, v3, A0, d3, rfl, t3, fun H1 st => ⟨_, rfl, ?_⟩⟩
        cases f3 : areRows d3 with
        | false => exact iteT ⟨_, rfl, fun d hd => ke _ (by simp [rulesBad, f1, f2, f3]) _ d (st.trans (.new hd)) (st.f d hd) upd_same⟩
        | true =>
          have hx1 := st.k x _ (by simp) hx
          refine iteF ⟨_, rfl, _, rfl, x, _, dx, _, rfl, hx1, T.cl_Rules, T.n_Rules_late, by decide, ?_⟩
          refine ⟨_, rfl, _, rfl, x, _, dx, _, rfl, upd_same, T.cl_Rules, T.n_Rules_wait, lenF (n := 999) (by decide), ?_⟩
          refine ⟨_, rfl, _, rfl, x, _, dx, _, rfl, upd_same, T.cl_Rules, T.n_Rules_back, lenF (n := 999) (lenF (n := 998) (by decide)), ?_⟩
          refine kn (by simp [rulesBad, f1, f2, f3]) _ ((((st.mono (by simp)).trans (.put hx1)).trans (.put upd_same)).trans (.put upd_same)) ⟨dx, _, upd_same, ?_, ?_, ?_⟩
          · rw [lookup_putF, if_neg (by decide +kernel), lookup_putF, if_neg (by decide +kernel), lookup_putF, if_pos rfl]
          · rw [lookup_putF, if_neg (by decide +kernel), lookup_putF, if_pos rfl]
          · rw [lookup_putF, if_pos rfl]
def paid : List (Int × Int) → Int → Int → Int
  | [], _, f => f
  | (a, b) :: r, m, f => paid r m (if a ≤ m then b else f)
def rowD (r : Int × Int) : PyData := .tuple [.int r.1, .int r.2]
def rowsD (rs : List (Int × Int)) : PyData := .tuple (rs.map rowD)
/-- a row of two whole numbers, as a value -/
theorem td_row {K : PySem.W.Frag} {A : List Addr} {H : Hp} {v : V} {r : Int × Int} (h : Td K A H v (rowD r)) : ∃ p, v = .ref p ∧ SqT K H p [.int r.1, .int r.2] := by
  cases h with
  | @tup p ys _ sq ta =>
    cases ta with
    | cons t1 ta =>
      cases t1
      cases ta with
      | cons t2 ta =>
        cases t2
        cases ta
        exact ⟨p, rfl, sq⟩
def spPaid (K : PySem.W.Frag) : Sp := fun vs H Q _ => ∃ (x : Addr) (v1 v2 v3 : V) (A : List Addr) (rs : List (Int × Int)) (p c : Int), vs = [.ref x, .int p, .int c] ∧ RulesAt K H x v1 v2 v3 ∧ Td K A H v3 (rowsD rs) ∧ Q (.int (paid rs (c - p) 0)) H
theorem ok_paid_back {P : Program} {w : World} {K : PySem.W.Frag} {mg : Str → Option Value} {base : Heap} {fd : FuncData} (T : Txt K mg) (F : FunD K "paid_back" "paid_back" (defArgs s_paid_back) (defBody s_paid_back) (defScope s_paid_back) [] [] (He.ga K "paid_back") fd)
     : FnOk P w K mg base (L2.CX P w) 1 (He.ga K "paid_back") fd ["rules", "promised", "came"] (spPaid K) := by
  refine FunD.ok F sc_paid_back (fun vs H Q E h => ?_) (fun cdv A outer s H vs Q E hr h => ?_)
  · obtain ⟨x, v1, v2, v3, A0, rs, p, c, rfl, ⟨dx, fs, hx, l1, l2, l3⟩, td, k⟩ := h
    rfl
  · obtain ⟨x, v1, v2, v3, A0, rs, p, c, rfl, ⟨dx, fs, hx, l1, l2, l3⟩, td, k⟩ := h
    refine ⟨_, (PSs.nox (pss_cons (ps_set (i := 3) sc_paid_back.nd rfl (by first | exact Or.inl rfl | exact Or.inr rfl) pe_int)
      (pss_cons (ps_for PassesOwn.never (by rfl) (pi_tup (pe_fld (pv 0) rfl)) (pg_tup (n := 2) (by rfl) (pgs_cons (pg_name (i := 4) sc_paid_back.nd rfl (by first | exact Or.inl rfl | exact Or.inr rfl)) (pgs_cons (pg_name (i := 5) sc_paid_back.nd rfl (by first | exact Or.inl rfl | exact Or.inr rfl)) pgs_nil))) (pss_one (ps_if (pt_cmpR op_le (pv 4) (pe_op op_sub (pv 2) (pv 1)) (nomark _)) (pss_one (ps_set (i := 3) sc_paid_back.nd rfl (by first | exact Or.inl rfl | exact Or.inr rfl) (pv 5))) pss_nil)))
      (pss_one (ps_ret (pv 3)))))), ?_⟩
    try simp only [kx1, kx2, kx3, kx4, kx5]
    cases td with
    | @tup a xs _ sq ta =>
      refine ⟨_, rfl, x, _, dx, fs, _, rfl, hx, T.cl_Rules, T.n_Rules_back, l3, a, rfl, ⟨xs, sq⟩, for_tup (K := K) (a := a) (xs := xs) (fun i σ H' => H' = H ∧ ∃ f r1 r2, σ = [some (.ref x), some (.int p), some (.int c), some (.int f), r1, r2] ∧ paid rs (c - p) 0 = paid (rs.drop i) (c - p) f)
        ⟨rfl, 0, none, none, rfl, rfl⟩ (fun i σ H' _ ⟨e, _⟩ => by rw [e]; exact sq) ?_ ?_⟩
      · rintro i y σ H' hy ⟨rfl, f, r1, r2, rfl, hv⟩
        obtain ⟨di, hdi, tdi⟩ := ta.get hy
        rw [List.getElem?_map] at hdi
        obtain ⟨r, hr2, rfl⟩ := Option.map_eq_some_iff.mp hdi
        obtain ⟨q, rfl, sq2⟩ := td_row tdi
        rw [drop_at hr2] at hv
        refine ⟨q, _, rfl, sq2, rfl, _, _, rfl, _, _, rfl, rfl, ?_⟩
        refine ⟨_, rfl, _, rfl, _, rfl, _, _, rfl, rfl, _, _, rfl, rfl, _, rfl, ?_⟩
        by_cases h : r.1 ≤ c - p
        · exact if_true_of (decide_eq_true h) ⟨_, rfl, rfl, r.2, _, _, rfl, by rw [hv]; simp [paid, h]⟩
        · exact if_false_of (decide_eq_false h) ⟨rfl, f, _, _, rfl, by rw [hv]; simp [paid, h]⟩
      · rintro σ H' ⟨rfl, f, r1, r2, rfl, hv⟩
        have e : xs.length = rs.length := by rw [ta.len, List.length_map]
        rw [e, List.drop_length] at hv
        rw [hv] at k
        exact ⟨_, rfl, k⟩
theorem ok__law_mixed {P : Program} {w : World} {K : PySem.W.Frag} {mg : Str → Option Value} {base : Heap} {fd : FuncData} (T : Txt K mg) (F : FunD K "_law_mixed" "_law_mixed" (defArgs s__law_mixed) (defBody s__law_mixed) (defScope s__law_mixed) [] [] (He.ga K "_law_mixed") fd)
     : FnOk P w K mg base (L2.CX P w) 1 (He.ga K "_law_mixed") fd ["_law_cell", "_law_k"] (spMixed) := by
  refine FunD.ok F sc__law_mixed (fun vs H Q E h => ?_) (fun cdv A outer s H vs Q E hr h => ?_)
  · obtain ⟨c, k, rfl, kk⟩ := h
    rfl
  · obtain ⟨c, k, rfl, kk⟩ := h
    refine ⟨_, (PSs.nox (pss_cons (ps_set (i := 2) sc__law_mixed.nd rfl (by first | exact Or.inl rfl | exact Or.inr rfl) (pe_op op_mod (pe_op op_mul (pe_op op_add (pe_op op_mod (pv 0) pe_int) pe_int) (pe_op op_add (pe_op op_mul (pv 1) pe_int) pe_int)) pe_int))
      (pss_cons (ps_set (i := 2) sc__law_mixed.nd rfl (by first | exact Or.inl rfl | exact Or.inr rfl) (pe_op op_mod (pe_op op_mul (pe_op op_add (pv 2) (pe_op op_mul (pe_op op_mod (pe_op op_fdivW (pv 0) pe_int) pe_int) (pe_op op_add (pv 1) pe_int))) pe_int) pe_int))
      (pss_cons (ps_set (i := 2) sc__law_mixed.nd rfl (by first | exact Or.inl rfl | exact Or.inr rfl) (pe_op op_mod (pe_op op_mul (pv 2) (pe_op op_add (pe_op op_add (pe_op op_fdivW (pv 2) pe_int) pe_int) (pv 1))) pe_int))
      (pss_one (ps_ret (pe_op op_mod (pe_op op_mul (pv 2) (pe_op op_add (pe_op op_fdivW (pv 2) pe_int) pe_int)) pe_int))))))), ?_⟩
    try simp only [kx1, kx2, kx3, kx4, kx5]
    refine ⟨_, rfl, _, _, rfl, rfl, (by show (0 : Int) < 2147483646; decide), _, _, rfl, rfl, _, rfl, _, _, rfl, rfl, .inr (by decide), _, _, rfl, rfl, _, _, rfl, rfl, .inl (by omega), _, _, rfl, rfl, (by show (0 : Int) < 2147483647; decide), ?_⟩
    have h1 := Int.emod_nonneg ((c % 2147483646 + 1) * (k * 7919 + 104729)) (show (2147483647 : Int) ≠ 0 by decide)
    have h2 := Int.emod_lt_of_pos ((c % 2147483646 + 1) * (k * 7919 + 104729)) (show (0 : Int) < 2147483647 by decide)
    generalize ((c % 2147483646 + 1) * (k * 7919 + 104729)) % 2147483647 = n1 at h1 h2 ⊢
    refine ⟨_, rfl, _, rfl, _, _, rfl, rfl, wide_div (b := 40) (by decide) (by decide) (by decide) (by decide), _, _, rfl, rfl, (by show (0 : Int) < 1000003; decide), _, rfl, _, _, rfl, rfl, _, _, rfl, rfl, .inl (by omega), _, _, rfl, rfl, _, _, rfl, rfl, .inr (by decide), _, _, rfl, rfl, (by show (0 : Int) < 2147483629; decide), ?_⟩
    have h3 := Int.emod_nonneg ((n1 + c / 2147483646 % 1000003 * (k + 31)) * 48271) (show (2147483629 : Int) ≠ 0 by decide)
    have h4 := Int.emod_lt_of_pos ((n1 + c / 2147483646 % 1000003 * (k + 31)) * 48271) (show (0 : Int) < 2147483629 by decide)
    generalize ((n1 + c / 2147483646 % 1000003 * (k + 31)) * 48271) % 2147483629 = n2 at h3 h4 ⊢
    refine ⟨_, rfl, _, rfl, _, _, rfl, rfl, wide_div (b := 40) (by decide) (by decide) (by decide) (by decide), _, _, rfl, rfl, _, rfl, _, _, rfl, rfl, _, _, rfl, rfl, .inl (by omega), _, _, rfl, rfl, (by show (0 : Int) < 2147483587; decide), ?_⟩
    have h5 := Int.emod_nonneg (n2 * (n2 / 1013 + 69621 + k)) (show (2147483587 : Int) ≠ 0 by decide)
    have h6 := Int.emod_lt_of_pos (n2 * (n2 / 1013 + 69621 + k)) (show (0 : Int) < 2147483587 by decide)
    generalize (n2 * (n2 / 1013 + 69621 + k)) % 2147483587 = n3 at h5 h6 ⊢
    exact ⟨_, rfl, _, rfl, _, _, rfl, rfl, wide_div (b := 40) (by decide) (by decide) (by decide) (by decide), _, _, rfl, rfl, _, _, rfl, rfl, .inl (by omega), _, _, rfl, rfl, (by show (0 : Int) < 2147483563; decide), kk _⟩
theorem ok__law_source {P : Program} {w : World} {K : PySem.W.Frag} {mg : Str → Option Value} {base : Heap} {fd : FuncData} (T : Txt K mg) (F : FunD K "_law_source" "_law_source" (defArgs s__law_source) (defBody s__law_source) (defScope s__law_source) [] [] (He.ga K "_law_source") fd)
     : FnOk P w K mg base (L2.CX P w) 1 (He.ga K "_law_source") fd ["_law_cell"] (spSource) := by
  refine FunD.ok F sc__law_source (fun vs H Q E h => ?_) (fun cdv A outer s H vs Q E hr h => ?_)
  · obtain ⟨c, rfl, kk⟩ := h
    rfl
  · obtain ⟨c, rfl, kk⟩ := h
    refine ⟨_, (PSs.nox (pss_one (ps_ret (pe_lst (pa_cons (pv 0) (pa_cons (pv 0) (pa_cons pe_int pa_nil))))))), ?_⟩
    try simp only [kx1, kx2, kx3, kx4, kx5]
    exact ⟨_, rfl, _, rfl, (by show 3 ≤ sizeLine; decide), fun p hp => kk p hp⟩
theorem ok__law_take {P : Program} {w : World} {K : PySem.W.Frag} {mg : Str → Option Value} {base : Heap} {fd : FuncData} (T : Txt K mg) (F : FunD K "_law_take" "_law_take" (defArgs s__law_take) (defBody s__law_take) (defScope s__law_take) [] [] (He.ga K "_law_take") fd)
    (C__law_mixed : Cal P w K mg base 1 (He.ga K "_law_mixed") ["_law_cell", "_law_k"] (spMixed)) : FnOk P w K mg base (L2.CX P w) 2 (He.ga K "_law_take") fd ["_law_source_here", "_law_many"] (spTake) := by
  refine FunD.ok F sc__law_take (fun vs H Q E h => ?_) (fun cdv A outer s H vs Q E hr h => ?_)
  · obtain ⟨a, m, rfl, m0, m1, ⟨x, c, k, ha⟩, kk⟩ := h
    rfl
  · obtain ⟨a, m, rfl, m0, m1, ⟨x, c, k, ha⟩, kk⟩ := h
    refine ⟨_, (PSs.nox (pss_cons (ps_if (pt_cmpR op_ge (pe_ix ix_list (pv 0) pe_int (fun _ _ => rfl)) (pe_op op_pow pe_int pe_int) (nomark _)) (pss_cons (ps_set (i := 2) sc__law_take.nd rfl (by first | exact Or.inl rfl | exact Or.inr rfl) (pe_op op_mod (pe_ix ix_list (pv 0) pe_int (fun _ _ => rfl)) (pv 1)))
      (pss_cons (ps_asg (pe_op op_fdivW (pe_ix ix_list (pv 0) pe_int (fun _ _ => rfl)) (pv 1)) (pg_sub (pv 0) pe_int set_list))
      (pss_one (ps_ret (pv 2))))) pss_nil)
      (pss_cons (ps_asg (pe_op op_add (pe_ix ix_list (pv 0) pe_int (fun _ _ => rfl)) pe_int) (pg_sub (pv 0) pe_int set_list))
      (pss_one (ps_ret (pe_op op_mod (pe_cal C__law_mixed (hr.mono (by decide)) (by rfl) T.g__law_mixed pL (pa_cons (pe_ix ix_list (pv 0) pe_int (fun _ _ => rfl)) (pa_cons (pe_ix ix_list (pv 0) pe_int (fun _ _ => rfl)) pa_nil))) (pv 1))))))), ?_⟩
    try simp only [kx1, kx2, kx3, kx4, kx5]
    refine ⟨_, rfl, a, _, _, _, rfl, rfl, SqL.of ha, rfl, _, _, rfl, rfl, (show CPow 10 18 from ⟨by decide, by decide, by decide⟩), _, _, rfl, rfl, _, rfl, ?_⟩
    have dv : CDivW x m := wide_div (b := 62) m0 (by omega) (by decide) (by decide)
    by_cases hx : (10 : Int) ^ (18 : Int).toNat ≤ x
    · refine if_true_of (decide_eq_true hx) ?_
      refine ⟨_, rfl, a, _, _, _, rfl, rfl, SqL.of ha, rfl, _, rfl, _, _, rfl, rfl, m0, ?_⟩
      refine ⟨_, rfl, a, _, _, _, rfl, rfl, SqL.of ha, rfl, _, rfl, _, _, rfl, rfl, dv, ?_⟩
      refine ⟨_, rfl, a, _, _, 0, rfl, rfl, ha, rfl, ?_⟩
      refine ⟨_, rfl, ?_⟩
      exact kk _ _ (Int.emod_nonneg _ (by omega)) (Int.emod_lt_of_pos _ m0) ⟨_, _, _, upd_same⟩ (.put ha)
    · refine if_false_of (decide_eq_false hx) ?_
      refine ⟨_, rfl, a, _, _, _, rfl, rfl, SqL.of ha, rfl, _, _, rfl, rfl, ?_⟩
      refine ⟨_, rfl, a, _, _, 2, rfl, rfl, ha, rfl, ?_⟩
      refine ⟨_, rfl, a, _, _, _, rfl, rfl, SqL.of upd_same, rfl, _, rfl, a, _, _, _, rfl, rfl, SqL.of upd_same, rfl, c, k + 1, rfl, fun r => ?_⟩
      refine ⟨_, rfl, _, _, rfl, rfl, m0, ?_⟩
      exact kk _ _ (Int.emod_nonneg _ (by omega)) (Int.emod_lt_of_pos _ m0) ⟨_, _, _, upd_same⟩ (.put ha)
/-- rising rows, the last one (l, s), or none and (0, 0) -/
inductive Up : List (Int × Int) → Int → Int → Prop
  | nil : Up [] 0 0
  | snoc {rs : List (Int × Int)} {l s l' s' : Int} : Up rs l s → l < l' → l' ≤ 999 → s < s' → s' ≤ 100 → Up (rs ++ [(l', s')]) l' s'
theorem Up.ok {rs : List (Int × Int)} {l s : Int} (h : Up rs l s) : ∀ t, rowsOk 0 0 (rs.map rowD ++ t) = rowsOk l s t := by
  induction h with
  | nil => intro t; rfl
  | @snoc rs l s l' s' h h1 h2 h3 h4 ih =>
    intro t
    rw [List.map_append, List.append_assoc, ih]
    show (isFrom (.int l') (l + 1) 999 && (isFrom (.int s') (s + 1) 100 && rowsOk l' s' t)) = _
    have e1 : isFrom (.int l') (l + 1) 999 = true := by simp [isFrom]; omega
    have e2 : isFrom (.int s') (s + 1) 100 = true := by simp [isFrom]; omega
    rw [e1, e2]; rfl
theorem Up.rows {rs : List (Int × Int)} {l s : Int} (h : Up rs l s) (hl : rs.length ≤ 5) : areRows (rowsD rs) = true := by
  have e := h.ok []
  rw [List.append_nil] at e
  simp only [areRows, rowsD, List.length_map, e, hl, rowsOk, decide_true, Bool.and_true]
theorem Up.nonneg {rs : List (Int × Int)} {l s : Int} (h : Up rs l s) : 0 ≤ l ∧ 0 ≤ s := by
  induction h with
  | nil => exact ⟨Int.le_refl _, Int.le_refl _⟩
  | snoc _ _ _ _ _ ih => omega
theorem flat_rows : ∀ rs : List (Int × Int), flatDs (rs.map rowD) = true
  | [] => rfl
  | _ :: r => flat_rows r
theorem nodic_rows : ∀ rs : List (Int × Int), nodics (rs.map rowD) = true
  | [] => rfl
  | _ :: r => nodic_rows r
theorem sh_rows (rs : List (Int × Int)) : ∀ d ∈ rs.map rowD, Sh 1 d := fun d hd => by
  obtain ⟨r, _, rfl⟩ := List.mem_map.mp hd
  exact sh_tuple fun x hx => by
    have : x = .int r.1 ∨ x = .int r.2 := by simpa using hx
    rcases this with rfl | rfl <;> exact sh_int _
theorem TdAll.snoc_inv {K : PySem.W.Frag} {A : List Addr} {H : Hp} {rs : List (Int × Int)} {r : Int × Int} {vs : List V} (h : TdAll K A H vs ((rs ++ [r]).map rowD)) : ∃ vs0 v1, vs = vs0 ++ [v1] ∧ TdAll K A H vs0 (rs.map rowD) := by
  have hl := h.len
  rw [List.length_map, List.length_append, List.length_singleton] at hl
  have h2 := h.take rs.length
  rw [List.map_append, List.take_left' (by simp)] at h2
  have h3 : vs ≠ [] := fun e => by subst e; simp at hl
  refine ⟨vs.dropLast, vs.getLast h3, (List.dropLast_concat_getLast h3).symm, ?_⟩
  rw [List.dropLast_eq_take, hl]
  exact h2
theorem set_last {α : Type} {xs : List α} {x y : α} : (xs ++ [x]).set ((xs ++ [x]).length - 1) y = xs ++ [y] := by
  induction xs with
  | nil => rfl
  | cons a r ih =>
    have e : (a :: r ++ [x]).length - 1 = ((r ++ [x]).length - 1) + 1 := by simp
    rw [e]
    show a :: (r ++ [x]).set _ y = _
    rw [ih]; rfl
def spParts (K : PySem.W.Frag) : Sp := fun vs H Q _ => ∃ a, vs = [.ref a] ∧ Src H a ∧ ∀ (H' : Hp) (p : Addr) (t u : Int) (v : V) (rs : List (Int × Int)), Stp [a] H H' → Src H' a → H p = none → H' p = some (.lst [.int t, .int u, v]) → Td K [a] H' v (rowsD rs) → 1 ≤ t → t ≤ 999 → 0 ≤ u → u ≤ 999 →
  areRows (rowsD rs) = true → Q (.ref p) H'
theorem ok__law_parts {P : Program} {w : World} {K : PySem.W.Frag} {mg : Str → Option Value} {base : Heap} {fd : FuncData} (T : Txt K mg) (F : FunD K "_law_parts" "_law_parts" (defArgs s__law_parts) (defBody s__law_parts) (defScope s__law_parts) [] [] (He.ga K "_law_parts") fd)
    (C__law_take : Cal P w K mg base 2 (He.ga K "_law_take") ["_law_source_here", "_law_many"] (spTake)) : FnOk P w K mg base (L2.CX P w) 3 (He.ga K "_law_parts") fd ["_law_source_here"] (spParts K) := by
  refine FunD.ok F sc__law_parts (fun vs H Q E h => ?_) (fun cdv A outer s H vs Q E hr h => ?_)
  · obtain ⟨a, rfl, sr, kk⟩ := h
    rfl
  · obtain ⟨a, rfl, sr, kk⟩ := h
    refine ⟨_, (PSs.nox (pss_cons (ps_set (i := 1) sc__law_parts.nd rfl (by first | exact Or.inl rfl | exact Or.inr rfl) (pe_ix ix_list (pe_lst (pa_cons pe_int (pa_cons pe_int (pa_cons (pe_op op_add pe_int (pe_cal C__law_take (hr.mono (by decide)) (by rfl) T.g__law_take pL (pa_cons (pv 0) (pa_cons pe_int pa_nil)))) pa_nil)))) (pe_cal C__law_take (hr.mono (by decide)) (by rfl) T.g__law_take pL (pa_cons (pv 0) (pa_cons pe_int pa_nil))) (fun _ _ => rfl)))
      (pss_cons (ps_set (i := 2) sc__law_parts.nd rfl (by first | exact Or.inl rfl | exact Or.inr rfl) (pe_ix ix_list (pe_lst (pa_cons pe_int (pa_cons pe_int (pa_cons (pe_cal C__law_take (hr.mono (by decide)) (by rfl) T.g__law_take pL (pa_cons (pv 0) (pa_cons pe_int pa_nil))) pa_nil)))) (pe_cal C__law_take (hr.mono (by decide)) (by rfl) T.g__law_take pL (pa_cons (pv 0) (pa_cons pe_int pa_nil))) (fun _ _ => rfl)))
      (pss_cons (ps_set (i := 3) sc__law_parts.nd rfl (by first | exact Or.inl rfl | exact Or.inr rfl) (pe_lst pa_nil))
      (pss_cons (ps_set (i := 4) sc__law_parts.nd rfl (by first | exact Or.inl rfl | exact Or.inr rfl) pe_int)
      (pss_cons (ps_set (i := 5) sc__law_parts.nd rfl (by first | exact Or.inl rfl | exact Or.inr rfl) pe_int)
      (pss_cons (ps_for PassesOwn.never (by rfl) (pi_range1 (by rfl) T.f_range (pa_cons (pe_cal C__law_take (hr.mono (by decide)) (by rfl) T.g__law_take pL (pa_cons (pv 0) (pa_cons pe_int pa_nil))) pa_nil)) (pg_name (i := 6) sc__law_parts.nd rfl (by first | exact Or.inl rfl | exact Or.inr rfl)) (pss_cons (ps_set (i := 4) sc__law_parts.nd rfl (by first | exact Or.inl rfl | exact Or.inr rfl) (pe_op op_add (pe_op op_add (pv 4) pe_int) (pe_cal C__law_take (hr.mono (by decide)) (by rfl) T.g__law_take pL (pa_cons (pv 0) (pa_cons (pe_ix ix_list (pe_lst (pa_cons pe_int (pa_cons pe_int pa_nil))) (pe_cal C__law_take (hr.mono (by decide)) (by rfl) T.g__law_take pL (pa_cons (pv 0) (pa_cons pe_int pa_nil))) (fun _ _ => rfl)) pa_nil)))))
      (pss_cons (ps_set (i := 5) sc__law_parts.nd rfl (by first | exact Or.inl rfl | exact Or.inr rfl) (pe_op op_add (pe_op op_add (pv 5) pe_int) (pe_cal C__law_take (hr.mono (by decide)) (by rfl) T.g__law_take pL (pa_cons (pv 0) (pa_cons pe_int pa_nil)))))
      (pss_one (ps_expr (pe_bm PySem.F.plainAttrs_list PySem.F.slot_list_append PySem.F.type_list_append mt_append (pv 3) (pa_cons (pe_tup (pa_cons (pv 4) (pa_cons (pv 5) pa_nil))) pa_nil)))))))
      (pss_cons (ps_if (PW.pt (pw_and (pt_cmpR (op_neD hr.units) (pv 3) (pe_lst pa_nil) (nomark _)) (pw_and1 (pt_cmpR op_eq (pe_cal C__law_take (hr.mono (by decide)) (by rfl) T.g__law_take pL (pa_cons (pv 0) (pa_cons pe_int pa_nil))) pe_int (nomark _))))) (pss_one (ps_asg (pe_tup (pa_cons pe_int (pa_cons pe_int pa_nil))) (pg_sub (pv 3) (pe_un un_neg pe_int) set_list))) pss_nil)
      (pss_one (ps_ret (pe_lst (pa_cons (pv 1) (pa_cons (pv 2) (pa_cons (pe_callTy call_tuple_of (by rfl) T.f_tuple (by decide +kernel) (pa_cons (pv 3) pa_nil)) pa_nil)))))))))))))), ?_⟩
    try simp only [kx1, kx2, kx3, kx4, kx5]
    obtain ⟨x0, c0, k0, ha⟩ := id sr
    -- the first draw
    refine ⟨_, rfl, a, 999, rfl, by decide, by decide, sr, fun r1 H1 r10 r11 sr1 st1 => ?_⟩
    refine ⟨_, _, rfl, rfl, by show 3 ≤ sizeLine; decide, fun p1 hp1 => ?_⟩
    have na1 := sr1.ne hp1
    refine ⟨_, rfl, a, 3, rfl, by decide, by decide, sr1.new hp1, fun r2 H2 r20 r21 sr2 st2 => ?_⟩
    obtain ⟨t, ht, t0, t1⟩ : ∃ t, atI [V.int 1, .int 999, .int (1 + r1)] r2 = some (.int t) ∧ 1 ≤ t ∧ t ≤ 999 := by
      have : r2 = 0 ∨ r2 = 1 ∨ r2 = 2 := by omega
      rcases this with rfl | rfl | rfl
      · exact ⟨1, rfl, by decide, by decide⟩
      · exact ⟨999, rfl, by decide, by decide⟩
      · exact ⟨1 + r1, rfl, by omega, by omega⟩
    refine ⟨p1, _, _, _, rfl, rfl, SqL.of (st2.k p1 _ (by simpa using na1) upd_same), ht, ?_⟩
    have s2 : Stp [a] H H2 := (st1.trans (.new hp1)).trans st2
    -- the second
    refine ⟨_, rfl, a, 1000, rfl, by decide, by decide, sr2, fun r3 H3 r30 r31 sr3 st3 => ?_⟩
    refine ⟨by show 3 ≤ sizeLine; decide, fun p2 hp2 => ?_⟩
    have na2 := sr3.ne hp2
    refine ⟨_, rfl, a, 3, rfl, by decide, by decide, sr3.new hp2, fun r4 H4 r40 r41 sr4 st4 => ?_⟩
    obtain ⟨u, hu, u0, u1⟩ : ∃ u, atI [V.int 0, .int 999, .int r3] r4 = some (.int u) ∧ 0 ≤ u ∧ u ≤ 999 := by
      have : r4 = 0 ∨ r4 = 1 ∨ r4 = 2 := by omega
      rcases this with rfl | rfl | rfl
      · exact ⟨0, rfl, by decide, by decide⟩
      · exact ⟨999, rfl, by decide, by decide⟩
      · exact ⟨r3, rfl, by omega, by omega⟩
    refine ⟨p2, _, _, _, rfl, rfl, SqL.of (st4.k p2 _ (by simpa using na2) upd_same), hu, ?_⟩
    have s4 : Stp [a] H H4 := ((s2.trans st3).trans (.new hp2)).trans st4
    -- the rows
    refine ⟨by show 0 ≤ sizeLine; decide, fun L hL => ?_⟩
    have naL := sr4.ne hL
    have L0 : H L = none := s4.f L hL
    refine ⟨_, rfl, a, 6, rfl, by decide, by decide, sr4.new hL, fun n H5 n0 n1 sr5 st5 => ?_⟩
    have hL5 := st5.k L _ (by simpa using naL) upd_same
    have s5 : Stp [a] H H5 := (s4.trans (.new hL)).trans st5
    refine ⟨_, rfl, by omega, by omega, for_range (lo := 0) (n := n.toNat) (fun i σ H' => ∃ rs l s r6 vs, σ = [some (.ref a), some (.int t), some (.int u), some (.ref L), some (.int l), some (.int s), r6] ∧ Stp [a] H H' ∧ Src H' a ∧ H' L = some (.lst vs) ∧
        TdAll K [a] H' vs (rs.map rowD) ∧ Up rs l s ∧ rs.length = i ∧ l ≤ 198 * i ∧ s ≤ 20 * i)
      ⟨[], 0, 0, none, [], rfl, s5, sr5, hL5, .nil, .nil, rfl, by omega, by omega⟩ ?_ ?_⟩
    · rintro i σ H' hi ⟨rs, l, s, r6, vs, rfl, st, sr, hl, ta, up, hlen, b1, b2⟩
      refine ⟨_, rfl, _, _, rfl, rfl, _, rfl, by show 2 ≤ sizeLine; decide, fun p hp => ⟨_, rfl, a, 2, rfl, by decide, by decide, sr.new hp, fun r H6 r0 r1 sr6 st6 => ?_⟩⟩
      obtain ⟨m, hm, m0⟩ : ∃ m, atI [V.int 3, .int 198] r = some (.int m) ∧ (m = 3 ∨ m = 198) := by
        have : r = 0 ∨ r = 1 := by omega
        rcases this with rfl | rfl
        · exact ⟨3, rfl, .inl rfl⟩
        · exact ⟨198, rfl, .inr rfl⟩
      have np : p ≠ a := sr.ne hp
      refine ⟨p, _, _, _, rfl, rfl, SqL.of (st6.k p _ (by simpa using np) upd_same), hm, a, m, rfl, by omega, by omega, sr6, fun q1 H7 q10 q11 sr7 st7 => ⟨_, _, rfl, rfl, ?_⟩⟩
      refine ⟨_, rfl, _, _, rfl, rfl, _, rfl, a, 20, rfl, by decide, by decide, sr7, fun q2 H8 q20 q21 sr8 st8 => ⟨_, _, rfl, rfl, ?_⟩⟩
      have s8 : Stp [a] H' H8 := (((Stp.new hp).trans st6).trans st7).trans st8
      have hl8 := s8.k L _ (by simpa using naL) hl
      refine ⟨_, rfl, .inl ⟨rfl, _, SqL.of hl8⟩, _, rfl, _, rfl, by show 2 ≤ sizeLine; decide, fun t1 ht1 => ?_⟩
      have nt : L ≠ t1 := ne_of_none hl8 ht1
      have hv : vs.length = i := by rw [ta.len, List.length_map, hlen]
      refine ⟨L, _, _, rfl, rfl, (by rw [upd_ne nt]; exact hl8), (by rw [sizeLine_eq]; omega), ?_⟩
      have nn := up.nonneg
      refine ⟨rs ++ [(l + 1 + q1, s + 1 + q2)], _, _, _, _, rfl, ((st.trans s8).trans (.new ht1)).putNew (by rw [upd_ne nt]; exact hl8) L0, (sr8.new ht1).put naL, upd_same, ?_, .snoc up (by omega) (by omega) (by omega) (by omega), by simp [hlen], by omega, by omega⟩
      rw [List.map_append]
      have sL : Stp [L] (upd H8 t1 (.tup [.int (l + 1 + q1), .int (s + 1 + q2)])) (upd (upd H8 t1 (.tup [.int (l + 1 + q1), .int (s + 1 + q2)])) L (.lst (vs ++ [.ref t1]))) := .put (by rw [upd_ne nt]; exact hl8)
      exact ((ta.mono (s8.trans (.new ht1))).flatMono (flat_rows _) sL).app (.cons (.tup (SqT.of (sL.t _ _ upd_same)) (.cons (.int _) (.cons (.int _) .nil))) .nil)
    · rintro σ H' ⟨rs, l, s, r6, vs, rfl, st, sr, hl, ta, up, hlen, b1, b2⟩
      have hv : vs.length = n.toNat := by rw [ta.len, List.length_map, hlen]
      have fin : ∀ (H'' : Hp) (vs' : List V) (rs' : List (Int × Int)), Stp [a] H H'' → Src H'' a → TdAll K [a] H'' vs' (rs'.map rowD) → areRows (rowsD rs') = true → ∀ z, H'' z = none → ∀ p, upd H'' z (.tup vs') p = none → Q (.ref p) (upd (upd H'' z (.tup vs')) p (.lst [.int t, .int u, .ref z])) := fun H'' vs' rs' st2 sr2 ta2 ar z hz p hp =>
        kk _ p t u (.ref z) rs' ((st2.trans (.new hz)).trans (.new hp)) ((sr2.new hz).new hp) ((st2.trans (.new hz)).f p hp) upd_same (.tup ((Stp.new (A := []) hp).sqT (SqT.of upd_same)) (ta2.mono ((Stp.new hz).trans (.new hp)))) t0 t1 u0 u1 ar
      refine ⟨_, rfl, by show 0 ≤ sizeLine; decide, fun z0 hz0 => ?_⟩
      have st0 : Stp [a] H (upd H' z0 (.lst [])) := st.trans (.new hz0)
      have hl0 : upd H' z0 (.lst []) L = some (.lst vs) := by rw [upd_ne (ne_of_none hl hz0)]; exact hl
      have ta0 := ta.mono (Stp.new (A := [a]) (o := .lst []) hz0)
      have sr0 := sr.new (o := .lst []) hz0
      refine ⟨.list (rs.map rowD), .list [], .lst (SqL.of hl0) (ta0.dp (nodic_rows _)), .lst (SqL.of upd_same) .nil, sh_ok (n := 2) (sh_list (sh_rows _)) (by decide), rfl, _, rfl, ?_⟩
      cases ht : up with
      | nil =>
        refine if_false_of rfl ?_
        refine if_false_of rfl ⟨_, rfl, _, rfl, _, rfl, L, vs, rfl, .inl ⟨SqL.of hl0, fun z hz => ⟨by show 3 ≤ sizeLine; decide, fun p hp => fin _ _ [] st0 sr0 ta0 rfl z hz p hp⟩⟩⟩
      | @snoc rs0 l0 s0 _ _ up0 h1 h2 h3 h4 =>
        have ne0 : PyData.eqv (.list ((rs0 ++ [(l, s)]).map rowD)) (.list []) = false := by
          rw [List.map_append]
          cases rs0.map rowD <;> rfl
        refine if_true_of (by rw [ne0]; rfl) ?_
        have hlen2 : rs0.length + 1 = n.toNat := by simpa using hlen
        refine ⟨_, rfl, a, 3, rfl, by decide, by decide, sr0, fun r H9 r0 r9 sr9 st9 => ⟨rfl, _, rfl, ?_⟩⟩
        have hl9 := st9.k L _ (by simpa using naL) hl0
        have ta9 := ta0.mono st9
        by_cases hr0 : r = 0
        · refine if_true_of (by simp [hr0]) ?_
          refine ⟨by show 2 ≤ sizeLine; decide, fun z1 hz1 => ?_⟩
          have nz : L ≠ z1 := ne_of_none hl9 hz1
          have hlz : upd H9 z1 (.tup [.int 999, .int 100]) L = some (.lst vs) := by rw [upd_ne nz]; exact hl9
          refine ⟨_, rfl, _, rfl, L, vs, -1, vs.length - 1, rfl, rfl, hlz, (by rw [hv, ← hlen2]; exact ixN_last), ?_⟩
          have sL : Stp [L] (upd H9 z1 (.tup [.int 999, .int 100])) (upd (upd H9 z1 (.tup [.int 999, .int 100])) L (.lst (vs.set (vs.length - 1) (.ref z1)))) := .put hlz
          have up2 : Up (rs0 ++ [(999, 100)]) 999 100 := .snoc up0 (by omega) (by decide) (by omega) (by decide)
          refine ⟨_, rfl, _, rfl, _, rfl, L, _, rfl, .inl ⟨SqL.of upd_same, fun z hz => ⟨by show 3 ≤ sizeLine; decide, fun p hp => fin _ _ (rs0 ++ [(999, 100)]) (((st0.trans st9).trans (.new hz1)).putNew hlz L0) ((sr9.new hz1).put naL) ?_ (up2.rows (by simp; omega)) z hz p hp⟩⟩⟩
          obtain ⟨vs0, v1, rfl, ta1⟩ := ta9.snoc_inv
          have e1 : (vs0 ++ [v1]).set ((vs0 ++ [v1]).length - 1) (V.ref z1) = vs0 ++ [.ref z1] := set_last
          rw [e1] at sL ⊢
          rw [List.map_append]
          exact ((ta1.mono (.new hz1)).flatMono (flat_rows _) sL).app (.cons (.tup (SqT.of (sL.t _ _ upd_same)) (.cons (.int _) (.cons (.int _) .nil))) .nil)
        · refine if_false_of (by simp [hr0]) ?_
          refine ⟨_, rfl, _, rfl, _, rfl, L, vs, rfl, .inl ⟨SqL.of hl9, fun z hz => ⟨by show 3 ≤ sizeLine; decide, fun p hp => fin _ _ _ (st0.trans st9) sr9 ta9 (up.rows (by omega)) z hz p hp⟩⟩⟩
def madeOr : Option Str → Str
  | some z => z
  | none => "made"
def spRefused (K : PySem.W.Frag) : Sp := fun vs H Q _ => ∃ (p : Addr) (v1 v2 v3 : V) (A : List Addr) (d1 d2 d3 : PyData), vs = [.ref p] ∧ H p = some (.lst [v1, v2, v3]) ∧ Td K A H v1 d1 ∧ Td K A H v2 d2 ∧ Td K A H v3 d3 ∧ ∀ H', Stp [] H H' → Q (.str (madeOr (rulesBad d1 d2 d3))) H'
/-- a new instance -/
theorem Stp.made {A : List Addr} {H : Hp} {x dx C : Addr} (nx : H x = none) (nd : H dx = none) (ne : dx ≠ x) : Stp A H (upd (upd H dx (.own x)) x (.ins C dx [])) :=
  (Stp.new nd).trans (.new (by rw [upd_ne ne.symm]; exact nx))
theorem ok__law_refused {P : Program} {w : World} {K : PySem.W.Frag} {mg : Str → Option Value} {base : Heap} {fd : FuncData} (T : Txt K mg) (F : FunD K "_law_refused" "_law_refused" (defArgs s__law_refused) (defBody s__law_refused) (defScope s__law_refused) [] [] (He.ga K "_law_refused") fd)
    (K_Rules_init_0_late_wait_back : CalK P w K mg base 4 (He.ma K (He.ga K "Rules") "__init__") ["self", "late", "wait", "back"] (spRulesInit K) 1 ["late", "wait", "back"] (fun us ws => (us.drop 0).take 1 ++ ((ws.drop 0).take 1 ++ ((ws.drop 1).take 1 ++ ((ws.drop 2).take 1))))) : FnOk P w K mg base (L2.CX P w) 6 (He.ga K "_law_refused") fd ["_law_parts_here"] (spRefused K) := by
  refine FunD.ok F sc__law_refused (fun vs H Q E h => ?_) (fun cdv A outer s H vs Q E hr h => ?_)
  · obtain ⟨p, v1, v2, v3, A0, d1, d2, d3, rfl, hp, t1, t2, t3, k⟩ := h
    rfl
  · obtain ⟨p, v1, v2, v3, A0, d1, d2, d3, rfl, hp, t1, t2, t3, k⟩ := h
    refine ⟨_, (PSs.nox (pss_cons (ps_asg (pv 0) (pg_lst (n := 3) (by rfl) (pgs_cons (pg_name (i := 1) sc__law_refused.nd rfl (by first | exact Or.inl rfl | exact Or.inr rfl)) (pgs_cons (pg_name (i := 2) sc__law_refused.nd rfl (by first | exact Or.inl rfl | exact Or.inr rfl)) (pgs_cons (pg_name (i := 3) sc__law_refused.nd rfl (by first | exact Or.inl rfl | exact Or.inr rfl)) pgs_nil)))))
      (pss_cons (ps_try_as (i := 4) rfl rfl sc__law_refused.nd rfl rfl ⟨rfl, by decide, Or.inl T.g_NoTicket⟩ takes0 (fun W pn xe tk po => (pss_one (ps_expr (pe_mk0 T.mk_Rules K_Rules_init_0_late_wait_back (hr.mono (by decide)) (by rfl) T.g_Rules (fun σ => passAt tk σ) (pk_cons (pv 1) (pk_cons (pv 2) (pk_cons (pv 3) pk_nil))))))) (fun a oe cls d pn hz hf => (pss_one (ps_ret (pe_xf T.e_NoTicket.xf T.e_NoTicket.no hz hf (pv 4))))))
      (pss_one (ps_ret pe_str))))), ?_⟩
    try simp only [kx1, kx2, kx3, kx4, kx5]
    refine ⟨_, rfl, p, _, rfl, SqL.of hp, rfl, _, _, rfl, _, _, rfl, _, _, rfl, rfl, ?_⟩
    refine ⟨_, rfl, _, rfl, _, rfl, rfl, rfl, fun x dx nx nd ne => ?_⟩
    have st : ∀ A, Stp A H (upd (upd H dx (.own x)) x (.ins (He.ga K "Rules") dx [])) := fun A => .made nx nd ne
    refine ⟨x, dx, v1, v2, v3, A0, d1, d2, d3, rfl, upd_same, t1.mono (st _), t2.mono (st _), t3.mono (st _), fun e H' s2 _ => ⟨rfl, ?_⟩, fun z e H' d s2 hd hd2 => ?_⟩
    · have := k H' (Stp.back (st []) s2 nx)
      rw [e] at this
      exact this
    · refine ⟨true, T.x_NoTicket_NoTicket, fun _ a ha => ?_, fun q => nomatch q⟩
      have := k H' ((st []).trans s2)
      rw [e] at this
      exact ⟨_, rfl, rfl, rfl, d, _, _, rfl, hd2, rfl, this⟩
def spDue (K : PySem.W.Frag) : Sp := fun vs H Q _ => ∃ (v : V) (A : List Addr) (rs : List (Int × Int)) (m : Int), vs = [v, .int m] ∧ Td K A H v (rowsD rs) ∧ Q (.int (paid rs m 0)) H
theorem ok__law_due {P : Program} {w : World} {K : PySem.W.Frag} {mg : Str → Option Value} {base : Heap} {fd : FuncData} (T : Txt K mg) (F : FunD K "_law_due" "_law_due" (defArgs s__law_due) (defBody s__law_due) (defScope s__law_due) [] [] (He.ga K "_law_due") fd)
     : FnOk P w K mg base (L2.CX P w) 1 (He.ga K "_law_due") fd ["_law_rows", "_law_more"] (spDue K) := by
  refine FunD.ok F sc__law_due (fun vs H Q E h => ?_) (fun cdv A outer s H vs Q E hr h => ?_)
  · obtain ⟨v, A0, rs, m, rfl, td, k⟩ := h
    rfl
  · obtain ⟨v, A0, rs, m, rfl, td, k⟩ := h
    refine ⟨_, (PSs.nox (pss_cons (ps_set (i := 2) sc__law_due.nd rfl (by first | exact Or.inl rfl | exact Or.inr rfl) pe_int)
      (pss_cons (ps_for PassesOwn.never (by rfl) (pi_tup (pv 0)) (pg_tup (n := 2) (by rfl) (pgs_cons (pg_name (i := 3) sc__law_due.nd rfl (by first | exact Or.inl rfl | exact Or.inr rfl)) (pgs_cons (pg_name (i := 4) sc__law_due.nd rfl (by first | exact Or.inl rfl | exact Or.inr rfl)) pgs_nil))) (pss_one (ps_if (pt_cmpR op_le (pv 3) (pv 1) (nomark _)) (pss_one (ps_set (i := 2) sc__law_due.nd rfl (by first | exact Or.inl rfl | exact Or.inr rfl) (pv 4))) pss_nil)))
      (pss_one (ps_ret (pv 2)))))), ?_⟩
    try simp only [kx1, kx2, kx3, kx4, kx5]
    cases td with
    | @tup a xs _ sq ta =>
      refine ⟨_, rfl, a, rfl, ⟨xs, sq⟩, for_tup (K := K) (a := a) (xs := xs) (fun i σ H' => H' = H ∧ ∃ f r1 r2, σ = [some (.ref a), some (.int m), some (.int f), r1, r2] ∧ paid rs m 0 = paid (rs.drop i) m f)
        ⟨rfl, 0, none, none, rfl, rfl⟩ (fun i σ H' _ ⟨e, _⟩ => by rw [e]; exact sq) ?_ ?_⟩
      · rintro i y σ H' hy ⟨rfl, f, r1, r2, rfl, hv⟩
        obtain ⟨di, hdi, tdi⟩ := ta.get hy
        rw [List.getElem?_map] at hdi
        obtain ⟨r, hr2, rfl⟩ := Option.map_eq_some_iff.mp hdi
        obtain ⟨q, rfl, sq2⟩ := td_row tdi
        rw [drop_at hr2] at hv
        refine ⟨q, _, rfl, sq2, rfl, _, _, rfl, _, _, rfl, rfl, ?_⟩
        refine ⟨_, rfl, _, rfl, _, _, rfl, rfl, _, rfl, ?_⟩
        by_cases h : r.1 ≤ m
        · exact if_true_of (decide_eq_true h) ⟨_, rfl, rfl, r.2, _, _, rfl, by rw [hv]; simp [paid, h]⟩
        · exact if_false_of (decide_eq_false h) ⟨rfl, f, _, _, rfl, by rw [hv]; simp [paid, h]⟩
      · rintro σ H' ⟨rfl, f, r1, r2, rfl, hv⟩
        have e : xs.length = rs.length := by rw [ta.len, List.length_map]
        rw [e, List.drop_length] at hv
        rw [hv] at k
        exact ⟨_, rfl, k⟩
/-- no row that may stand behind (l, s) -/
def BadRow (l s : Int) (d : PyData) : Prop := ∀ r, rowsOk l s (d :: r) = false
/-- the row ahead of place i -/
def aheadOf (rs : List (Int × Int)) (i : Nat) : Int × Int := ((0, 0) :: rs).getD i (0, 0)
theorem rows_at : ∀ (rs : List (Int × Int)) (i : Nat) (l s : Int), rowsOk l s (rs.map rowD) = true → i ≤ rs.length → 0 ≤ l → 0 ≤ s → ∀ t, rowsOk l s ((rs.take i).map rowD ++ t) = rowsOk (((l, s) :: rs).getD i (0, 0)).1 (((l, s) :: rs).getD i (0, 0)).2 t ∧ 0 ≤ (((l, s) :: rs).getD i (0, 0)).1 ∧ 0 ≤ (((l, s) :: rs).getD i (0, 0)).2
  | rs, 0, l, s, _, _, h1, h2, t => ⟨rfl, h1, h2⟩
  | [], i + 1, l, s, _, h, _, _, t => absurd h (by simp)
  | r :: rs, i + 1, l, s, h, hi, h1, h2, t => by
    have h3 : (isFrom (.int r.1) (l + 1) 999 && (isFrom (.int r.2) (s + 1) 100 && rowsOk r.1 r.2 (rs.map rowD))) = true := h
    obtain ⟨h4, h5⟩ := Bool.and_eq_true_iff.mp h3
    obtain ⟨h6, h7⟩ := Bool.and_eq_true_iff.mp h5
    obtain ⟨i1, e1, b1, _⟩ := isFrom_int h4
    obtain ⟨i2, e2, b2, _⟩ := isFrom_int h6
    cases e1
    cases e2
    have ih := rows_at rs i r.1 r.2 h7 (by simpa using hi) (by omega) (by omega) t
    refine ⟨?_, ih.2⟩
    show (isFrom (.int r.1) (l + 1) 999 && (isFrom (.int r.2) (s + 1) 100 && rowsOk r.1 r.2 ((rs.take i).map rowD ++ t))) = _
    rw [h4, h6, ih.1]; rfl
def spBad (K : PySem.W.Frag) : Sp := fun vs H Q _ => ∃ (a : Addr) (v : V) (rs : List (Int × Int)) (A1 : List Addr), vs = [.ref a, v] ∧ a ∈ A1 ∧ (∀ b ∈ A1, H b ≠ none) ∧ Src H a ∧ Td K [a] H v (rowsD rs) ∧ areRows (rowsD rs) = true ∧ ∀ (H' : Hp) (w : V) (d : PyData), Stp [a] H H' → Src H' a → Td K A1 H' w d → areRows d = false → Q w H'
def oddDs (l s : Int) : List PyData := [.tuple [.int l, .int (s + 1)], .tuple [.int (l + 1), .int s], .tuple [.bool true, .int (s + 1)], .tuple [.int (l + 1), .str "9"], .tuple [.int (l + 1)], .none, .list [.int 500, .int 50],
  .tuple [.int 1000, .int 50], .tuple [.int (l + 1), .int 101], .tuple [.int 0, .int 5], .tuple [.int (-3), .int 5], .tuple [.int (l + 1), .int (s + 1), .int 0], .int 7]
theorem odd_bad {l s : Int} (h1 : 0 ≤ l) (h2 : 0 ≤ s) : ∀ d ∈ oddDs l s, BadRow l s d := fun d hd r => by
  simp only [oddDs, List.mem_cons, List.not_mem_nil, or_false] at hd
  rcases hd with rfl | rfl | rfl | rfl | rfl | rfl | rfl | rfl | rfl | rfl | rfl | rfl | rfl <;> simp [rowsOk, isFrom] <;> omega
theorem ok__law_bad_rows {P : Program} {w : World} {K : PySem.W.Frag} {mg : Str → Option Value} {base : Heap} {fd : FuncData} (T : Txt K mg) (F : FunD K "_law_bad_rows" "_law_bad_rows" (defArgs s__law_bad_rows) (defBody s__law_bad_rows) (defScope s__law_bad_rows) [] [] (He.ga K "_law_bad_rows") fd)
    (C__law_take : Cal P w K mg base 2 (He.ga K "_law_take") ["_law_source_here", "_law_many"] (spTake)) : FnOk P w K mg base (L2.CX P w) 3 (He.ga K "_law_bad_rows") fd ["_law_source_here", "_law_rows"] (spBad K) := by
  refine FunD.ok F sc__law_bad_rows (fun vs H Q E h => ?_) (fun cdv A outer s H vs Q E hr h => ?_)
  · obtain ⟨a, v, rs, A1, rfl, ha1, hA, sr, td, ar, kk⟩ := h
    rfl
  · obtain ⟨a, v, rs, A1, rfl, ha1, hA, sr, td, ar, kk⟩ := h
    refine ⟨_, (PSs.nox (pss_cons (ps_set (i := 2) sc__law_bad_rows.nd rfl (by first | exact Or.inl rfl | exact Or.inr rfl) (pe_cal C__law_take (hr.mono (by decide)) (by rfl) T.g__law_take pL (pa_cons (pv 0) (pa_cons (pe_callB (call_max2 rfl) (by rfl) T.f_max (by decide +kernel) (pa_cons pe_int (pa_cons (pe_callB call_len_seq (by rfl) T.f_len (by decide +kernel) (pa_cons (pv 1) pa_nil)) pa_nil))) pa_nil))))
      (pss_cons (ps_asg (pe_ix ix_tup (pe_op op_catTN (pe_tupN (pa_cons (pe_tupN (pa_cons pe_int (pa_cons pe_int pa_nil))) pa_nil)) (pv 1)) (pv 2) (fun _ _ => rfl)) (pg_tup (n := 2) (by rfl) (pgs_cons (pg_name (i := 3) sc__law_bad_rows.nd rfl (by first | exact Or.inl rfl | exact Or.inr rfl)) (pgs_cons (pg_name (i := 4) sc__law_bad_rows.nd rfl (by first | exact Or.inl rfl | exact Or.inr rfl)) pgs_nil))))
      (pss_cons (ps_set (i := 5) sc__law_bad_rows.nd rfl (by first | exact Or.inl rfl | exact Or.inr rfl) (pe_lstN (pa_cons (pe_tupN (pa_cons (pv 3) (pa_cons (pe_op op_add (pv 4) pe_int) pa_nil))) (pa_cons (pe_tupN (pa_cons (pe_op op_add (pv 3) pe_int) (pa_cons (pv 4) pa_nil))) (pa_cons (pe_tupN (pa_cons pe_bl (pa_cons (pe_op op_add (pv 4) pe_int) pa_nil))) (pa_cons (pe_tupN (pa_cons (pe_op op_add (pv 3) pe_int) (pa_cons pe_str pa_nil))) (pa_cons (pe_tupN (pa_cons (pe_op op_add (pv 3) pe_int) pa_nil)) (pa_cons pe_non (pa_cons (pe_lstN (pa_cons pe_int (pa_cons pe_int pa_nil))) pa_nil)))))))))
      (pss_cons (ps_set (i := 5) sc__law_bad_rows.nd rfl (by first | exact Or.inl rfl | exact Or.inr rfl) (pe_ix ix_list (pe_op op_catN (pv 5) (pe_lstN (pa_cons (pe_tupN (pa_cons pe_int (pa_cons pe_int pa_nil))) (pa_cons (pe_tupN (pa_cons (pe_op op_add (pv 3) pe_int) (pa_cons pe_int pa_nil))) (pa_cons (pe_tupN (pa_cons pe_int (pa_cons pe_int pa_nil))) (pa_cons (pe_tupN (pa_cons (pe_un un_neg pe_int) (pa_cons pe_int pa_nil))) (pa_cons (pe_tupN (pa_cons (pe_op op_add (pv 3) pe_int) (pa_cons (pe_op op_add (pv 4) pe_int) (pa_cons pe_int pa_nil)))) (pa_cons pe_int pa_nil)))))))) (pe_cal C__law_take (hr.mono (by decide)) (by rfl) T.g__law_take pL (pa_cons (pv 0) (pa_cons pe_int pa_nil))) (fun _ _ => rfl)))
      (pss_cons (ps_set (i := 6) sc__law_bad_rows.nd rfl (by first | exact Or.inl rfl | exact Or.inr rfl) (pe_cal C__law_take (hr.mono (by decide)) (by rfl) T.g__law_take pL (pa_cons (pv 0) (pa_cons pe_int pa_nil))))
      (pss_cons (ps_if (pt_cmpR op_eq (pv 6) pe_int (nomark _)) (pss_one (ps_ret (pe_ix ix_list (pe_lstN (pa_cons (pe_callTy call_listN (by rfl) T.f_list (by decide +kernel) (pa_cons (pv 1) pa_nil)) (pa_cons pe_non (pa_cons pe_str (pa_cons pe_int (pa_cons pe_dnewN (pa_cons pe_bl pa_nil))))))) (pe_cal C__law_take (hr.mono (by decide)) (by rfl) T.g__law_take pL (pa_cons (pv 0) (pa_cons pe_int pa_nil))) (fun _ _ => rfl)))) pss_nil)
      (pss_cons (ps_if (pt_cmpR op_eq (pv 6) pe_int (nomark _)) (pss_one (ps_ret (pe_callTy call_tupleN (by rfl) T.f_tuple (by decide +kernel) (pa_cons (pe_lc (own := [("_law_k", 7)]) (by rfl) sc__law_bad_rows.nd (pi_range1 (by rfl) T.f_range (pa_cons pe_int pa_nil)) (blkOk_by (own := [("_law_k", 7)]) (N := ["_law_source_here", "_law_rows", "_law_at", "_law_ahead", "_law_share", "_law_odd", "_law_way", "_law_k"]) (sc := defScope s__law_bad_rows) (by decide +kernel)) (fun _ _ _ _ _ => (pg_name (i := 7) sc__law_bad_rows.nd rfl (by first | exact Or.inl rfl | exact Or.inr rfl))) (fun _ _ _ _ _ => pts_nil) (fun _ _ _ _ _ => (pe_tupN (pa_cons (pe_op op_add (pv 7) pe_int) (pa_cons (pe_op op_add (pv 7) pe_int) pa_nil))))) pa_nil)))) pss_nil)
      (pss_one (ps_ret (pe_op op_catTN (pe_op op_catTN (pe_slice sl_tupN (pv 1) po_none (po_some (pv 2))) (pe_tupN (pa_cons (pv 5) pa_nil))) (pe_slice sl_tupN (pv 1) (po_some (pe_op op_add (pv 2) pe_int)) po_none)))))))))))), ?_⟩
    try simp only [kx1, kx2, kx3, kx4, kx5]
    cases td with
    | @tup R xs _ sq ta0 =>
      have ta := ta0.any (B := A1) (flat_rows rs)
      have up : ∀ {X Y : Hp}, Stp [a] X Y → Stp A1 X Y := fun s => s.mono (by simpa using ha1)
      have hl : xs.length = rs.length := by rw [ta.len, List.length_map]
      have hrs : rs.length ≤ 5 ∧ rowsOk 0 0 (rs.map rowD) = true := by
        have := ar
        simp only [areRows, rowsD, List.length_map, Bool.and_eq_true, decide_eq_true_eq] at this
        exact this
      refine ⟨_, rfl, _, rfl, R, xs, rfl, .inr sq, _, _, rfl, ?_⟩
      have hm : (if (xs.length : Int) > 1 then (xs.length : Int) else 1) = max 1 (rs.length : Int) := by rw [hl]; split <;> omega
      rw [hm]
      refine ⟨a, _, rfl, by omega, by omega, sr, fun i H1 i0 i1 sr1 st1 => ?_⟩
      -- the row ahead
      refine ⟨by show 2 ≤ sizeLine; decide, fun q0 G0 n0 => ⟨by show 1 ≤ sizeLine; decide, fun q1 G1 n1 => ?_⟩⟩
      have g1 : Stp [a] H G1 := (st1.trans (n0.s _)).trans (n1.s _)
      have hq0 : SqT K G1 q0 [.int 0, .int 0] := (n1.s []).sqT (SqT.of n0.a)
      have sq1 := g1.sqT sq
      have ta1 := ta.mono (up g1)
      refine ⟨_, rfl, q1, R, _, _, rfl, rfl, SqT.of n1.a, sq1, (by rw [sizeLine_eq]; simp only [List.length_singleton]; omega), fun Z H2 st2 sz => ?_⟩
      have tz : TdAll K A1 H2 ([.ref q0] ++ xs) (((0, 0) :: rs).map rowD) := (TdAll.cons (.tup hq0 (.cons (.int 0) (.cons (.int 0) .nil))) ta1).mono (st2 _)
      obtain ⟨l, s, hls⟩ : ∃ l s, ((0, 0) :: rs)[i.toNat]? = some (l, s) := by
        have : i.toNat < ((0, 0) :: rs : List (Int × Int)).length := by simp only [List.length_cons]; omega
        exact ⟨_, _, List.getElem?_eq_getElem this⟩
      obtain ⟨vz, hvz, tvz⟩ := tz.getD (i := i.toNat) (d := rowD (l, s)) (by rw [List.getElem?_map, hls]; rfl)
      obtain ⟨q, rfl, sqq⟩ := td_row tvz
      have hg : ((0, 0) :: rs).getD i.toNat (0, 0) = (l, s) := by rw [List.getD_eq_getElem?_getD, hls]; rfl
      have RA := rows_at rs i.toNat 0 0 hrs.2 (by omega) (by decide) (by decide)
      rw [hg] at RA
      have l0 : 0 ≤ l := (RA []).2.1
      have s0 : 0 ≤ s := (RA []).2.2
      refine ⟨_, rfl, Z, _, _, .ref q, rfl, rfl, sz, atI_int i0 hvz, q, _, rfl, sqq, rfl, _, _, rfl, _, _, rfl, rfl, ?_⟩
      have st12 : Stp [a] H H2 := g1.trans (st2 _)
      have sr2 : Src H2 a := ((sr1.nw n0).nw n1).st st2
      -- the odd ones
      refine ⟨_, rfl, _, rfl, _, _, rfl, rfl, by show 2 ≤ sizeLine; decide, fun o1 K1 m1 => ?_⟩
      have w1 := (TdAll.nil (K := K) (A := A1)).nw m1 (.cons (.int l) (.cons (.int (s + 1)) .nil))
      refine ⟨_, rfl, _, _, rfl, rfl, _, rfl, by show 2 ≤ sizeLine; decide, fun o2 K2 m2 => ?_⟩
      have w2 := w1.nw m2 (.cons (.int (l + 1)) (.cons (.int s) .nil))
      refine ⟨_, rfl, _, _, rfl, rfl, by show 2 ≤ sizeLine; decide, fun o3 K3 m3 => ?_⟩
      have w3 := w2.nw m3 (.cons (.bl true) (.cons (.int (s + 1)) .nil))
      refine ⟨_, rfl, _, _, rfl, rfl, by show 2 ≤ sizeLine; decide, fun o4 K4 m4 => ?_⟩
      have w4 := w3.nw m4 (.cons (.int (l + 1)) (.cons (.str "9") .nil))
      refine ⟨_, rfl, _, _, rfl, rfl, by show 1 ≤ sizeLine; decide, fun o5 K5 m5 => ?_⟩
      have w5 := (w4.nw m5 (.cons (.int (l + 1)) .nil)).snoc .non
      have r5 := ((((sr2.nw m1).nw m2).nw m3).nw m4).nw m5
      refine ⟨by show 2 ≤ sizeLine; decide, fun o7 K7 m7 => ?_⟩
      have st5 : Stp [a] H K5 := st12.trans ((((((m1.s _).trans (m2.s _)).trans (m3.s _)).trans (m4.s _)).trans (m5.s _)))
      have w7 := w5.nwL m7 (.cons (.int 500) (.cons (.int 50) .nil)) (nw_out hA st5 m7)
      have r7 := r5.nw m7
      have t7 : ∀ A, Stp A H2 K7 := fun A => (((((m1.s A).trans (m2.s _)).trans (m3.s _)).trans (m4.s _)).trans (m5.s _)).trans (m7.s _)
      refine ⟨by show 7 ≤ sizeLine; decide, fun O1 J1 j1 => ?_⟩
      have x0 := w7.mono (j1.s _)
      refine ⟨_, rfl, by show 2 ≤ sizeLine; decide, fun o8 J8 m8 => ?_⟩
      have x1 := x0.nw m8 (.cons (.int 1000) (.cons (.int 50) .nil))
      refine ⟨_, rfl, _, _, rfl, rfl, by show 2 ≤ sizeLine; decide, fun o9 J9 m9 => ?_⟩
      have x2 := x1.nw m9 (.cons (.int (l + 1)) (.cons (.int 101) .nil))
      refine ⟨by show 2 ≤ sizeLine; decide, fun oa Ja ma => ?_⟩
      have x3 := x2.nw ma (.cons (.int 0) (.cons (.int 5) .nil))
      refine ⟨_, rfl, by show 2 ≤ sizeLine; decide, fun ob Jb mb => ?_⟩
      have x4 := x3.nw mb (.cons (.int (-3)) (.cons (.int 5) .nil))
      refine ⟨_, rfl, _, _, rfl, rfl, _, rfl, _, _, rfl, rfl, by show 3 ≤ sizeLine; decide, fun oc Jc mc => ?_⟩
      have x5 := (x4.nw mc (.cons (.int (l + 1)) (.cons (.int (s + 1)) (.cons (.int 0) .nil)))).snoc (.int 7)
      refine ⟨by show 6 ≤ sizeLine; decide, fun O2 J2 j2 => ?_⟩
      have u2 : ∀ A, Stp A J1 J2 := fun A => (((((m8.s A).trans (m9.s _)).trans (ma.s _)).trans (mb.s _)).trans (mc.s _)).trans (j2.s _)
      have rr2 := ((((((r7.nw j1).nw m8).nw m9).nw ma).nw mb).nw mc).nw j2
      refine ⟨O1, O2, _, _, rfl, rfl, SqL.of ((u2 []).k _ _ (by simp) j1.a), SqL.of j2.a, by show 13 ≤ sizeLine; decide, fun O3 J3 j3 => ?_⟩
      have rr3 := rr2.nw j3
      refine ⟨_, rfl, a, 13, rfl, by decide, by decide, rr3, fun r J4 r0 r1 sr4 st4 => ?_⟩
      have y5 := x5.mono ((j2.s A1).trans ((j3.s _).trans (up st4)))
      have na3 := rr2.out j3
      obtain ⟨dd, hdd⟩ : ∃ dd, (oddDs l s)[r.toNat]? = some dd := ⟨_, List.getElem?_eq_getElem (by show r.toNat < 13; omega)⟩
      obtain ⟨vo, hvo, tvo⟩ := y5.getD (i := r.toNat) (d := dd) hdd
      have bad : BadRow l s dd := odd_bad l0 s0 dd (List.mem_of_getElem? hdd)
      refine ⟨O3, _, _, vo, rfl, rfl, SqL.of (st4.k _ _ na3 j3.a), atI_int r0 hvo, ?_⟩
      have sv : Stp [a] H2 J4 := (t7 _).trans ((j1.s _).trans ((u2 _).trans ((j3.s _).trans st4)))
      clear x0 x1 x2 x3 x4 x5 y5 w1 w2 w3 w4 w5 w7
      refine ⟨_, rfl, a, 4, rfl, by decide, by decide, sr4, fun way J5 _ _ sr5 st5' => ?_⟩
      have st15 : Stp [a] H J5 := (st12.trans sv).trans st5'
      have sq5 := st15.sqT sq
      have ta5 := ta.mono (up st15)
      have tv5 := tvo.mono (up st5')
      refine ⟨_, rfl, rfl, _, rfl, ?_⟩
      by_cases hw : way = 0
      · refine if_true_of (by simp [hw]) ?_
        refine ⟨_, rfl, R, xs, rfl, .inr sq5, fun c1 L1 k1 => ?_⟩
        refine fun c2 L2 k2 => ⟨by show 6 ≤ sizeLine; decide, fun c3 L3 k3 => ?_⟩
        have srL := ((sr5.nw k1).nw k2).nw k3
        refine ⟨_, rfl, a, 6, rfl, by decide, by decide, srL, fun z L4 z0 z1 sr6 st6 => ?_⟩
        have stL : Stp [a] L1 L4 := (k2.s _).trans ((k3.s _).trans st6)
        have tl : TdAll K A1 L4 [.ref c1, .non, .str "abc", .int 5, .ref c2, .bl true] [.list (rs.map rowD), .none, .str "abc", .int 5, .dict [], .bool true] :=
          .cons (.lst (SqL.of (stL.k _ _ (sr5.out k1) k1.a)) (nw_out hA st15 k1) (ta5.mono (up ((k1.s _).trans stL)))) (.cons .non (.cons (.str _) (.cons (.int _) (.cons (.dic (((k3.s _).trans st6).k _ _ ((sr5.nw k1).out k2) k2.a) (nw_out hA (st15.trans (k1.s _)) k2)) (.cons (.bl true) .nil)))))
        obtain ⟨de, hde⟩ : ∃ de, [PyData.list (rs.map rowD), .none, .str "abc", .int 5, .dict [], .bool true][z.toNat]? = some de := ⟨_, List.getElem?_eq_getElem (by show z.toNat < 6; omega)⟩
        obtain ⟨ve, hve, tve⟩ := tl.getD hde
        refine ⟨c3, _, _, ve, rfl, rfl, SqL.of (st6.k _ _ (((sr5.nw k1).nw k2).out k3) k3.a), atI_int z0 hve, ?_⟩
        refine kk L4 ve de (st15.trans ((k1.s _).trans stL)) sr6 tve ?_
        have hm := List.mem_of_getElem? hde
        simp only [List.mem_cons, List.not_mem_nil, or_false] at hm
        rcases hm with rfl | rfl | rfl | rfl | rfl | rfl <;> rfl
      · refine if_false_of (by simp [hw]) ?_
        refine ⟨_, rfl, rfl, _, rfl, ?_⟩
        by_cases hw1 : way = 1
        · refine if_true_of (by simp [hw1]) ?_
          refine ⟨6, rfl, by decide, by decide, fun D hD => lc_range (lo := 0) (n := 6) (fun i H' => Stp [] J5 H' ∧ ∃ vs ds, H' D = some (.lst vs) ∧ TdAll K A1 H' vs ds ∧ ds.length = i ∧ flatDs ds = true) ⟨.new hD, [], [], upd_same, .nil, rfl, rfl⟩ ?_ ?_⟩
          · rintro i H' hi ⟨st, vs, ds, hd, td, hl2, hf⟩
            refine ⟨rfl, _, rfl, _, _, rfl, rfl, _, rfl, _, _, rfl, rfl, by show 2 ≤ sizeLine; decide, fun t G n => ⟨vs, (n.s []).k _ _ (by simp) hd, (by rw [sizeLine_eq, td.len]; omega), ?_⟩⟩
            have hd2 := (n.s []).k _ _ (by simp) hd
            have w : Wr G (upd G D (.lst (vs ++ [.ref t]))) D (.lst (vs ++ [.ref t])) := .mk' hd2
            refine ⟨(st.trans (n.s _)).putNew hd2 hD, _, ds ++ [.tuple [.int (0 + (i : Int) + 1), .int (0 + (i : Int) + 1)]], w.a, ?_, by simp [hl2], by rw [flatDs_app, hf]; rfl⟩
            exact (td.nw n (.cons (.int _) (.cons (.int _) .nil))).flatMono (by rw [flatDs_app, hf]; rfl) w.s
          · rintro H' ⟨st, vs, ds, hd, td, hl2, hf⟩
            refine ⟨D, vs, rfl, .inl (SqL.of hd), fun z H'' sz sq => ?_⟩
            exact kk H'' _ (.tuple ds) ((st15.trans st.of_nil).trans (sz _)) ((sr5.keep st (by simp)).st sz) (.tup sq (td.mono (sz _))) (by simp [areRows, hl2])
        · refine if_false_of (by simp [hw1]) ?_
          refine ⟨_, rfl, _, rfl, i, rfl, R, xs, rfl, sq5, fun p1 M1 s1 z1 => ?_⟩
          refine ⟨_, rfl, by show 1 ≤ sizeLine; decide, fun p2 M2 n2 => ?_⟩
          rw [cutV_to i0] at z1
          refine ⟨p1, p2, _, _, rfl, rfl, (n2.s []).sqT z1, SqT.of n2.a, (by rw [sizeLine_eq]; simp only [List.length_take, List.length_singleton]; omega), fun p3 M3 s3 z3 => ?_⟩
          have m3 : ∀ A, Stp A J5 M3 := fun A => ((s1 A).trans (n2.s _)).trans (s3 _)
          refine ⟨_, rfl, _, rfl, _, _, rfl, rfl, _, rfl, R, xs, rfl, (m3 []).sqT sq5, fun p4 M4 s4 z4 => ?_⟩
          rw [cutV_from (by omega)] at z4
          refine ⟨p3, p4, _, _, rfl, rfl, (s4 []).sqT z3, z4, (by rw [sizeLine_eq]; simp only [List.length_append, List.length_take, List.length_singleton, List.length_drop]; omega), fun p5 M5 s5 z5 => ?_⟩
          have m5' : ∀ A, Stp A J5 M5 := fun A => ((m3 A).trans (s4 _)).trans (s5 _)
          refine kk M5 _ (.tuple (((rs.map rowD).take i.toNat ++ [dd]) ++ (rs.map rowD).drop (i + 1).toNat)) (st15.trans (m5' _)) (sr5.st m5') (.tup z5 ((((ta5.take _).snoc tv5).app (ta5.drop _)).mono (m5' _))) ?_
          have e : rowsOk 0 0 (((rs.map rowD).take i.toNat ++ [dd]) ++ (rs.map rowD).drop (i + 1).toNat) = false := by
            rw [List.append_assoc, ← List.map_take, (RA _).1]
            exact bad _
          show (decide _ && rowsOk 0 0 _) = false
          rw [e, Bool.and_false]
def spPaidRight (K : PySem.W.Frag) : Sp := fun vs H Q _ => ∃ (a x : Addr) (v1 v2 v : V) (rs : List (Int × Int)), vs = [.ref a, .ref x, v] ∧ Src H a ∧ RulesAt K H x v1 v2 v ∧ Td K [a] H v (rowsD rs) ∧ rs.length ≤ 5 ∧ ∀ H', Stp [a] H H' → Src H' a → Q (.bl true) H'
theorem RulesAt.keep {K : PySem.W.Frag} {A : List Addr} {H H1 : Hp} {x : Addr} {v1 v2 v3 : V} (h : RulesAt K H x v1 v2 v3) (s : Stp A H H1) (n : x ∉ A) : RulesAt K H1 x v1 v2 v3 := by
  obtain ⟨dx, fs, h1, h2⟩ := h.ex
  exact ⟨dx, fs, s.k _ _ n h1, h2⟩
theorem RulesAt.ne {K : PySem.W.Frag} {H : Hp} {x a : Addr} {v1 v2 v3 : V} (h : RulesAt K H x v1 v2 v3) (s : Src H a) : x ∉ [a] := by
  obtain ⟨dx, fs, h1, h2⟩ := h.ex
  obtain ⟨_, _, _, h3⟩ := s
  intro e
  have e : x = a := by simpa using e
  subst e
  rw [h1] at h3
  cases h3
theorem ok__law_paid_right {P : Program} {w : World} {K : PySem.W.Frag} {mg : Str → Option Value} {base : Heap} {fd : FuncData} (T : Txt K mg) (F : FunD K "_law_paid_right" "_law_paid_right" (defArgs s__law_paid_right) (defBody s__law_paid_right) (defScope s__law_paid_right) [] [] (He.ga K "_law_paid_right") fd)
    (C__law_take : Cal P w K mg base 2 (He.ga K "_law_take") ["_law_source_here", "_law_many"] (spTake))
    (C_paid_back : Cal P w K mg base 1 (He.ga K "paid_back") ["rules", "promised", "came"] (spPaid K))
    (K_paid_back_0_came_promised_rules : CalK P w K mg base 1 (He.ga K "paid_back") ["rules", "promised", "came"] (spPaid K) 0 ["came", "promised", "rules"] (fun us ws => (ws.drop 2).take 1 ++ ((ws.drop 1).take 1 ++ ((ws.drop 0).take 1))))
    (C__law_due : Cal P w K mg base 1 (He.ga K "_law_due") ["_law_rows", "_law_more"] (spDue K)) : FnOk P w K mg base (L2.CX P w) 3 (He.ga K "_law_paid_right") fd ["_law_source_here", "_law_one", "_law_rows"] (spPaidRight K) := by
  refine FunD.ok F sc__law_paid_right (fun vs H Q E h => ?_) (fun cdv A outer s H vs Q E hr h => ?_)
  · obtain ⟨a, x, v1, v2, v, rs, rfl, sr, ru, td, hrs, kk⟩ := h
    rfl
  · obtain ⟨a, x, v1, v2, v, rs, rfl, sr, ru, td, hrs, kk⟩ := h
    refine ⟨_, (PSs.nox (pss_cons (ps_for PassesOwn.never (by rfl) (pi_list (pe_op op_catN (pe_callTy call_listN (by rfl) T.f_list (by decide +kernel) (pa_cons (pv 2) pa_nil)) (pe_lstN (pa_cons (pe_tupN (pa_cons pe_int (pa_cons pe_int pa_nil))) (pa_cons (pe_tupN (pa_cons (pe_op op_sub (pe_cal C__law_take (hr.mono (by decide)) (by rfl) T.g__law_take pL (pa_cons (pv 0) (pa_cons pe_int pa_nil))) pe_int) (pa_cons pe_int pa_nil))) pa_nil))))) (pg_tup (n := 2) (by rfl) (pgs_cons (pg_name (i := 3) sc__law_paid_right.nd rfl (by first | exact Or.inl rfl | exact Or.inr rfl)) (pgs_cons (pg_name (i := 4) sc__law_paid_right.nd rfl (by first | exact Or.inl rfl | exact Or.inr rfl)) pgs_nil))) (pss_one (ps_for PassesOwn.never (by rfl) (pi_list (pe_lstN (pa_cons (pe_op op_sub (pv 3) pe_int) (pa_cons (pv 3) (pa_cons (pe_op op_add (pv 3) pe_int) pa_nil))))) (pg_name (i := 5) sc__law_paid_right.nd rfl (by first | exact Or.inl rfl | exact Or.inr rfl)) (pss_cons (ps_set (i := 6) sc__law_paid_right.nd rfl (by first | exact Or.inl rfl | exact Or.inr rfl) (pe_cal C__law_take (hr.mono (by decide)) (by rfl) T.g__law_take pL (pa_cons (pv 0) (pa_cons pe_int pa_nil))))
      (pss_cons (ps_set (i := 7) sc__law_paid_right.nd rfl (by first | exact Or.inl rfl | exact Or.inr rfl) (pe_cal C_paid_back (hr.mono (by decide)) (by rfl) T.g_paid_back pL (pa_cons (pv 1) (pa_cons (pv 6) (pa_cons (pe_op op_add (pv 6) (pv 5)) pa_nil)))))
      (pss_cons (ps_if (PW.pt (pw_or (pt_cmpR op_ne (pv 7) (pe_cal C__law_due (hr.mono (by decide)) (by rfl) T.g__law_due pL (pa_cons (pv 2) (pa_cons (pv 5) pa_nil))) (nomark _)) (pw_or1 (pt_val (pe_callB (call_isD (T := "bool") (by decide)) (by rfl) T.f_isinstance (by decide +kernel) (pa_cons (pv 7) (pa_cons (pe_bltn (v := .ty "bool") (by rfl) T.f_bool (by decide +kernel) rfl) pa_nil))))))) (pss_one (ps_ret pe_bl)) pss_nil)
      (pss_one (ps_if (pt_cmpR op_ne (pe_calK0 K_paid_back_0_came_promised_rules (hr.mono (by decide)) (by rfl) T.g_paid_back pL (pk_cons (pe_op op_add (pv 6) (pv 5)) (pk_cons (pv 6) (pk_cons (pv 1) pk_nil)))) (pv 7) (nomark _)) (pss_one (ps_ret pe_bl)) pss_nil))))))))
      (pss_one (ps_ret pe_bl)))), ?_⟩
    try simp only [kx1, kx2, kx3, kx4, kx5]
    have nx := ru.ne sr
    cases id td with
    | @tup R xs _ sq ta =>
      have hl : xs.length = rs.length := by rw [ta.len, List.length_map]
      refine ⟨_, rfl, R, xs, rfl, .inr sq, fun l1 H1 n1 => ?_⟩
      refine ⟨by show 2 ≤ sizeLine; decide, fun t1 H2 n2 => ?_⟩
      have s2 := (sr.nw n1).nw n2
      refine ⟨_, rfl, a, 2000, rfl, by decide, by decide, s2, fun r H3 r0 r1 s3 st3 => ⟨_, _, rfl, rfl, by show 2 ≤ sizeLine; decide, fun t2 H4 n4 => ?_⟩⟩
      refine ⟨by show 2 ≤ sizeLine; decide, fun l2 H5 n5 => ?_⟩
      have w5 : Stp [a] H1 H5 := (n2.s _).trans (st3.trans ((n4.s _).trans (n5.s _)))
      have s5 := (s3.nw n4).nw n5
      refine ⟨l1, l2, _, _, rfl, rfl, SqL.of (w5.k _ _ (sr.out n1) n1.a), SqL.of n5.a, (by rw [sizeLine_eq]; simp only [List.length_cons, List.length_nil]; omega), fun L H6 n6 => ?_⟩
      have st6 : Stp [a] H H6 := (n1.s _).trans (w5.trans (n6.s _))
      have s6 := s5.nw n6
      have t6 : TdAll K [a] H6 (xs ++ [.ref t1, .ref t2]) (((rs ++ [(0, 0), (r - 500, 0)])).map rowD) := by
        rw [List.map_append]
        exact (ta.mono st6).app (.cons (.tup ((st3.trans ((n4.s _).trans ((n5.s _).trans (n6.s _)))).sqT (SqT.of n2.a)) (.cons (.int 0) (.cons (.int 0) .nil))) (.cons (.tup (((n5.s []).trans (n6.s _)).sqT (SqT.of n4.a)) (.cons (.int _) (.cons (.int 0) .nil))) .nil))
      have nL := s5.out n6
      refine ⟨L, rfl, ⟨_, SqL.of n6.a⟩, for_list (K := K) (a := L) (xs := xs ++ [.ref t1, .ref t2]) (fun i σ H' => ∃ q3 q4 q5 q6 q7, σ = [some (.ref a), some (.ref x), some (.ref R), q3, q4, q5, q6, q7] ∧ Stp [a] H6 H' ∧ Src H' a)
        ⟨none, none, none, none, none, rfl, .refl _, s6⟩ (fun i σ H' _ ⟨_, _, _, _, _, _, st, _⟩ => SqL.of (st.k _ _ nL n6.a)) ?_ ?_⟩
      · rintro i y σ H' hy ⟨q3, q4, q5, q6, q7, rfl, st, s7⟩
        obtain ⟨di, hdi, tdi⟩ := t6.get hy
        rw [List.getElem?_map] at hdi
        obtain ⟨⟨l, s⟩, hr2, rfl⟩ := Option.map_eq_some_iff.mp hdi
        obtain ⟨q, rfl, sq2⟩ := td_row (tdi.mono st)
        refine ⟨q, _, rfl, sq2, rfl, _, _, rfl, _, _, rfl, rfl, ?_⟩
        refine ⟨_, rfl, _, _, rfl, rfl, _, rfl, _, rfl, _, _, rfl, rfl, by show 3 ≤ sizeLine; decide, fun M H8 n8 => ?_⟩
        have s8 := s7.nw n8
        have nM := s7.out n8
        refine ⟨M, rfl, ⟨_, SqL.of n8.a⟩, for_list (K := K) (a := M) (xs := [.int (l - 1), .int l, .int (l + 1)]) (fun i σ H' => ∃ q5 q6 q7, σ = [some (.ref a), some (.ref x), some (.ref R), some (.int l), some (.int s), q5, q6, q7] ∧ Stp [a] H8 H' ∧ Src H' a)
          ⟨_, _, _, rfl, .refl _, s8⟩ (fun i σ H' _ ⟨_, _, _, _, st, _⟩ => SqL.of (st.k _ _ nM n8.a)) ?_ ?_⟩
        · rintro j z σ H9 hz ⟨q5, q6, q7, rfl, st9, s9⟩
          obtain ⟨m, rfl⟩ : ∃ m, z = .int m := by
            have := List.mem_of_getElem? hz
            simp only [List.mem_cons, List.not_mem_nil, or_false] at this
            rcases this with rfl | rfl | rfl <;> exact ⟨_, rfl⟩
          refine ⟨_, rfl, a, 2000, rfl, by decide, by decide, s9, fun p H10 _ _ s10 st10 => ?_⟩
          have sA : Stp [a] H H10 := st6.trans (st.trans ((n8.s _).trans (st9.trans st10)))
          have ruA := ru.keep sA nx
          have tdA := td.mono sA
          have e1 : paid rs (p + m - p) 0 = paid rs m 0 := by rw [show p + m - p = m by omega]
          refine ⟨_, rfl, _, rfl, _, rfl, _, rfl, _, _, rfl, rfl, x, v1, v2, _, [a], rs, p, p + m, rfl, ruA, tdA, ?_⟩
          rw [e1]
          refine ⟨_, rfl, _, rfl, _, rfl, _, [a], rs, m, rfl, tdA, rfl, _, rfl, ?_⟩
          refine if_false_of (by simp) ⟨_, rfl, _, [a], _, rfl, .int _, _, rfl, ?_⟩
          refine if_false_of rfl ?_
          refine ⟨_, rfl, _, rfl, _, _, rfl, rfl, _, rfl, _, rfl, rfl, rfl, x, v1, v2, _, [a], rs, p, p + m, rfl, ruA, tdA, ?_⟩
          rw [e1]
          refine ⟨_, rfl, rfl, _, rfl, if_false_of (by simp) ?_⟩
          exact ⟨_, _, _, rfl, st9.trans st10, s10⟩
        · rintro σ H9 ⟨q5, q6, q7, rfl, st9, s9⟩
          exact ⟨_, _, _, _, _, rfl, st.trans ((n8.s _).trans st9), s9⟩
      · rintro σ H' ⟨q3, q4, q5, q6, q7, rfl, st, s7⟩
        exact kk H' (st6.trans st) s7
def usualD : PyData := rowsD [(30, 25), (60, 50), (120, 100)]
def spLaw (K : PySem.W.Frag) : Sp := fun vs H Q _ => ∃ (a : Addr) (ns : List Int), vs = [.ref a] ∧ SqL K H a (ns.map V.int) ∧ ns.length ≤ 63 ∧ ∀ H', Q (.bl true) H'
theorem good_none {t u : Int} {d : PyData} (h1 : 1 ≤ t) (h2 : t ≤ 999) (h3 : 0 ≤ u) (h4 : u ≤ 999) (h5 : areRows d = true) : rulesBad (.int t) (.int u) d = none := by
  have e1 : isFrom (.int t) 1 999 = true := by simp [isFrom]; omega
  have e2 : isFrom (.int u) 0 999 = true := by simp [isFrom]; omega
  simp [rulesBad, e1, e2, h5]
theorem from_late {t : Int} (h1 : 1 ≤ t) (h2 : t ≤ 999) : isFrom (.int t) 1 999 = true := by simp [isFrom]; omega
theorem from_wait {t : Int} (h1 : 0 ≤ t) (h2 : t ≤ 999) : isFrom (.int t) 0 999 = true := by simp [isFrom]; omega
theorem sh_rowsD (rs : List (Int × Int)) : Sh 2 (rowsD rs) := sh_tuple (sh_rows rs)
theorem nodic_rowsD (rs : List (Int × Int)) : nodic (rowsD rs) = true := nodic_rows rs
theorem ok_law {P : Program} {w : World} {K : PySem.W.Frag} {mg : Str → Option Value} {base : Heap} {fd : FuncData} (T : Txt K mg) (F : FunD K "law" "law" (defArgs s_law) (defBody s_law) (defScope s_law) [] [] (He.ga K "law") fd)
    (C__law_refused : Cal P w K mg base 6 (He.ga K "_law_refused") ["_law_parts_here"] (spRefused K))
    (C__law_bad_rows : Cal P w K mg base 3 (He.ga K "_law_bad_rows") ["_law_source_here", "_law_rows"] (spBad K))
    (C__law_take : Cal P w K mg base 2 (He.ga K "_law_take") ["_law_source_here", "_law_many"] (spTake))
    (K_Rules_init_0_ : CalK P w K mg base 4 (He.ma K (He.ga K "Rules") "__init__") ["self", "late", "wait", "back"] (spRulesInit K) 1 [] (fun us ws => (us.drop 0).take 1 ++ ((([.int 30, .int 60, .ref ((kwAt ("Rules", some "__init__") "back") K)] : List V).drop 0).take 1 ++ ((([.int 30, .int 60, .ref ((kwAt ("Rules", some "__init__") "back") K)] : List V).drop 1).take 1 ++ ((([.int 30, .int 60, .ref ((kwAt ("Rules", some "__init__") "back") K)] : List V).drop 2).take 1)))))
    (K_Rules_init_0_late : CalK P w K mg base 4 (He.ma K (He.ga K "Rules") "__init__") ["self", "late", "wait", "back"] (spRulesInit K) 1 ["late"] (fun us ws => (us.drop 0).take 1 ++ ((ws.drop 0).take 1 ++ ((([.int 60, .ref ((kwAt ("Rules", some "__init__") "back") K)] : List V).drop 0).take 1 ++ ((([.int 60, .ref ((kwAt ("Rules", some "__init__") "back") K)] : List V).drop 1).take 1)))))
    (K_Rules_init_0_wait : CalK P w K mg base 4 (He.ma K (He.ga K "Rules") "__init__") ["self", "late", "wait", "back"] (spRulesInit K) 1 ["wait"] (fun us ws => (us.drop 0).take 1 ++ ((([.int 30, .ref ((kwAt ("Rules", some "__init__") "back") K)] : List V).drop 0).take 1 ++ ((ws.drop 0).take 1 ++ ((([.int 30, .ref ((kwAt ("Rules", some "__init__") "back") K)] : List V).drop 1).take 1)))))
    (K_Rules_init_0_late_wait_back : CalK P w K mg base 4 (He.ma K (He.ga K "Rules") "__init__") ["self", "late", "wait", "back"] (spRulesInit K) 1 ["late", "wait", "back"] (fun us ws => (us.drop 0).take 1 ++ ((ws.drop 0).take 1 ++ ((ws.drop 1).take 1 ++ ((ws.drop 2).take 1)))))
    (C__law_paid_right : Cal P w K mg base 3 (He.ga K "_law_paid_right") ["_law_source_here", "_law_one", "_law_rows"] (spPaidRight K))
    (C__law_parts : Cal P w K mg base 3 (He.ga K "_law_parts") ["_law_source_here"] (spParts K))
    (C__law_source : Cal P w K mg base 1 (He.ga K "_law_source") ["_law_cell"] (spSource)) : FnOk P w K mg base (L2.CX P w) 7 (He.ga K "law") fd ["_law_script"] (spLaw K) := by
  refine FunD.ok F sc_law (fun vs H Q E h => ?_) (fun cdv A outer s H vs Q E hr h => ?_)
  · obtain ⟨a, ns, rfl, hS, hlen, kk⟩ := h
    rfl
  · obtain ⟨a, ns, rfl, hS, hlen, kk⟩ := h
    refine ⟨_, (PSs.nox (pss_cons (ps_for PassesOwn.never (by rfl) (pi_list (pe_slice sl_listN (pe_op op_catN (pv 0) (pe_lstN (pa_cons pe_int pa_nil))) po_none (po_some pe_int))) (pg_name (i := 1) sc_law.nd rfl (by first | exact Or.inl rfl | exact Or.inr rfl)) (pss_cons (ps_set (i := 2) sc_law.nd rfl (by first | exact Or.inl rfl | exact Or.inr rfl) (pe_cal C__law_source (hr.mono (by decide)) (by rfl) T.g__law_source pL (pa_cons (pv 1) pa_nil)))
      (pss_cons (ps_asg (pe_cal C__law_parts (hr.mono (by decide)) (by rfl) T.g__law_parts pL (pa_cons (pv 2) pa_nil)) (pg_lst (n := 3) (by rfl) (pgs_cons (pg_name (i := 3) sc_law.nd rfl (by first | exact Or.inl rfl | exact Or.inr rfl)) (pgs_cons (pg_name (i := 4) sc_law.nd rfl (by first | exact Or.inl rfl | exact Or.inr rfl)) (pgs_cons (pg_name (i := 5) sc_law.nd rfl (by first | exact Or.inl rfl | exact Or.inr rfl)) pgs_nil)))))
      (pss_cons (ps_set (i := 6) sc_law.nd rfl (by first | exact Or.inl rfl | exact Or.inr rfl) (pe_mk0 T.mk_Rules K_Rules_init_0_late_wait_back (hr.mono (by decide)) (by rfl) T.g_Rules pL (pk_cons (pv 3) (pk_cons (pv 4) (pk_cons (pv 5) pk_nil)))))
      (pss_cons (ps_if (PW.pt (pw_or (pt_cmpR (op_neD hr.units) (pe_lstN (pa_cons (pe_fld (pv 6) rfl) (pa_cons (pe_fld (pv 6) rfl) (pa_cons (pe_fld (pv 6) rfl) pa_nil)))) (pe_lstN (pa_cons (pv 3) (pa_cons (pv 4) (pa_cons (pv 5) pa_nil)))) (nomark _)) (pw_or1 (pt_not (pt_val (pe_cal C__law_paid_right (hr.mono (by decide)) (by rfl) T.g__law_paid_right pL (pa_cons (pv 2) (pa_cons (pv 6) (pa_cons (pv 5) pa_nil))))))))) (pss_one (ps_ret pe_bl)) pss_nil)
      (pss_cons (ps_if (PW.pt (pw_or (pt_cmpR (op_eqI (hu_of hr)) (pv 6) (pe_mk0 T.mk_Rules K_Rules_init_0_late_wait_back (hr.mono (by decide)) (by rfl) T.g_Rules pL (pk_cons (pv 3) (pk_cons (pv 4) (pk_cons (pv 5) pk_nil)))) (nomark _)) (pw_or (pt_not (pt_cmpR (op_eqI (hu_of hr)) (pv 6) (pv 6) (nomark _))) (pw_or1 (pt_cmpR (op_neI (hu_of hr)) (pv 6) (pv 6) (nomark _)))))) (pss_one (ps_ret pe_bl)) pss_nil)
      (pss_cons (ps_set (i := 7) sc_law.nd rfl (by first | exact Or.inl rfl | exact Or.inr rfl) (pe_lstN (pa_cons pe_int (pa_cons pe_int (pa_cons (pe_tupN (pa_cons (pe_tupN (pa_cons pe_int (pa_cons pe_int pa_nil))) (pa_cons (pe_tupN (pa_cons pe_int (pa_cons pe_int pa_nil))) (pa_cons (pe_tupN (pa_cons pe_int (pa_cons pe_int pa_nil))) pa_nil)))) pa_nil)))))
      (pss_cons (ps_if (pt_cmpR (op_neD hr.units) (pe_lstN (pa_cons (pe_fld (pe_mk0 T.mk_Rules K_Rules_init_0_wait (hr.mono (by decide)) (by rfl) T.g_Rules pL (pk_cons (pv 4) pk_nil)) rfl) (pa_cons (pe_fld (pe_mk0 T.mk_Rules K_Rules_init_0_late (hr.mono (by decide)) (by rfl) T.g_Rules pL (pk_cons (pv 3) pk_nil)) rfl) (pa_cons (pe_fld (pe_mk0 T.mk_Rules K_Rules_init_0_ (hr.mono (by decide)) (by rfl) T.g_Rules pL pk_nil) rfl) pa_nil)))) (pv 7) (nomark _)) (pss_one (ps_ret pe_bl)) pss_nil)
      (pss_cons (ps_set (i := 8) sc_law.nd rfl (by first | exact Or.inl rfl | exact Or.inr rfl) (pe_lstN (pa_cons (pv 3) (pa_cons (pv 4) (pa_cons (pv 5) pa_nil)))))
      (pss_cons (ps_set (i := 9) sc_law.nd rfl (by first | exact Or.inl rfl | exact Or.inr rfl) (pe_callB (cr_sortedSet (by rfl)) (by rfl) T.f_sorted (by decide +kernel) (pa_cons (pe_callTy (call_setL (by rfl)) (by rfl) T.f_set (by decide +kernel) (pa_cons (pe_lc (own := [("_law_k", 10)]) (by rfl) sc_law.nd (pi_range1 (by rfl) T.f_range (pa_cons (pe_op op_add pe_int (pe_cal C__law_take (hr.mono (by decide)) (by rfl) T.g__law_take pL (pa_cons (pv 2) (pa_cons pe_int pa_nil)))) pa_nil)) (blkOk_by (own := [("_law_k", 10)]) (N := ["_law_script", "_law_cell", "_law_source_here", "_law_tardy", "_law_resting", "_law_tiers", "_law_one", "_law_usual", "_law_bad", "_law_some", "_law_k", "_law_at"]) (sc := defScope s_law) (by decide +kernel)) (fun _ _ _ _ _ => (pg_name (i := 10) sc_law.nd rfl (by first | exact Or.inl rfl | exact Or.inr rfl))) (fun _ _ _ _ _ => pts_nil) (fun _ _ _ _ _ => (pe_cal C__law_take (hr.mono (by decide)) (by rfl) T.g__law_take pL (pa_cons (pv 2) (pa_cons pe_int pa_nil))))) pa_nil)) pa_nil)))
      (pss_cons (ps_for PassesOwn.never (by rfl) (pi_list (pv 9)) (pg_name (i := 11) sc_law.nd rfl (by first | exact Or.inl rfl | exact Or.inr rfl)) (pss_cons (ps_asg (pe_ix ix_list (pe_lstN (pa_cons (pe_ix ix_list (pe_lstN (pa_cons pe_int (pa_cons pe_int pa_nil))) (pe_op op_mod (pv 11) pe_int) (fun _ _ => rfl)) (pa_cons (pe_un un_neg pe_int) (pa_cons pe_int (pa_cons pe_bl (pa_cons pe_non (pa_cons pe_str (pa_cons (pe_lstN (pa_cons pe_int pa_nil)) pa_nil)))))))) (pe_cal C__law_take (hr.mono (by decide)) (by rfl) T.g__law_take pL (pa_cons (pv 2) (pa_cons pe_int pa_nil))) (fun _ _ => rfl)) (pg_sub (pv 8) (pv 11) set_list))
      (pss_one (ps_if (pt_cmpR op_eq (pv 11) pe_int (nomark _)) (pss_one (ps_asg (pe_cal C__law_bad_rows (hr.mono (by decide)) (by rfl) T.g__law_bad_rows pL (pa_cons (pv 2) (pa_cons (pv 5) pa_nil))) (pg_sub (pv 8) pe_int set_list))) pss_nil))))
      (pss_one (ps_if (pt_cmpR op_ne (pe_cal C__law_refused (hr.mono (by decide)) (by rfl) T.g__law_refused pL (pa_cons (pv 8) pa_nil)) (pe_ix ix_list (pe_lstN (pa_cons pe_str (pa_cons pe_str (pa_cons pe_str pa_nil)))) (pe_ix ix_list (pv 9) pe_int (fun _ _ => rfl)) (fun _ _ => rfl)) (nomark _)) (pss_one (ps_ret pe_bl)) pss_nil)))))))))))))
      (pss_one (ps_ret pe_bl)))), ?_⟩
    try simp only [kx1, kx2, kx3, kx4, kx5]
    refine ⟨_, rfl, by show 1 ≤ sizeLine; decide, fun z1 G1 n1 => ?_⟩
    refine ⟨a, z1, _, _, rfl, rfl, (n1.s []).sqL hS (by simp), SqL.of n1.a, (by rw [sizeLine_eq]; simp only [List.length_map, List.length_singleton]; omega), fun z2 G2 n2 => ?_⟩
    refine ⟨_, rfl, z2, _, rfl, SqL.of n2.a, fun L G3 n3 => ?_⟩
    have hcells : cutV (ns.map V.int ++ [.int 0]) none (some 10) = ((ns ++ [0]).take 10).map V.int := by
      rw [cutV_to (by decide), List.map_take, List.map_append]; rfl
    rw [hcells] at n3
    refine ⟨L, rfl, ⟨_, SqL.of n3.a⟩, for_list (K := K) (a := L) (xs := ((ns ++ [0]).take 10).map V.int) (fun i σ H' => Stp [] G3 H' ∧ ∃ q1 q2 q3 q4 q5 q6 q7 q8 q9 q10 q11, σ = [some (.ref a), q1, q2, q3, q4, q5, q6, q7, q8, q9, q10, q11])
      ⟨.refl _, _, _, _, _, _, _, _, _, _, _, _, rfl⟩ (fun i σ H' _ ⟨st, _⟩ => SqL.of (st.k _ _ (by simp) n3.a)) ?_ (fun σ H' _ => kk H')⟩
    rintro i y σ H0 hy ⟨st0, q1, q2, q3, q4, q5, q6, q7, q8, q9, q10, q11, rfl⟩
    obtain ⟨c, _, rfl⟩ := List.mem_map.mp (List.mem_of_getElem? hy)
    clear hy
    -- the source
    refine ⟨_, rfl, c, rfl, fun p hp => ?_⟩
    have w1 : Nw H0 (upd H0 p (.lst [.int c, .int c, .int 0])) p (.lst [.int c, .int c, .int 0]) := .mk' hp
    have sr1 : Src (upd H0 p (.lst [.int c, .int c, .int 0])) p := ⟨_, _, _, w1.a⟩
    have b1 : ∀ A, Stp A H0 (upd H0 p (.lst [.int c, .int c, .int 0])) := w1.s
    generalize upd H0 p (.lst [.int c, .int c, .int 0]) = H1 at sr1 b1 ⊢
    clear w1
    -- the parts
    refine ⟨_, rfl, p, rfl, sr1, fun H2 q t u v rs st2 sr2 hq0 hq td t1 t2 u1 u2 ar => ?_⟩
    refine ⟨q, _, rfl, SqL.of hq, rfl, _, _, rfl, _, _, rfl, _, _, rfl, rfl, ?_⟩
    have hrs : rs.length ≤ 5 := by
      have := ar
      simp only [areRows, rowsD, List.length_map, Bool.and_eq_true, decide_eq_true_eq] at this
      exact this.1
    have gn := good_none t1 t2 u1 u2 ar
    -- the rules
    refine ⟨_, rfl, _, rfl, _, rfl, rfl, rfl, fun x dx nx nd ne => ?_⟩
    have mx : ∀ A, Stp A H2 (upd (upd H2 dx (.own x)) x (.ins (He.ga K "Rules") dx [])) := fun A => .made nx nd ne
    refine ⟨x, dx, .int t, .int u, v, [p], .int t, .int u, rowsD rs, rfl, upd_same, .int t, .int u, td.mono (mx _), fun _ H3 st3 ru => ⟨rfl, ?_⟩, fun z e => by rw [gn] at e; cases e⟩
    have nxp : x ∉ [p] := by simpa using sr2.ne nx
    have s23 : ∀ A, Stp A H2 H3 := fun A => ((mx []).back st3 nx).of_nil
    have td3 := td.mono (s23 _)
    have sr3 := sr2.st s23
    have st13 : Stp [p] H1 H3 := st2.trans (s23 _)
    clear mx st3
    obtain ⟨dx2, fs, hx, l1, l2, l3⟩ := id ru
    -- the fields
    refine ⟨_, rfl, x, _, dx2, fs, _, rfl, hx, T.cl_Rules, T.n_Rules_late, l1, _, rfl, x, _, dx2, fs, _, rfl, hx, T.cl_Rules, T.n_Rules_wait, l2, _, rfl, x, _, dx2, fs, _, rfl, hx, T.cl_Rules, T.n_Rules_back, l3, by show 3 ≤ sizeLine; decide, fun e1 H4 n4 => ?_⟩
    refine ⟨_, rfl, _, rfl, _, rfl, by show 3 ≤ sizeLine; decide, fun e2 H5 n5 => ?_⟩
    have s35 : ∀ A, Stp A H3 H5 := fun A => (n4.s A).trans (n5.s _)
    have td5 := td3.mono (s35 _)
    have dl : ∀ e, SqL K H5 e [.int t, .int u, v] → Dp K H5 (.ref e) (.list [.int t, .int u, rowsD rs]) := fun e h => .lst h (.cons (.int t) (.cons (.int u) (.cons (td5.dp (nodic_rowsD rs)) .nil)))
    have shd : Sh 3 (.list [.int t, .int u, rowsD rs]) := sh_list fun d hd => by
      simp only [List.mem_cons, List.not_mem_nil, or_false] at hd
      rcases hd with rfl | rfl | rfl
      · exact sh_int _
      · exact sh_int _
      · exact sh_rowsD rs
    refine ⟨_, _, dl e1 (SqL.of ((n5.s []).k _ _ (by simp) n4.a)), dl e2 (SqL.of n5.a), sh_ok shd (by decide), sh_ok shd (by decide), _, rfl, ?_⟩
    refine if_false_of (by rw [eqv_self shd]; rfl) ?_
    have sr5 := sr3.st s35
    have ru5 := ru.keep (s35 []) (by simp)
    refine ⟨_, rfl, _, rfl, _, rfl, p, x, _, _, v, rs, rfl, sr5, ru5, td5, hrs, fun H6 st6 sr6 => ⟨_, rfl, ?_⟩⟩
    refine if_false_of rfl ?_
    have ru6 := ru5.keep st6 nxp
    have td6 := td5.mono st6
    have st16 : Stp [p] H1 H6 := (st13.trans (s35 _)).trans st6
    clear dl td5 ru5 sr5
    -- two made alike are two
    refine ⟨_, rfl, _, rfl, _, rfl, _, rfl, rfl, rfl, fun x2 dx3 nx2 nd2 ne2 => ?_⟩
    have mx2 : ∀ A, Stp A H6 (upd (upd H6 dx3 (.own x2)) x2 (.ins (He.ga K "Rules") dx3 [])) := fun A => .made nx2 nd2 ne2
    refine ⟨x2, dx3, .int t, .int u, v, [p], .int t, .int u, rowsD rs, rfl, upd_same, .int t, .int u, td6.mono (mx2 _), fun _ H7 st7 ru7 => ⟨rfl, ?_⟩, fun z e => by rw [gn] at e; cases e⟩
    have s67 : ∀ A, Stp A H6 H7 := fun A => ((mx2 []).back st7 nx2).of_nil
    clear mx2 st7
    have rux := ru6.keep (s67 []) (by simp)
    obtain ⟨d1, f1, hx1, _⟩ := id rux
    obtain ⟨d2, f2, hx2, _⟩ := id ru7
    have nxx : x ≠ x2 := fun e => by
      obtain ⟨_, _, z, _⟩ := id ru6
      rw [e, nx2] at z; cases z
    refine ⟨x, x2, _, _, d1, d2, f1, f2, rfl, rfl, hx1, hx2, T.q_Rules, T.q_Rules, _, rfl, ?_⟩
    refine if_false_of (by simp [nxx]) ⟨_, rfl, _, rfl, x, x, _, _, d1, d1, f1, f1, rfl, rfl, hx1, hx1, T.q_Rules, T.q_Rules, _, rfl, ?_⟩
    refine if_false_of (by simp) ⟨_, rfl, _, rfl, x, x, _, _, d1, d1, f1, f1, rfl, rfl, hx1, hx1, T.q_Rules, T.q_Rules, _, rfl, ?_⟩
    refine if_false_of (by simp) ?_
    have td7 := td6.mono (s67 _)
    have sr7 := sr6.st s67
    have st17 : Stp [p] H1 H7 := st16.trans (s67 _)
    -- the usual ones
    refine ⟨by show 2 ≤ sizeLine; decide, fun o1 J1 m1 => ⟨by show 2 ≤ sizeLine; decide, fun o2 J2 m2 => ⟨by show 2 ≤ sizeLine; decide, fun o3 J3 m3 => ⟨by show 3 ≤ sizeLine; decide, fun o4 J4 m4 => ⟨by show 3 ≤ sizeLine; decide, fun o5 J5 m5 => ?_⟩⟩⟩⟩⟩
    have ta4 := (((TdAll.nil (K := K) (A := [])).nw m1 (.cons (.int 30) (.cons (.int 25) .nil))).nw m2 (.cons (.int 60) (.cons (.int 50) .nil))).nw m3 (.cons (.int 120) (.cons (.int 100) .nil))
    have tu : Td K [] J5 (.ref o4) usualD := .tup ((m5.s []).sqT (SqT.of m4.a)) (ta4.mono ((m4.s _).trans (m5.s _)))
    have s7J : ∀ A, Stp A H7 J5 := fun A => ((((m1.s A).trans (m2.s _)).trans (m3.s _)).trans (m4.s _)).trans (m5.s _)
    clear ta4
    have bk := T.d_back
    have ub : areRows usualD = true := by decide
    -- Rules(wait=..).late
    refine ⟨_, rfl, rfl, rfl, fun y1 dy1 ny1 nd1 ne1 => ?_⟩
    have my1 : ∀ A, Stp A J5 (upd (upd J5 dy1 (.own y1)) y1 (.ins (He.ga K "Rules") dy1 [])) := fun A => .made ny1 nd1 ne1
    refine ⟨y1, dy1, .int 30, .int u, _, [], .int 30, .int u, usualD, rfl, upd_same, .int 30, .int u, bk _ _, fun _ J6 st6 rv => ⟨rfl, ?_⟩, fun z e => by rw [good_none (by decide) (by decide) u1 u2 ub] at e; cases e⟩
    have sJ6 : ∀ A, Stp A J5 J6 := fun A => ((my1 []).back st6 ny1).of_nil
    obtain ⟨dv, fv, hv, a1, _, _⟩ := rv
    refine ⟨y1, _, dv, fv, _, rfl, hv, T.cl_Rules, T.n_Rules_late, a1, ?_⟩
    -- Rules(late=..).wait
    refine ⟨_, rfl, rfl, rfl, fun y2 dy2 ny2 nd2 ne2 => ?_⟩
    have my2 : ∀ A, Stp A J6 (upd (upd J6 dy2 (.own y2)) y2 (.ins (He.ga K "Rules") dy2 [])) := fun A => .made ny2 nd2 ne2
    refine ⟨y2, dy2, .int t, .int 60, _, [], .int t, .int 60, usualD, rfl, upd_same, .int t, .int 60, bk _ _, fun _ J7 st7 rv => ⟨rfl, ?_⟩, fun z e => by rw [good_none t1 t2 (by decide) (by decide) ub] at e; cases e⟩
    have sJ7 : ∀ A, Stp A J6 J7 := fun A => ((my2 []).back st7 ny2).of_nil
    obtain ⟨dv2, fv2, hv2, _, a2, _⟩ := rv
    refine ⟨y2, _, dv2, fv2, _, rfl, hv2, T.cl_Rules, T.n_Rules_wait, a2, ?_⟩
    -- Rules().back
    refine ⟨rfl, rfl, fun y3 dy3 ny3 nd3 ne3 => ?_⟩
    have my3 : ∀ A, Stp A J7 (upd (upd J7 dy3 (.own y3)) y3 (.ins (He.ga K "Rules") dy3 [])) := fun A => .made ny3 nd3 ne3
    refine ⟨y3, dy3, .int 30, .int 60, _, [], .int 30, .int 60, usualD, rfl, upd_same, .int 30, .int 60, bk _ _, fun _ J8 st8 rv => ⟨rfl, ?_⟩, fun z e => by rw [good_none (by decide) (by decide) (by decide) (by decide) ub] at e; cases e⟩
    have sJ8 : ∀ A, Stp A J7 J8 := fun A => ((my3 []).back st8 ny3).of_nil
    obtain ⟨dv3, fv3, hv3, _, _, a3⟩ := rv
    refine ⟨y3, _, dv3, fv3, _, rfl, hv3, T.cl_Rules, T.n_Rules_back, a3, by show 3 ≤ sizeLine; decide, fun o6 J9 m9 => ?_⟩
    have sJ9 : ∀ A, Stp A J5 J9 := fun A => (((sJ6 A).trans (sJ7 _)).trans (sJ8 _)).trans (m9.s _)
    have shu : Sh 3 (.list [.int 30, .int 60, usualD]) := sh_list fun d hd => by
      simp only [List.mem_cons, List.not_mem_nil, or_false] at hd
      rcases hd with rfl | rfl | rfl
      · exact sh_int _
      · exact sh_int _
      · exact sh_rowsD _
    refine ⟨_, rfl, .list [.int 30, .int 60, usualD], .list [.int 30, .int 60, usualD], .lst (SqL.of m9.a) (.cons (.int _) (.cons (.int _) (.cons ((bk [] J9).dp rfl) .nil))), .lst (SqL.of ((sJ9 []).k _ _ (by simp) m5.a)) (.cons (.int _) (.cons (.int _) (.cons ((tu.mono (sJ9 _)).dp rfl) .nil))), sh_ok shu (by decide), sh_ok shu (by decide), _, rfl, ?_⟩
    refine if_false_of (by rw [eqv_self shu]; rfl) ?_
    have s7J9 : ∀ A, Stp A H7 J9 := fun A => (s7J A).trans (sJ9 _)
    have td9 := td7.mono (s7J9 _)
    have sr9 := sr7.st s7J9
    have st19 : Stp [p] H1 J9 := st17.trans (s7J9 _)
    clear tu sJ9 sJ6 sJ7 sJ8 s7J my1 my2 my3 st6 st7 st8
    -- the spoilt ones
    refine ⟨_, rfl, _, rfl, _, rfl, by show 3 ≤ sizeLine; decide, fun B K1 k1 => ?_⟩
    have nB := sr9.out k1
    have srK1 := sr9.nw k1
    refine ⟨_, rfl, p, 2, rfl, by decide, by decide, srK1, fun m K2 m0 m1' srK2 stK2 => ⟨_, _, rfl, rfl, 1 + m, rfl, by omega, by omega, fun D hD => ?_⟩⟩
    have nD : D ≠ p := srK2.ne hD
    refine lc_range (lo := 0) (n := (1 + m).toNat) (fun i H' => Stp [p] K2 H' ∧ Src H' p ∧ ∃ ms : List Int, H' D = some (.lst (ms.map V.int)) ∧ ms.length = i ∧ ∀ k ∈ ms, 0 ≤ k ∧ k < 3) ⟨.new hD, srK2.new hD, [], upd_same, rfl, by simp⟩ ?_ ?_
    · rintro i H' hi ⟨st, srx, ms, hms, hl, hk⟩
      refine ⟨rfl, _, rfl, p, 3, rfl, by decide, by decide, srx, fun r Hx r0 r1 srx2 stx => ⟨ms.map V.int, stx.k _ _ (by simpa using nD) hms, (by rw [sizeLine_eq, List.length_map]; omega), ?_⟩⟩
      have hms2 := stx.k _ _ (by simpa using nD) hms
      refine ⟨(st.trans stx).putNew hms2 hD, srx2.put nD, ms ++ [r], by rw [upd_same, List.map_append]; rfl, by simp [hl], fun k hkm => ?_⟩
      rcases List.mem_append.mp hkm with z | z
      · exact hk k z
      · have : k = r := by simpa using z
        omega
    rintro K3 ⟨stK3, srK3, ms, hms, hml, hmk⟩
    refine ⟨D, ms, rfl, SqL.of hms, by omega, fun Z K4 cc hcc k4 => ⟨Z, _, cc, rfl, k4.a, by omega, fun js W pw hj _ hW => ?_⟩⟩
    have k5 : Nw K4 (upd K4 W (.lst (js.map V.int))) W (.lst (js.map V.int)) := .mk' hW
    generalize upd K4 W (.lst (js.map V.int)) = K5 at k5 ⊢
    have hj3 : ∀ k ∈ js, 0 ≤ k ∧ k < 3 := fun k hk => hmk k (by simpa using (hj k).mp hk)
    have sr5 := (srK3.nw k4).nw k5
    have stB : Stp [p] K1 K5 := stK2.trans (stK3.trans ((k4.s _).trans (k5.s _)))
    have hB5 := stB.k _ _ nB k1.a
    have st15 : Stp [p] H1 K5 := st19.trans ((k1.s _).trans stB)
    have nWp : W ∉ [p, B] := fun z => by
      have e : W = p ∨ W = B := by simpa using z
      rcases e with rfl | rfl
      · exact (srK3.nw k4).ne k5.n rfl
      · rw [k5.a] at hB5
        have q := ((stK2.trans (stK3.trans (k4.s _))).k _ _ nB k1.a)
        rw [k5.n] at q; cases q
    refine ⟨_, rfl, W, rfl, ⟨_, SqL.of k5.a⟩, for_list (K := K) (a := W) (xs := js.map V.int) (fun i σ H' => Stp [p, B] K5 H' ∧ Src H' p ∧ (∃ r10 r11, σ = [some (.ref a), some (.int c), some (.ref p), some (.int t), some (.int u), some v, some (.ref x), some (.ref o5), some (.ref B), some (.ref W), r10, r11]) ∧
        ∃ v1 v2 v3 d1 d2 d3, H' B = some (.lst [v1, v2, v3]) ∧ Td K [p, B] H' v1 d1 ∧ Td K [p, B] H' v2 d2 ∧ Td K [p, B] H' v3 d3 ∧ isFrom d1 1 999 = !decide (0 ∈ js.take i) ∧ isFrom d2 0 999 = !decide (1 ∈ js.take i) ∧ areRows d3 = !decide (2 ∈ js.take i))
      ⟨.refl _, sr5, ⟨_, _, rfl⟩, .int t, .int u, v, .int t, .int u, rowsD rs, hB5, .int t, .int u, (td9.mono ((k1.s _).trans stB)).any (flat_rows rs), by rw [from_late t1 t2]; rfl, by rw [from_wait u1 u2]; rfl, by rw [ar]; rfl⟩ (fun i σ H' _ ⟨st, _⟩ => SqL.of (st.k _ _ nWp k5.a)) ?_ ?_⟩
    · rintro i y σ H' hy ⟨st, srx, ⟨r10, r11, rfl⟩, v1, v2, v3, d1, d2, d3, hB, td1, td2, td3, c1, c2, c3⟩
      rw [List.getElem?_map] at hy
      obtain ⟨k, hk, rfl⟩ := Option.map_eq_some_iff.mp hy
      have k03 := hj3 k (List.mem_of_getElem? hk)
      have hA : ∀ b ∈ [p, B], H' b ≠ none := fun b hb z => by
        have e : b = p ∨ b = B := by simpa using hb
        rcases e with rfl | rfl
        · obtain ⟨_, _, _, q⟩ := srx; rw [q] at z; cases z
        · rw [hB] at z; cases z
      have up : ∀ {X Y : Hp}, Stp [p] X Y → Stp [p, B] X Y := fun s => s.mono (by simp)
      refine ⟨by show 2 ≤ sizeLine; decide, fun o1 M1 g1 => ?_⟩
      obtain ⟨w0, hw0, hw1⟩ : ∃ w0, atI [V.int 0, .int 1001] (k % 2) = some (.int w0) ∧ (k = 0 → w0 = 0) ∧ (k = 1 → w0 = 1001) := by
        have e : k = 0 ∨ k = 1 ∨ k = 2 := by omega
        rcases e with rfl | rfl | rfl
        · exact ⟨0, rfl, fun _ => rfl, fun z => by omega⟩
        · exact ⟨1001, rfl, fun z => by omega, fun _ => rfl⟩
        · exact ⟨0, rfl, fun _ => rfl, fun z => by omega⟩
      refine ⟨_, rfl, _, _, rfl, rfl, (by show (0 : Int) < 2; decide), o1, _, _, _, rfl, rfl, SqL.of g1.a, hw0, _, rfl, by show 1 ≤ sizeLine; decide, fun o2 M2 g2 => ?_⟩
      refine ⟨by show 7 ≤ sizeLine; decide, fun o3 M3 g3 => ?_⟩
      have m3 : ∀ A, Stp A H' M3 := fun A => ((g1.s A).trans (g2.s _)).trans (g3.s _)
      refine ⟨_, rfl, p, 7, rfl, by decide, by decide, srx.st m3, fun r M4 r0 r1 sr4 st4 => ?_⟩
      have no3 : o3 ∉ [p] := (srx.st (fun A => (g1.s A).trans (g2.s _))).out g3
      have no2 : o2 ∉ [p, B] := nw_out hA (g1.s []) g2
      have tl : TdAll K [p, B] M4 [.int w0, .int (-1), .int 1000, .bl true, .non, .str "9", .ref o2] [.int w0, .int (-1), .int 1000, .bool true, .none, .str "9", .list [.int 5]] :=
        .cons (.int _) (.cons (.int _) (.cons (.int _) (.cons (.bl _) (.cons .non (.cons (.str _) (.cons (.lst (SqL.of (((g3.s _).trans (up st4)).k _ _ no2 g2.a)) no2 (.cons (.int 5) .nil)) .nil))))))
      obtain ⟨dd, hdd⟩ : ∃ dd, [PyData.int w0, .int (-1), .int 1000, .bool true, .none, .str "9", .list [.int 5]][r.toNat]? = some dd := ⟨_, List.getElem?_eq_getElem (by show r.toNat < 7; omega)⟩
      obtain ⟨vv, hvv, tvv⟩ := tl.getD hdd
      have hm := List.mem_of_getElem? hdd
      simp only [List.mem_cons, List.not_mem_nil, or_false] at hm
      have b0 : k = 0 → isFrom dd 1 999 = false := fun e => by
        have := hw1.1 e
        rcases hm with rfl | rfl | rfl | rfl | rfl | rfl | rfl <;> simp [isFrom, this]
      have b1 : k = 1 → isFrom dd 0 999 = false := fun e => by
        have := hw1.2 e
        rcases hm with rfl | rfl | rfl | rfl | rfl | rfl | rfl <;> simp [isFrom, this]
      have st' : Stp [p] H' M4 := (m3 _).trans st4
      have hB4 := st'.k _ _ nB hB
      refine ⟨o3, _, _, vv, rfl, rfl, SqL.of (st4.k _ _ no3 g3.a), atI_int r0 hvv, ?_⟩
      refine ⟨_, rfl, _, rfl, B, _, k, k.toNat, rfl, rfl, hB4, (by unfold ixN; rw [if_pos k03.1, if_pos (by show k < 3; omega)]), ?_⟩
      have wB : Wr M4 (upd M4 B (.lst (([v1, v2, v3] : List V).set k.toNat vv))) B (.lst (([v1, v2, v3] : List V).set k.toNat vv)) := .mk' hB4
      have srB := sr4.put (o := .lst (([v1, v2, v3] : List V).set k.toNat vv)) (show B ≠ p by simpa using nB)
      generalize upd M4 B (.lst (([v1, v2, v3] : List V).set k.toNat vv)) = M5 at wB srB ⊢
      have stA : Stp [p, B] H' M5 := (up st').trans (wB.s.mono (by simp))
      have td1' := td1.mono stA
      have td2' := td2.mono stA
      have td3' := td3.mono stA
      have tvv' := tvv.mono (wB.s.mono (B := [p, B]) (by simp))
      have hB5' := wB.a
      have tk := take_at hk
      refine ⟨_, rfl, rfl, _, rfl, ?_⟩
      have e : k = 0 ∨ k = 1 ∨ k = 2 := by omega
      rcases e with rfl | rfl | rfl
      · refine if_false_of (by simp) ⟨st.trans stA, srB, ⟨_, _, rfl⟩, vv, v2, v3, dd, d2, d3, hB5', tvv', td2', td3', ?_, ?_, ?_⟩
        · rw [b0 rfl, tk]; simp
        · rw [c2, tk]; simp
        · rw [c3, tk]; simp
      · refine if_false_of (by simp) ⟨st.trans stA, srB, ⟨_, _, rfl⟩, v1, vv, v3, d1, dd, d3, hB5', td1', tvv', td3', ?_, ?_, ?_⟩
        · rw [c1, tk]; simp
        · rw [b1 rfl, tk]; simp
        · rw [c3, tk]; simp
      · refine if_true_of (by simp) ?_
        have tdr : Td K [p] M5 v (rowsD rs) := ((td9.mono ((k1.s _).trans stB)).flatMono (flat_rows rs) st).flatMono (flat_rows rs) stA
        have hA5 : ∀ b ∈ [p, B], M5 b ≠ none := fun b hb z => hA b hb (stA.f b z)
        refine ⟨_, rfl, _, rfl, p, v, rs, [p, B], rfl, by simp, hA5, srB, tdr, ar, fun M6 wv wd st6 sr6 twd wbad => ?_⟩
        have hB6 := st6.k _ _ nB hB5'
        refine ⟨_, rfl, B, _, 2, 2, rfl, rfl, hB6, rfl, ?_⟩
        have wC : Wr M6 (upd M6 B (.lst [v1, v2, wv])) B (.lst [v1, v2, wv]) := .mk' hB6
        have srC := sr6.put (o := .lst [v1, v2, wv]) (show B ≠ p by simpa using nB)
        have stC : Stp [p, B] M5 (upd M6 B (.lst [v1, v2, wv])) := (up st6).trans (wC.s.mono (by simp))
        refine ⟨st.trans (stA.trans stC), srC, ⟨_, _, rfl⟩, v1, v2, wv, d1, d2, wd, wC.a, td1'.mono stC, td2'.mono stC, twd.mono (wC.s.mono (by simp)), ?_, ?_, ?_⟩
        · rw [c1, tk]; simp
        · rw [c2, tk]; simp
        · rw [wbad, tk]; simp
    · rintro σ H' ⟨st, srx, ⟨r10, r11, rfl⟩, v1, v2, v3, d1, d2, d3, hB, td1, td2, td3, c1, c2, c3⟩
      rw [List.length_map, List.take_length] at c1 c2 c3
      refine ⟨_, rfl, B, v1, v2, v3, [p, B], d1, d2, d3, rfl, hB, td1, td2, td3, fun Hx stx => ?_⟩
      refine ⟨by show 3 ≤ sizeLine; decide, fun o7 Hy ny => ?_⟩
      have hWy := ((stx.trans (ny.s _)).k _ _ (by simp) (st.k _ _ nWp k5.a))
      obtain ⟨j0, js1, rfl⟩ : ∃ j0 js1, js = j0 :: js1 := by
        cases js with
        | cons j0 js1 => exact ⟨j0, js1, rfl⟩
        | nil =>
          exfalso
          cases ms with
          | nil => simp at hml; omega
          | cons k r => exact absurd ((hj k).mpr (by simp)) (by simp)
      have j03 := hj3 j0 (by simp)
      have pw2 := (List.pairwise_cons.mp pw).1
      obtain ⟨w0, hw0, hww⟩ : ∃ w0, atI [V.str "late", .str "wait", .str "back"] j0 = some (.str w0) ∧ madeOr (rulesBad d1 d2 d3) = w0 := by
        have e : j0 = 0 ∨ j0 = 1 ∨ j0 = 2 := by omega
        rcases e with rfl | rfl | rfl
        · refine ⟨"late", rfl, ?_⟩
          have z : isFrom d1 1 999 = false := by rw [c1]; simp
          simp [rulesBad, z, madeOr]
        · refine ⟨"wait", rfl, ?_⟩
          have n0 : (0 : Int) ∉ (1 : Int) :: js1 := fun z => by
            rcases List.mem_cons.mp z with z | z
            · omega
            · have := pw2 _ z; omega
          have y1 : isFrom d1 1 999 = true := by rw [c1]; simp [n0]
          have y2 : isFrom d2 0 999 = false := by rw [c2]; simp
          simp [rulesBad, y1, y2, madeOr]
        · refine ⟨"back", rfl, ?_⟩
          have n0 : (0 : Int) ∉ (2 : Int) :: js1 := fun z => by
            rcases List.mem_cons.mp z with z | z
            · omega
            · have := pw2 _ z; omega
          have n1 : (1 : Int) ∉ (2 : Int) :: js1 := fun z => by
            rcases List.mem_cons.mp z with z | z
            · omega
            · have := pw2 _ z; omega
          have y1 : isFrom d1 1 999 = true := by rw [c1]; simp [n0]
          have y2 : isFrom d2 0 999 = true := by rw [c2]; simp [n1]
          have y3 : areRows d3 = false := by rw [c3]; simp
          simp [rulesBad, y1, y2, y3, madeOr]
      refine ⟨_, rfl, W, _, _, .int j0, rfl, rfl, SqL.of hWy, atI_int (by decide) rfl, o7, _, _, .str w0, rfl, rfl, SqL.of ny.a, hw0, rfl, _, rfl, ?_⟩
      rw [hww]
      refine if_false_of (by simp) ?_
      refine ⟨?_, _, _, _, _, _, _, _, _, _, _, _, rfl⟩
      refine st0.trans ((b1 []).fresh (A := [p, B]) ((st15.mono (by simp)).trans (st.trans (stx.of_nil.trans (ny.s _)))) fun z hz => ?_)
      have e : z = p ∨ z = B := by simpa using hz
      rcases e with rfl | rfl
      · exact hp
      · exact (b1 []).f _ (st19.f _ k1.n)
theorem kb_Rules_init_0_late_wait_back {K : PySem.W.Frag} {fd : FuncData} (F : FunD K "__init__" "Rules.__init__" (defArgs s_Rules_init) (defBody s_Rules_init) (defScope s_Rules_init) [] [("late", .int 30), ("wait", .int 60), ("back", .ref ((kwAt ("Rules", some "__init__") "back") K))] (He.ma K (He.ga K "Rules") "__init__") fd) : ∃ g, KBn K fd ["self", "late", "wait", "back"] 1 ["late", "wait", "back"] g (fun us ws => (us.drop 0).take 1 ++ ((ws.drop 0).take 1 ++ ((ws.drop 1).take 1 ++ ((ws.drop 2).take 1)))) := by
  obtain ⟨mv, h⟩ := FunD.kbinds0 (ps := ["self", "late", "wait", "back"]) F 1 ["late", "wait", "back"] [] (fun us mv ws => (us.drop 0).take 1 ++ ((ws.drop 0).take 1 ++ ((ws.drop 1).take 1 ++ ((ws.drop 2).take 1)))) (by simp) (by intro q hq; cases hq) (fun rus rmv rws => (((rus.drop 0).take 1).append (((rws.drop 0).take 1).append (((rws.drop 1).take 1).append ((rws.drop 2).take 1)))))
    (fun D doc pm an cdv ct us mv ws l1 l2 l3 => match us, mv, ws, l1, l2, l3 with | [_], [], [_, _, _], _, _, _ => rfl)
  exact ⟨_, h⟩
theorem kb_paid_back_0_came_promised_rules {K : PySem.W.Frag} {fd : FuncData} (F : FunD K "paid_back" "paid_back" (defArgs s_paid_back) (defBody s_paid_back) (defScope s_paid_back) [] [] (He.ga K "paid_back") fd) : ∃ g, KBn K fd ["rules", "promised", "came"] 0 ["came", "promised", "rules"] g (fun us ws => (ws.drop 2).take 1 ++ ((ws.drop 1).take 1 ++ ((ws.drop 0).take 1))) := by
  obtain ⟨oc, od, dV, kV, doc, pm, an, cdv, ct, osl, rfl, lk, hcd, hD, hK⟩ := F.ex
  rcases hD with ⟨_, rfl⟩ | ⟨e, _⟩
  · exact ⟨fun us ws => (ws.drop 2).take 1 ++ ((ws.drop 1).take 1 ++ ((ws.drop 0).take 1)), ⟨fun s us ws X l1 l2 => .of_eq (match us, ws, l1, l2 with | [], [_, _, _], _, _ => rfl), fun rus rws => (((rws.drop 2).take 1).append (((rws.drop 1).take 1).append ((rws.drop 0).take 1)))⟩⟩
  · exact absurd rfl e
theorem kb_Rules_init_0_ {K : PySem.W.Frag} {fd : FuncData} (F : FunD K "__init__" "Rules.__init__" (defArgs s_Rules_init) (defBody s_Rules_init) (defScope s_Rules_init) [] [("late", .int 30), ("wait", .int 60), ("back", .ref ((kwAt ("Rules", some "__init__") "back") K))] (He.ma K (He.ga K "Rules") "__init__") fd) : ∃ g, KBn K fd ["self", "late", "wait", "back"] 1 [] g (fun us ws => (us.drop 0).take 1 ++ ((([.int 30, .int 60, .ref ((kwAt ("Rules", some "__init__") "back") K)] : List V).drop 0).take 1 ++ ((([.int 30, .int 60, .ref ((kwAt ("Rules", some "__init__") "back") K)] : List V).drop 1).take 1 ++ ((([.int 30, .int 60, .ref ((kwAt ("Rules", some "__init__") "back") K)] : List V).drop 2).take 1)))) := by
  obtain ⟨mv, h⟩ := FunD.kbinds0 (ps := ["self", "late", "wait", "back"]) F 1 [] [("late", .int 30), ("wait", .int 60), ("back", .ref ((kwAt ("Rules", some "__init__") "back") K))] (fun us mv ws => (us.drop 0).take 1 ++ ((mv.drop 0).take 1 ++ ((mv.drop 1).take 1 ++ ((mv.drop 2).take 1)))) (by simp) (by intro q hq; simp only [List.mem_cons, List.not_mem_nil, or_false] at hq ⊢; rcases hq with rfl | rfl | rfl <;> simp [*]) (fun rus rmv rws => (((rus.drop 0).take 1).append (((rmv.drop 0).take 1).append (((rmv.drop 1).take 1).append ((rmv.drop 2).take 1)))))
    (fun D doc pm an cdv ct us mv ws l1 l2 l3 => match us, mv, ws, l1, l2, l3 with | [_], [_, _, _], [], _, _, _ => ⟨_, _, _, _, _, _, rfl, rfl, ⟨_, _, _, _, _, _, rfl, rfl, ⟨_, _, _, _, _, _, rfl, rfl, rfl⟩⟩⟩)
  exact ⟨_, h⟩
theorem kb_Rules_init_0_late {K : PySem.W.Frag} {fd : FuncData} (F : FunD K "__init__" "Rules.__init__" (defArgs s_Rules_init) (defBody s_Rules_init) (defScope s_Rules_init) [] [("late", .int 30), ("wait", .int 60), ("back", .ref ((kwAt ("Rules", some "__init__") "back") K))] (He.ma K (He.ga K "Rules") "__init__") fd) : ∃ g, KBn K fd ["self", "late", "wait", "back"] 1 ["late"] g (fun us ws => (us.drop 0).take 1 ++ ((ws.drop 0).take 1 ++ ((([.int 60, .ref ((kwAt ("Rules", some "__init__") "back") K)] : List V).drop 0).take 1 ++ ((([.int 60, .ref ((kwAt ("Rules", some "__init__") "back") K)] : List V).drop 1).take 1)))) := by
  obtain ⟨mv, h⟩ := FunD.kbinds0 (ps := ["self", "late", "wait", "back"]) F 1 ["late"] [("wait", .int 60), ("back", .ref ((kwAt ("Rules", some "__init__") "back") K))] (fun us mv ws => (us.drop 0).take 1 ++ ((ws.drop 0).take 1 ++ ((mv.drop 0).take 1 ++ ((mv.drop 1).take 1)))) (by simp) (by intro q hq; simp only [List.mem_cons, List.not_mem_nil, or_false] at hq ⊢; rcases hq with rfl | rfl <;> simp [*]) (fun rus rmv rws => (((rus.drop 0).take 1).append (((rws.drop 0).take 1).append (((rmv.drop 0).take 1).append ((rmv.drop 1).take 1)))))
    (fun D doc pm an cdv ct us mv ws l1 l2 l3 => match us, mv, ws, l1, l2, l3 with | [_], [_, _], [_], _, _, _ => ⟨_, _, _, _, _, _, rfl, rfl, ⟨_, _, _, _, _, _, rfl, rfl, rfl⟩⟩)
  exact ⟨_, h⟩
theorem kb_Rules_init_0_wait {K : PySem.W.Frag} {fd : FuncData} (F : FunD K "__init__" "Rules.__init__" (defArgs s_Rules_init) (defBody s_Rules_init) (defScope s_Rules_init) [] [("late", .int 30), ("wait", .int 60), ("back", .ref ((kwAt ("Rules", some "__init__") "back") K))] (He.ma K (He.ga K "Rules") "__init__") fd) : ∃ g, KBn K fd ["self", "late", "wait", "back"] 1 ["wait"] g (fun us ws => (us.drop 0).take 1 ++ ((([.int 30, .ref ((kwAt ("Rules", some "__init__") "back") K)] : List V).drop 0).take 1 ++ ((ws.drop 0).take 1 ++ ((([.int 30, .ref ((kwAt ("Rules", some "__init__") "back") K)] : List V).drop 1).take 1)))) := by
  obtain ⟨mv, h⟩ := FunD.kbinds0 (ps := ["self", "late", "wait", "back"]) F 1 ["wait"] [("late", .int 30), ("back", .ref ((kwAt ("Rules", some "__init__") "back") K))] (fun us mv ws => (us.drop 0).take 1 ++ ((mv.drop 0).take 1 ++ ((ws.drop 0).take 1 ++ ((mv.drop 1).take 1)))) (by simp) (by intro q hq; simp only [List.mem_cons, List.not_mem_nil, or_false] at hq ⊢; rcases hq with rfl | rfl <;> simp [*]) (fun rus rmv rws => (((rus.drop 0).take 1).append (((rmv.drop 0).take 1).append (((rws.drop 0).take 1).append ((rmv.drop 1).take 1)))))
    (fun D doc pm an cdv ct us mv ws l1 l2 l3 => match us, mv, ws, l1, l2, l3 with | [_], [_, _], [_], _, _, _ => ⟨_, _, _, _, _, _, rfl, rfl, ⟨_, _, _, _, _, _, rfl, rfl, rfl⟩⟩)
  exact ⟨_, h⟩
def d_NoTicket_init : He.DefD := ⟨("NoTicket", some "__init__"), "__init__", "NoTicket.__init__", defArgs s_NoTicket_init, defBody s_NoTicket_init, defScope s_NoTicket_init, [], []⟩
def d_is_whole : He.DefD := ⟨("is_whole", none), "is_whole", "is_whole", defArgs s_is_whole, defBody s_is_whole, defScope s_is_whole, [], []⟩
def d_is_from : He.DefD := ⟨("is_from", none), "is_from", "is_from", defArgs s_is_from, defBody s_is_from, defScope s_is_from, [], []⟩
def d_are_rows : He.DefD := ⟨("are_rows", none), "are_rows", "are_rows", defArgs s_are_rows, defBody s_are_rows, defScope s_are_rows, [], []⟩
def d_Rules_init : He.DefD := ⟨("Rules", some "__init__"), "__init__", "Rules.__init__", defArgs s_Rules_init, defBody s_Rules_init, defScope s_Rules_init, [], [("late", .int 30), ("wait", .int 60), ("back", .adr (kwAt ("Rules", some "__init__") "back"))]⟩
def d_paid_back : He.DefD := ⟨("paid_back", none), "paid_back", "paid_back", defArgs s_paid_back, defBody s_paid_back, defScope s_paid_back, [], []⟩
def d__law_mixed : He.DefD := ⟨("_law_mixed", none), "_law_mixed", "_law_mixed", defArgs s__law_mixed, defBody s__law_mixed, defScope s__law_mixed, [], []⟩
def d__law_source : He.DefD := ⟨("_law_source", none), "_law_source", "_law_source", defArgs s__law_source, defBody s__law_source, defScope s__law_source, [], []⟩
def d__law_take : He.DefD := ⟨("_law_take", none), "_law_take", "_law_take", defArgs s__law_take, defBody s__law_take, defScope s__law_take, [], []⟩
def d__law_parts : He.DefD := ⟨("_law_parts", none), "_law_parts", "_law_parts", defArgs s__law_parts, defBody s__law_parts, defScope s__law_parts, [], []⟩
def d__law_refused : He.DefD := ⟨("_law_refused", none), "_law_refused", "_law_refused", defArgs s__law_refused, defBody s__law_refused, defScope s__law_refused, [], []⟩
def d__law_bad_rows : He.DefD := ⟨("_law_bad_rows", none), "_law_bad_rows", "_law_bad_rows", defArgs s__law_bad_rows, defBody s__law_bad_rows, defScope s__law_bad_rows, [], []⟩
def d__law_due : He.DefD := ⟨("_law_due", none), "_law_due", "_law_due", defArgs s__law_due, defBody s__law_due, defScope s__law_due, [], []⟩
def d__law_paid_right : He.DefD := ⟨("_law_paid_right", none), "_law_paid_right", "_law_paid_right", defArgs s__law_paid_right, defBody s__law_paid_right, defScope s__law_paid_right, [], []⟩
def d_law : He.DefD := ⟨("law", none), "law", "law", defArgs s_law, defBody s_law, defScope s_law, [], []⟩
def fnL : List He.DefD := [d_NoTicket_init, d_is_whole, d_is_from, d_are_rows, d_Rules_init, d_paid_back, d__law_mixed, d__law_source, d__law_take, d__law_parts, d__law_refused, d__law_bad_rows, d__law_due, d__law_paid_right, d_law]
def fa0 : List He.Fa := [.glo "HaltError", .glo "NoTicket", .glo "is_whole", .glo "is_from", .glo "are_rows", .glo "Rules", .glo "paid_back", .glo "_law_mixed", .glo "_law_source", .glo "_law_take", .glo "_law_parts", .glo "_law_refused", .glo "_law_bad_rows", .glo "_law_due", .glo "_law_paid_right", .glo "law", .free "bool", .free "int", .free "isinstance", .free "len", .free "list", .free "max", .free "range", .free "set", .free "sorted", .free "tuple", .int "MOST_RULE" 999, .int "MOST_ROWS" 5, .int "WHOLE" 100, .cls "Rules"]
def fa1 : List He.Fa := [.mkr "Rules", .noat "Rules" "back", .noat "Rules" "late", .noat "Rules" "wait"]
def faL : List He.Fa := fa0 ++ fa1
def exL (K : PySem.W.Frag) : Bool := baseErrB K "HaltError" && (errB K "NoTicket" "what" && (decide (PySem.W.exmOne K (.ref (He.ga K "NoTicket")) (.ref (He.ga K "NoTicket")) = some true) && (cmpB K (He.ga K "Rules") && (kdB K (.tuple [.tuple [.int 30, .int 25], .tuple [.int 60, .int 50], .tuple [.int 120, .int 100]]) (.ref (kwAt ("Rules", some "__init__") "back" K)) && (true)))))
abbrev rowR : PySem.W.OpenRow := PySem.W.OpenLaw.row PySem.Challenge.rw_haltday_k72_rules_and_what_is_paid_back
abbrev hkL : PySem.W.Hook := hookN 7 faL fnL exL
def obL (s : PySem.W.SharedT) : He.AlD × Bool := obsN 7 faL fnL exL (HandSHeadRun.getT s)
theorem obL_eq (s : PySem.W.SharedT) : obL s = hkL.obs s.abs := obsN_eq (HandSHeadRun.getT_eq s)
def loose0 : List Str := ["HaltError", "NoTicket", "is_whole", "is_from", "MOST_RULE", "MOST_ROWS", "WHOLE", "are_rows", "Rules", "paid_back", "_law_mixed", "_law_source", "_law_take", "_law_parts", "_law_refused", "_law_bad_rows", "_law_due", "_law_paid_right"]
def looseL : List Str := loose0
theorem runL (w : World) : HandSHeadRun.RunEq rowR (PySem.W.view rowR.prog [22]) hkL obL 3000 looseL w := by
  intro os
  kernel_rfl
theorem txt_of {K : PySem.W.Frag} {h : Heap} {mg : Str → Option Value} (X : K.In h) (G : h.Ns mainGlobals mg) (c : He.SaysD faL fnL K ∧ exL K = true) : Txt K mg := by
  have m := c.2
  unfold exL at m
  obtain ⟨m0, m⟩ := He.ba m
  obtain ⟨m1, m⟩ := He.ba m
  obtain ⟨m2, m⟩ := He.ba m
  obtain ⟨m3, m⟩ := He.ba m
  obtain ⟨m4, m⟩ := He.ba m
  exact {
    g_HaltError := He.glo_ok X G (c.1.fact 0 (f := .glo "HaltError") rfl),
    g_NoTicket := He.glo_ok X G (c.1.fact 1 (f := .glo "NoTicket") rfl),
    g_is_whole := He.glo_ok X G (c.1.fact 2 (f := .glo "is_whole") rfl),
    g_is_from := He.glo_ok X G (c.1.fact 3 (f := .glo "is_from") rfl),
    g_are_rows := He.glo_ok X G (c.1.fact 4 (f := .glo "are_rows") rfl),
    g_Rules := He.glo_ok X G (c.1.fact 5 (f := .glo "Rules") rfl),
    g_paid_back := He.glo_ok X G (c.1.fact 6 (f := .glo "paid_back") rfl),
    g__law_mixed := He.glo_ok X G (c.1.fact 7 (f := .glo "_law_mixed") rfl),
    g__law_source := He.glo_ok X G (c.1.fact 8 (f := .glo "_law_source") rfl),
    g__law_take := He.glo_ok X G (c.1.fact 9 (f := .glo "_law_take") rfl),
    g__law_parts := He.glo_ok X G (c.1.fact 10 (f := .glo "_law_parts") rfl),
    g__law_refused := He.glo_ok X G (c.1.fact 11 (f := .glo "_law_refused") rfl),
    g__law_bad_rows := He.glo_ok X G (c.1.fact 12 (f := .glo "_law_bad_rows") rfl),
    g__law_due := He.glo_ok X G (c.1.fact 13 (f := .glo "_law_due") rfl),
    g__law_paid_right := He.glo_ok X G (c.1.fact 14 (f := .glo "_law_paid_right") rfl),
    g_law := He.glo_ok X G (c.1.fact 15 (f := .glo "law") rfl),
    f_bool := He.free_ok X G (c.1.fact 16 (f := .free "bool") rfl),
    f_int := He.free_ok X G (c.1.fact 17 (f := .free "int") rfl),
    f_isinstance := He.free_ok X G (c.1.fact 18 (f := .free "isinstance") rfl),
    f_len := He.free_ok X G (c.1.fact 19 (f := .free "len") rfl),
    f_list := He.free_ok X G (c.1.fact 20 (f := .free "list") rfl),
    f_max := He.free_ok X G (c.1.fact 21 (f := .free "max") rfl),
    f_range := He.free_ok X G (c.1.fact 22 (f := .free "range") rfl),
    f_set := He.free_ok X G (c.1.fact 23 (f := .free "set") rfl),
    f_sorted := He.free_ok X G (c.1.fact 24 (f := .free "sorted") rfl),
    f_tuple := He.free_ok X G (c.1.fact 25 (f := .free "tuple") rfl),
    c_MOST_RULE := He.int_ok X G (c.1.fact 26 (f := .int "MOST_RULE" 999) rfl),
    c_MOST_ROWS := He.int_ok X G (c.1.fact 27 (f := .int "MOST_ROWS" 5) rfl),
    c_WHOLE := He.int_ok X G (c.1.fact 28 (f := .int "WHOLE" 100) rfl),
    cl_Rules := He.cls_ok (c.1.fact 29 (f := .cls "Rules") rfl),
    mk_Rules := He.mkr_ok (c.1.fact 30 (f := .mkr "Rules") rfl),
    n_Rules_back := He.noat_ok (c.1.fact 31 (f := .noat "Rules" "back") rfl),
    n_Rules_late := He.noat_ok (c.1.fact 32 (f := .noat "Rules" "late") rfl),
    n_Rules_wait := He.noat_ok (c.1.fact 33 (f := .noat "Rules" "wait") rfl),
    be_HaltError := baseErrB_ok m0,
    e_NoTicket := errB_ok m1,
    x_NoTicket_NoTicket := of_decide_eq_true m2,
    q_Rules := m3,
    d_back := kd_ref m4 }
theorem all_of {w : World} {K : PySem.W.Frag} {h : Heap} {mg : Str → Option Value} {f : Addr} (X : K.In h) (G : h.Ns mainGlobals mg) (hfa : mg ("law" : Str) = some (.ref f)) (c : He.SaysD faL fnL K ∧ exL K = true) :
    ∃ fd : FuncData, (∀ (s : Shared) (v : Value), BindsTo s fd ⟨[v], []⟩ [("_law_script", v)]) ∧ ∀ base : Heap, K.In base → base.Ns mainGlobals mg → FnOk PySem.Challenge.pw_haltday_k72_rules_and_what_is_paid_back w K mg base (L2.CX PySem.Challenge.pw_haltday_k72_rules_and_what_is_paid_back w) 7 f fd ["_law_script"] (spLaw K) := by
  have T := txt_of X G c
  have e := hfa.symm.trans T.g_law
  cases e
  obtain ⟨fd_NoTicket_init, F_NoTicket_init⟩ := c.1.def_ 0 (d := d_NoTicket_init) rfl
  obtain ⟨fd_is_whole, F_is_whole⟩ := c.1.def_ 1 (d := d_is_whole) rfl
  obtain ⟨fd_is_from, F_is_from⟩ := c.1.def_ 2 (d := d_is_from) rfl
  obtain ⟨fd_are_rows, F_are_rows⟩ := c.1.def_ 3 (d := d_are_rows) rfl
  obtain ⟨fd_Rules_init, F_Rules_init⟩ := c.1.def_ 4 (d := d_Rules_init) rfl
  obtain ⟨fd_paid_back, F_paid_back⟩ := c.1.def_ 5 (d := d_paid_back) rfl
  obtain ⟨fd__law_mixed, F__law_mixed⟩ := c.1.def_ 6 (d := d__law_mixed) rfl
  obtain ⟨fd__law_source, F__law_source⟩ := c.1.def_ 7 (d := d__law_source) rfl
  obtain ⟨fd__law_take, F__law_take⟩ := c.1.def_ 8 (d := d__law_take) rfl
  obtain ⟨fd__law_parts, F__law_parts⟩ := c.1.def_ 9 (d := d__law_parts) rfl
  obtain ⟨fd__law_refused, F__law_refused⟩ := c.1.def_ 10 (d := d__law_refused) rfl
  obtain ⟨fd__law_bad_rows, F__law_bad_rows⟩ := c.1.def_ 11 (d := d__law_bad_rows) rfl
  obtain ⟨fd__law_due, F__law_due⟩ := c.1.def_ 12 (d := d__law_due) rfl
  obtain ⟨fd__law_paid_right, F__law_paid_right⟩ := c.1.def_ 13 (d := d__law_paid_right) rfl
  obtain ⟨fd_law, F_law⟩ := c.1.def_ 14 (d := d_law) rfl
  refine ⟨fd_law, fun s v => FunD.bindsA (ps := ["_law_script"]) F_law (fun _ _ _ _ _ _ us hl => match us, hl with | [_], _ => rfl) s [v] rfl, fun base _ _ => ?_⟩
  have O_is_whole : FnOk PySem.Challenge.pw_haltday_k72_rules_and_what_is_paid_back w K mg base (L2.CX PySem.Challenge.pw_haltday_k72_rules_and_what_is_paid_back w) 1 (He.ga K "is_whole") fd_is_whole ["thing"] (spWhole K) := ok_is_whole T F_is_whole 
  have C_is_whole : Cal PySem.Challenge.pw_haltday_k72_rules_and_what_is_paid_back w K mg base 1 (He.ga K "is_whole") ["thing"] (spWhole K) := ⟨⟨_, O_is_whole, F_is_whole.bindsN fun _ _ _ _ _ _ us hl => match us, hl with | [_], _ => rfl⟩, F_is_whole.kp⟩
  have O_is_from : FnOk PySem.Challenge.pw_haltday_k72_rules_and_what_is_paid_back w K mg base (L2.CX PySem.Challenge.pw_haltday_k72_rules_and_what_is_paid_back w) 2 (He.ga K "is_from") fd_is_from ["thing", "low", "high"] (spFrom K) := ok_is_from T F_is_from C_is_whole
  have C_is_from : Cal PySem.Challenge.pw_haltday_k72_rules_and_what_is_paid_back w K mg base 2 (He.ga K "is_from") ["thing", "low", "high"] (spFrom K) := ⟨⟨_, O_is_from, F_is_from.bindsN fun _ _ _ _ _ _ us hl => match us, hl with | [_, _, _], _ => rfl⟩, F_is_from.kp⟩
  have O_are_rows : FnOk PySem.Challenge.pw_haltday_k72_rules_and_what_is_paid_back w K mg base (L2.CX PySem.Challenge.pw_haltday_k72_rules_and_what_is_paid_back w) 3 (He.ga K "are_rows") fd_are_rows ["thing"] (spRows K) := ok_are_rows T F_are_rows C_is_from
  have C_are_rows : Cal PySem.Challenge.pw_haltday_k72_rules_and_what_is_paid_back w K mg base 3 (He.ga K "are_rows") ["thing"] (spRows K) := ⟨⟨_, O_are_rows, F_are_rows.bindsN fun _ _ _ _ _ _ us hl => match us, hl with | [_], _ => rfl⟩, F_are_rows.kp⟩
  have O_NoTicket_init : FnOk PySem.Challenge.pw_haltday_k72_rules_and_what_is_paid_back w K mg base (L2.CX PySem.Challenge.pw_haltday_k72_rules_and_what_is_paid_back w) 1 (He.ma K (He.ga K "NoTicket") "__init__") fd_NoTicket_init ["self", "what"] (spErr (He.ga K "NoTicket") "what") := ok_NoTicket_init T F_NoTicket_init 
  have C_NoTicket_init : Cal PySem.Challenge.pw_haltday_k72_rules_and_what_is_paid_back w K mg base 1 (He.ma K (He.ga K "NoTicket") "__init__") ["self", "what"] (spErr (He.ga K "NoTicket") "what") := ⟨⟨_, O_NoTicket_init, F_NoTicket_init.bindsN fun _ _ _ _ _ _ us hl => match us, hl with | [_, _], _ => rfl⟩, F_NoTicket_init.kp⟩
  have O_Rules_init : FnOk PySem.Challenge.pw_haltday_k72_rules_and_what_is_paid_back w K mg base (L2.CX PySem.Challenge.pw_haltday_k72_rules_and_what_is_paid_back w) 4 (He.ma K (He.ga K "Rules") "__init__") fd_Rules_init ["self", "late", "wait", "back"] (spRulesInit K) := ok_Rules_init T F_Rules_init C_are_rows C_NoTicket_init C_is_from
  have K_Rules_init_0_ : CalK PySem.Challenge.pw_haltday_k72_rules_and_what_is_paid_back w K mg base 4 (He.ma K (He.ga K "Rules") "__init__") ["self", "late", "wait", "back"] (spRulesInit K) 1 [] (fun us ws => (us.drop 0).take 1 ++ ((([.int 30, .int 60, .ref ((kwAt ("Rules", some "__init__") "back") K)] : List V).drop 0).take 1 ++ ((([.int 30, .int 60, .ref ((kwAt ("Rules", some "__init__") "back") K)] : List V).drop 1).take 1 ++ ((([.int 30, .int 60, .ref ((kwAt ("Rules", some "__init__") "back") K)] : List V).drop 2).take 1)))) := by
    obtain ⟨g, b⟩ := kb_Rules_init_0_ F_Rules_init
    exact ⟨⟨_, g, O_Rules_init, b⟩, F_Rules_init.kp⟩
  have K_Rules_init_0_late : CalK PySem.Challenge.pw_haltday_k72_rules_and_what_is_paid_back w K mg base 4 (He.ma K (He.ga K "Rules") "__init__") ["self", "late", "wait", "back"] (spRulesInit K) 1 ["late"] (fun us ws => (us.drop 0).take 1 ++ ((ws.drop 0).take 1 ++ ((([.int 60, .ref ((kwAt ("Rules", some "__init__") "back") K)] : List V).drop 0).take 1 ++ ((([.int 60, .ref ((kwAt ("Rules", some "__init__") "back") K)] : List V).drop 1).take 1)))) := by
    obtain ⟨g, b⟩ := kb_Rules_init_0_late F_Rules_init
    exact ⟨⟨_, g, O_Rules_init, b⟩, F_Rules_init.kp⟩
  have K_Rules_init_0_late_wait_back : CalK PySem.Challenge.pw_haltday_k72_rules_and_what_is_paid_back w K mg base 4 (He.ma K (He.ga K "Rules") "__init__") ["self", "late", "wait", "back"] (spRulesInit K) 1 ["late", "wait", "back"] (fun us ws => (us.drop 0).take 1 ++ ((ws.drop 0).take 1 ++ ((ws.drop 1).take 1 ++ ((ws.drop 2).take 1)))) := by
    obtain ⟨g, b⟩ := kb_Rules_init_0_late_wait_back F_Rules_init
    exact ⟨⟨_, g, O_Rules_init, b⟩, F_Rules_init.kp⟩
  have K_Rules_init_0_wait : CalK PySem.Challenge.pw_haltday_k72_rules_and_what_is_paid_back w K mg base 4 (He.ma K (He.ga K "Rules") "__init__") ["self", "late", "wait", "back"] (spRulesInit K) 1 ["wait"] (fun us ws => (us.drop 0).take 1 ++ ((([.int 30, .ref ((kwAt ("Rules", some "__init__") "back") K)] : List V).drop 0).take 1 ++ ((ws.drop 0).take 1 ++ ((([.int 30, .ref ((kwAt ("Rules", some "__init__") "back") K)] : List V).drop 1).take 1)))) := by
    obtain ⟨g, b⟩ := kb_Rules_init_0_wait F_Rules_init
    exact ⟨⟨_, g, O_Rules_init, b⟩, F_Rules_init.kp⟩
  have O__law_refused : FnOk PySem.Challenge.pw_haltday_k72_rules_and_what_is_paid_back w K mg base (L2.CX PySem.Challenge.pw_haltday_k72_rules_and_what_is_paid_back w) 6 (He.ga K "_law_refused") fd__law_refused ["_law_parts_here"] (spRefused K) := ok__law_refused T F__law_refused K_Rules_init_0_late_wait_back
  have C__law_refused : Cal PySem.Challenge.pw_haltday_k72_rules_and_what_is_paid_back w K mg base 6 (He.ga K "_law_refused") ["_law_parts_here"] (spRefused K) := ⟨⟨_, O__law_refused, F__law_refused.bindsN fun _ _ _ _ _ _ us hl => match us, hl with | [_], _ => rfl⟩, F__law_refused.kp⟩
  have O__law_mixed : FnOk PySem.Challenge.pw_haltday_k72_rules_and_what_is_paid_back w K mg base (L2.CX PySem.Challenge.pw_haltday_k72_rules_and_what_is_paid_back w) 1 (He.ga K "_law_mixed") fd__law_mixed ["_law_cell", "_law_k"] (spMixed) := ok__law_mixed T F__law_mixed 
  have C__law_mixed : Cal PySem.Challenge.pw_haltday_k72_rules_and_what_is_paid_back w K mg base 1 (He.ga K "_law_mixed") ["_law_cell", "_law_k"] (spMixed) := ⟨⟨_, O__law_mixed, F__law_mixed.bindsN fun _ _ _ _ _ _ us hl => match us, hl with | [_, _], _ => rfl⟩, F__law_mixed.kp⟩
  have O__law_take : FnOk PySem.Challenge.pw_haltday_k72_rules_and_what_is_paid_back w K mg base (L2.CX PySem.Challenge.pw_haltday_k72_rules_and_what_is_paid_back w) 2 (He.ga K "_law_take") fd__law_take ["_law_source_here", "_law_many"] (spTake) := ok__law_take T F__law_take C__law_mixed
  have C__law_take : Cal PySem.Challenge.pw_haltday_k72_rules_and_what_is_paid_back w K mg base 2 (He.ga K "_law_take") ["_law_source_here", "_law_many"] (spTake) := ⟨⟨_, O__law_take, F__law_take.bindsN fun _ _ _ _ _ _ us hl => match us, hl with | [_, _], _ => rfl⟩, F__law_take.kp⟩
  have O__law_bad_rows : FnOk PySem.Challenge.pw_haltday_k72_rules_and_what_is_paid_back w K mg base (L2.CX PySem.Challenge.pw_haltday_k72_rules_and_what_is_paid_back w) 3 (He.ga K "_law_bad_rows") fd__law_bad_rows ["_law_source_here", "_law_rows"] (spBad K) := ok__law_bad_rows T F__law_bad_rows C__law_take
  have C__law_bad_rows : Cal PySem.Challenge.pw_haltday_k72_rules_and_what_is_paid_back w K mg base 3 (He.ga K "_law_bad_rows") ["_law_source_here", "_law_rows"] (spBad K) := ⟨⟨_, O__law_bad_rows, F__law_bad_rows.bindsN fun _ _ _ _ _ _ us hl => match us, hl with | [_, _], _ => rfl⟩, F__law_bad_rows.kp⟩
  have O_paid_back : FnOk PySem.Challenge.pw_haltday_k72_rules_and_what_is_paid_back w K mg base (L2.CX PySem.Challenge.pw_haltday_k72_rules_and_what_is_paid_back w) 1 (He.ga K "paid_back") fd_paid_back ["rules", "promised", "came"] (spPaid K) := ok_paid_back T F_paid_back 
  have C_paid_back : Cal PySem.Challenge.pw_haltday_k72_rules_and_what_is_paid_back w K mg base 1 (He.ga K "paid_back") ["rules", "promised", "came"] (spPaid K) := ⟨⟨_, O_paid_back, F_paid_back.bindsN fun _ _ _ _ _ _ us hl => match us, hl with | [_, _, _], _ => rfl⟩, F_paid_back.kp⟩
  have K_paid_back_0_came_promised_rules : CalK PySem.Challenge.pw_haltday_k72_rules_and_what_is_paid_back w K mg base 1 (He.ga K "paid_back") ["rules", "promised", "came"] (spPaid K) 0 ["came", "promised", "rules"] (fun us ws => (ws.drop 2).take 1 ++ ((ws.drop 1).take 1 ++ ((ws.drop 0).take 1))) := by
    obtain ⟨g, b⟩ := kb_paid_back_0_came_promised_rules F_paid_back
    exact ⟨⟨_, g, O_paid_back, b⟩, F_paid_back.kp⟩
  have O__law_due : FnOk PySem.Challenge.pw_haltday_k72_rules_and_what_is_paid_back w K mg base (L2.CX PySem.Challenge.pw_haltday_k72_rules_and_what_is_paid_back w) 1 (He.ga K "_law_due") fd__law_due ["_law_rows", "_law_more"] (spDue K) := ok__law_due T F__law_due 
  have C__law_due : Cal PySem.Challenge.pw_haltday_k72_rules_and_what_is_paid_back w K mg base 1 (He.ga K "_law_due") ["_law_rows", "_law_more"] (spDue K) := ⟨⟨_, O__law_due, F__law_due.bindsN fun _ _ _ _ _ _ us hl => match us, hl with | [_, _], _ => rfl⟩, F__law_due.kp⟩
  have O__law_paid_right : FnOk PySem.Challenge.pw_haltday_k72_rules_and_what_is_paid_back w K mg base (L2.CX PySem.Challenge.pw_haltday_k72_rules_and_what_is_paid_back w) 3 (He.ga K "_law_paid_right") fd__law_paid_right ["_law_source_here", "_law_one", "_law_rows"] (spPaidRight K) := ok__law_paid_right T F__law_paid_right C__law_take C_paid_back K_paid_back_0_came_promised_rules C__law_due
  have C__law_paid_right : Cal PySem.Challenge.pw_haltday_k72_rules_and_what_is_paid_back w K mg base 3 (He.ga K "_law_paid_right") ["_law_source_here", "_law_one", "_law_rows"] (spPaidRight K) := ⟨⟨_, O__law_paid_right, F__law_paid_right.bindsN fun _ _ _ _ _ _ us hl => match us, hl with | [_, _, _], _ => rfl⟩, F__law_paid_right.kp⟩
  have O__law_parts : FnOk PySem.Challenge.pw_haltday_k72_rules_and_what_is_paid_back w K mg base (L2.CX PySem.Challenge.pw_haltday_k72_rules_and_what_is_paid_back w) 3 (He.ga K "_law_parts") fd__law_parts ["_law_source_here"] (spParts K) := ok__law_parts T F__law_parts C__law_take
  have C__law_parts : Cal PySem.Challenge.pw_haltday_k72_rules_and_what_is_paid_back w K mg base 3 (He.ga K "_law_parts") ["_law_source_here"] (spParts K) := ⟨⟨_, O__law_parts, F__law_parts.bindsN fun _ _ _ _ _ _ us hl => match us, hl with | [_], _ => rfl⟩, F__law_parts.kp⟩
  have O__law_source : FnOk PySem.Challenge.pw_haltday_k72_rules_and_what_is_paid_back w K mg base (L2.CX PySem.Challenge.pw_haltday_k72_rules_and_what_is_paid_back w) 1 (He.ga K "_law_source") fd__law_source ["_law_cell"] (spSource) := ok__law_source T F__law_source 
  have C__law_source : Cal PySem.Challenge.pw_haltday_k72_rules_and_what_is_paid_back w K mg base 1 (He.ga K "_law_source") ["_law_cell"] (spSource) := ⟨⟨_, O__law_source, F__law_source.bindsN fun _ _ _ _ _ _ us hl => match us, hl with | [_], _ => rfl⟩, F__law_source.kp⟩
  exact ok_law T F_law C__law_refused C__law_bad_rows C__law_take K_Rules_init_0_ K_Rules_init_0_late K_Rules_init_0_wait K_Rules_init_0_late_wait_back C__law_paid_right C__law_parts C__law_source
end Hd
open PySem PySem.W PySem.Calls PyProof.Rows
set_option maxRecDepth 100000 in
set_option maxHeartbeats 0 in
theorem PySem.Challenge.cw_haltday_k72_rules_and_what_is_paid_back_holds : PySem.Challenge.rw_haltday_k72_rules_and_what_is_paid_back.Holds := by
  w_on; o_law
  refine HandSHeadRun.head_any (r := OpenLaw.row PySem.Challenge.rw_haltday_k72_rules_and_what_is_paid_back) (q := view (OpenLaw.row PySem.Challenge.rw_haltday_k72_rules_and_what_is_paid_back).prog [22]) (H := Hd.hkL) (ob := Hd.obL) (M := 3000) (loose := Hd.looseL) (d := HandSHeadRun.topDef (OpenLaw.row PySem.Challenge.rw_haltday_k72_rules_and_what_is_paid_back).prog 22) (kwd := []) Hd.obL_eq
    (by kernel_rfl) (fun s => by kernel_rfl) Hd.runL (by kernel_rfl) (by kernel_rfl) (by kernel_rfl) (by rfl) (by first | assumption | decide +kernel) (by decide +kernel) ⟨rfl, rfl, rfl, rfl, rfl, by decide +kernel⟩ ?hw ?hc
  case hw => w_witness2
  case hc =>
    refine Hd.walk_end (l := PySem.Challenge.rw_haltday_k72_rules_and_what_is_paid_back) (n := 63) (k := 7) (x := "_law_script") (CX := fun w => L2.CX PySem.Challenge.rw_haltday_k72_rules_and_what_is_paid_back.prog w) rfl (by decide) (by kernel_rfl) ⟨rfl, by decide, by decide⟩ ?F (fun w H s e s' z => Hd.cx_none z)
    intro w mg fa h Y G hmg0
    obtain ⟨K, KX, c⟩ := Y
    have hmg : mg ("law" : PySem.Str) = some (.ref fa) := by
      have e : (HandSHeadRun.topDef (OpenLaw.row PySem.Challenge.rw_haltday_k72_rules_and_what_is_paid_back).prog 22).name = ("law" : PySem.Str) := by kernel_rfl
      rw [← e]
      exact hmg0
    obtain ⟨fd, hb, hF⟩ := Hd.all_of (w := w) KX G hmg c
    exact ⟨K, fd, Hd.spLaw K, KX, hb, fun H a ns hl _ hS => ⟨a, ns, rfl, hS, hl, fun _ => rfl⟩, hF⟩
