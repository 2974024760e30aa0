import PyProof.Rows.All
import Wide.All
import OpenK.AllK
import Wide.FinOn
import KE.KStateDown
import HandS.ForMost
import HandS.ForExc
import HandS.IsInst
import HandS.Wide
import HandS.Defaults
import HandS.MakeKw
import HandS.MakeKwOnly
import HandS.ExcInit
import HandS.ExcField
import HandS.ClsMeth
import HandS.TupAny
import HandS.Head0
import HandS.Head1
import HandS.Head2
import HandS.HeadEnd
import HandS.HeadHook1
import HandS.HeadHook2
import HandS.HeadHook3
import HandS.HeadHook4
import HandS.SetKeys
import HandS.SetBool
import HandS.Strs
import HandS.Text
import HandS.FStr
import HandS.Style
import HandS.Small
import KE.GoesMore
import KE.GoesEnum
import HandS.Iter
import HandS.Deep
import HandS.ExcIs
import HandS.SetFor
import PySem.Challenge.RW_haltday_k71_tickets_made
set_option Elab.async false
set_option linter.all false
set_option maxRecDepth 100000
set_option maxHeartbeats 4000000
namespace Hd
open PySem PySem.Spec PyProof.Rows L2
theorem if_true_of {b : Bool} {A B : Prop} (h : b = true) (a : A) : if b = true then A else B := by rw [if_pos h]; exact a
theorem if_false_of {b : Bool} {A B : Prop} (h : b = false) (a : B) : if b = true then A else B := by rw [if_neg (by rw [h]; exact Bool.false_ne_true)]; exact a
/-! ### how a heap goes on -/
/-- from H to H': all but what stands at A is kept, tuples and locked things are kept, nothing is let go -/
structure Stp (A : List Addr) (H H' : Hp) : Prop where
  k : ∀ b o, b ∉ A → H b = some o → H' b = some o
  t : ∀ b xs, H b = some (.tup xs) → H' b = some (.tup xs)
  z : ∀ b o u, H b = some (.frz o u) → H' b = some (.frz o u)
  f : ∀ b, H' b = none → H b = none
theorem Stp.refl {A : List Addr} (H : Hp) : Stp A H H := ⟨fun _ _ _ h => h, fun _ _ h => h, fun _ _ _ h => h, fun _ h => h⟩
theorem Stp.trans {A : List Addr} {H H1 H2 : Hp} (a : Stp A H H1) (b : Stp A H1 H2) : Stp A H H2 :=
  ⟨fun c o n h => b.k c o n (a.k c o n h), fun c x h => b.t c x (a.t c x h), fun c o u h => b.z c o u (a.z c o u h), fun c h => a.f c (b.f c h)⟩
theorem Stp.mono {A B : List Addr} {H H1 : Hp} (a : Stp A H H1) (h : ∀ x ∈ A, x ∈ B) : Stp B H H1 :=
  ⟨fun c o n q => a.k c o (fun z => n (h c z)) q, a.t, a.z, a.f⟩
theorem Stp.of_nil {A : List Addr} {H H1 : Hp} (a : Stp [] H H1) : Stp A H H1 := a.mono fun x h => by cases h
theorem Stp.same {H H1 : Hp} (a : Stp [] H H1) : Same H H1 := fun b o h => a.k b o (by simp) h
/-- a new object -/
theorem Stp.new {A : List Addr} {H : Hp} {p : Addr} {o : HO} (h : H p = none) : Stp A H (upd H p o) :=
  ⟨fun b u _ q => by rw [upd_ne (ne_of_none q h)]; exact q, fun b u q => by rw [upd_ne (ne_of_none q h)]; exact q, fun b u v q => by rw [upd_ne (ne_of_none q h)]; exact q,
    fun b q => by
      by_cases e : b = p
      · rw [e]; exact h
      · rw [upd_ne e] at q; exact q⟩
/-- a store to what stands at a -/
theorem Stp.put {A : List Addr} {H : Hp} {a : Addr} {o o' : HO} (h : H a = some o) (ha : a ∈ A := by simp) (hm : Mut (some o) := by exact True.intro) : Stp A H (upd H a o') :=
  ⟨fun b u n q => by rw [upd_ne (show b ≠ a from fun e => n (by rw [e]; exact ha))]; exact q,
    fun b u q => by rw [upd_ne (fun e => by subst e; rw [q] at h; cases h; exact hm)]; exact q,
    fun b u v q => by rw [upd_ne (fun e => by subst e; rw [q] at h; cases h; exact hm)]; exact q,
    fun b q => by
      by_cases e : b = a
      · subst e; rw [upd_same] at q; cases q
      · rw [upd_ne e] at q; exact q⟩
/-- behind H, a store to what was new since H -/
theorem Stp.putNew {A : List Addr} {H H1 : Hp} {a : Addr} {o o' : HO} (s : Stp A H H1) (h : H1 a = some o) (hn : H a = none) (hm : Mut (some o) := by exact True.intro) : Stp A H (upd H1 a o') :=
  ⟨fun b u n q => by rw [upd_ne (ne_of_none q hn)]; exact s.k b u n q,
    fun b u q => by rw [upd_ne (ne_of_none q hn)]; exact s.t b u q,
    fun b u v q => by rw [upd_ne (ne_of_none q hn)]; exact s.z b u v q,
    fun b q => by
      by_cases e : b = a
      · subst e; rw [upd_same] at q; cases q
      · rw [upd_ne e] at q; exact s.f b q⟩
/-- behind H1, H2: what was changed was new since H -/
theorem Stp.back {H H1 H2 : Hp} {x : Addr} (a : Stp [] H H1) (b : Stp [x] H1 H2) (n : H x = none) : Stp [] H H2 :=
  ⟨fun c o _ h => b.k c o (by simpa using ne_of_none h n) (a.k c o (by simp) h), fun c xs h => b.t c xs (a.t c xs h), fun c o u h => b.z c o u (a.z c o u h), fun c h => a.f c (b.f c h)⟩
/-- what was changed was new since H -/
theorem Stp.fresh {A : List Addr} {H H1 H2 : Hp} (a : Stp [] H H1) (b : Stp A H1 H2) (n : ∀ x ∈ A, H x = none) : Stp [] H H2 :=
  ⟨fun c o _ h => b.k c o (fun z => by rw [n c z] at h; cases h) (a.k c o (by simp) h), fun c xs h => b.t c xs (a.t c xs h), fun c o u h => b.z c o u (a.z c o u h), fun c h => a.f c (b.f c h)⟩
theorem Stp.sqT {A : List Addr} {K : PySem.W.Frag} {H H1 : Hp} {a : Addr} {xs : List V} (s : Stp A H H1) (h : SqT K H a xs) : SqT K H1 a xs := by
  rcases h with (h | ⟨o, h⟩) | h
  · exact .inl (.inl (s.t _ _ h))
  · exact .inl (.inr ⟨o, s.z _ _ _ h⟩)
  · exact .inr h
/-! ### what is seen of a heap: a list of objects at unlike addresses -/
structure Sees (H : Hp) (L : List (Addr × HO)) : Prop where
  at_ : ∀ e ∈ L, H e.1 = some e.2
  nd : (L.map (·.1)).Nodup
theorem Sees.nil (H : Hp) : Sees H [] := ⟨fun _ h => (by cases h), by simp⟩
theorem Sees.get {H : Hp} {L : List (Addr × HO)} (s : Sees H L) (i : Nat) {a : Addr} {o : HO} (h : L[i]? = some (a, o) := by rfl) : H a = some o := s.at_ (a, o) (List.mem_of_getElem? h)
theorem Sees.out {H : Hp} {L : List (Addr × HO)} (s : Sees H L) {p : Addr} (h : H p = none) : p ∉ L.map (·.1) := fun q => by
  obtain ⟨e, he, rfl⟩ := List.mem_map.mp q
  rw [s.at_ e he] at h; cases h
theorem Sees.add {H : Hp} {L : List (Addr × HO)} (s : Sees H L) {p : Addr} {o : HO} (h : H p = some o) (n : p ∉ L.map (·.1)) : Sees H (L ++ [(p, o)]) :=
  ⟨fun e he => by
    rcases List.mem_append.mp he with he | he
    · exact s.at_ e he
    · have e1 : e = (p, o) := by simpa using he
      subst e1; exact h, by
    rw [List.map_append, List.nodup_append]
    refine ⟨s.nd, by simp, fun x hx y hy => ?_⟩
    have e1 : y = p := by simpa using hy
    subst e1
    exact fun z => n (z ▸ hx)⟩
theorem Sees.keep {A : List Addr} {H H1 : Hp} {L : List (Addr × HO)} (s : Sees H L) (t : Stp A H H1) (h : ∀ x ∈ A, x ∉ L.map (·.1)) : Sees H1 L :=
  ⟨fun e he => t.k _ _ (fun z => h _ z (List.mem_map.mpr ⟨e, he, rfl⟩)) (s.at_ e he), s.nd⟩
theorem Sees.keep0 {H H1 : Hp} {L : List (Addr × HO)} (s : Sees H L) (t : Stp [] H H1) : Sees H1 L := s.keep t fun x h => by cases h
theorem Sees.new {H : Hp} {L : List (Addr × HO)} (s : Sees H L) {p : Addr} {o : HO} (h : H p = none) : Sees (upd H p o) (L ++ [(p, o)]) :=
  (s.keep0 (Stp.new h)).add upd_same (s.out h)
theorem set_self {α : Type} : ∀ {l : List α} {i : Nat} {x : α}, l[i]? = some x → l.set i x = l
  | [], i, x, h => by simp at h
  | a :: l, 0, x, h => by
    have e : a = x := by simpa using h
    rw [e]; rfl
  | a :: l, i + 1, x, h => by
    show a :: l.set i x = a :: l
    rw [set_self (l := l) (i := i) (by simpa using h)]
theorem nd_set {L : List (Addr × HO)} {i : Nat} {a : Addr} {o o' : HO} (h : L[i]? = some (a, o)) : (L.set i (a, o')).map (·.1) = L.map (·.1) := by
  rw [List.map_set]
  exact set_self (by rw [List.getElem?_map, h]; rfl)
/-- what stands at i is changed, all else seen is kept -/
theorem Sees.chg {H H1 : Hp} {L : List (Addr × HO)} (s : Sees H L) (i : Nat) {a : Addr} {o o' : HO} (t : Stp [a] H H1) (h1 : H1 a = some o') (h : L[i]? = some (a, o) := by rfl) : Sees H1 (L.set i (a, o')) :=
  ⟨fun e he => by
    obtain ⟨j, hj, e1⟩ := List.mem_iff_getElem.mp he
    rw [List.getElem_set] at e1
    have hj2 : j < L.length := by simpa using hj
    by_cases q : i = j
    · rw [if_pos q] at e1
      rw [← e1]; exact h1
    · rw [if_neg q] at e1
      have m : e ∈ L := by rw [← e1]; exact List.getElem_mem hj2
      refine t.k _ _ (fun z => ?_) (s.at_ e m)
      have z1 : e.1 = a := by simpa using z
      obtain ⟨hi, ei⟩ := List.getElem?_eq_some_iff.mp h
      refine q ((List.getElem_inj (h₀ := by simpa using hi) (h₁ := by simpa using hj2) s.nd).mp ?_)
      rw [List.getElem_map, List.getElem_map, ei, e1]
      exact z1.symm, by rw [nd_set h]; exact s.nd⟩
theorem Sees.put {H : Hp} {L : List (Addr × HO)} (s : Sees H L) (i : Nat) {a : Addr} {o o' : HO} (h : L[i]? = some (a, o) := by rfl) (hm : Mut (some o) := by exact True.intro) : Sees (upd H a o') (L.set i (a, o')) :=
  s.chg i (Stp.put (s.get i h) (by simp) hm) upd_same h
theorem Sees.sub {H : Hp} {L M : List (Addr × HO)} (s : Sees H L) (h : M.Sublist L) : Sees H M :=
  ⟨fun e he => s.at_ e (h.subset he), s.nd.sublist (h.map _)⟩
theorem Sees.take {H : Hp} {L : List (Addr × HO)} (s : Sees H L) (n : Nat) : Sees H (L.take n) := s.sub (List.take_sublist _ _)
theorem Sees.ne {H : Hp} {L : List (Addr × HO)} (s : Sees H L) (i j : Nat) {a b : Addr} {o u : HO} (hi : L[i]? = some (a, o) := by rfl) (hj : L[j]? = some (b, u) := by rfl) (n : i ≠ j := by decide) : a ≠ b := fun e => by
  obtain ⟨h1, e1⟩ := List.getElem?_eq_some_iff.mp hi
  obtain ⟨h2, e2⟩ := List.getElem?_eq_some_iff.mp hj
  refine n ((List.getElem_inj (h₀ := by simpa using h1) (h₁ := by simpa using h2) s.nd).mp ?_)
  rw [List.getElem_map, List.getElem_map, e1, e2]
  exact e
/-! ### data of tuples alone -/
mutual
/-- no list in it -/
def flatD : PyData → Bool
  | .list _ => false
  | .tuple ds => flatDs ds
  | .dict _ => false
  | _ => true
def flatDs : List PyData → Bool
  | [] => true
  | d :: ds => flatD d && flatDs ds
end
theorem flatDs_app : ∀ (xs ys : List PyData), flatDs (xs ++ ys) = (flatDs xs && flatDs ys)
  | [], ys => by simp [flatDs]
  | x :: xs, ys => by
    show (flatD x && flatDs (xs ++ ys)) = ((flatD x && flatDs xs) && flatDs ys)
    rw [flatDs_app xs ys, Bool.and_assoc]
mutual
theorem dp_mono {A : List Addr} {K : PySem.W.Frag} {H H1 : Hp} (s : Stp A H H1) : ∀ (d : PyData) (v : V), flatD d = true → Dp K H v d → Dp K H1 v d
  | .none, _, _, h => by cases h; exact .non
  | .bool b, _, _, h => by cases h; exact .bl b
  | .int i, _, _, h => by cases h; exact .int i
  | .str x, _, _, h => by cases h; exact .str x
  | .list ds, _, f, h => by cases f
  | .tuple ds, _, f, h => by
    cases h with
    | tup hs ha => exact .tup (s.sqT hs) (dps_mono s ds _ f ha)
  | .dict _, _, _, h => by cases h
theorem dps_mono {A : List Addr} {K : PySem.W.Frag} {H H1 : Hp} (s : Stp A H H1) : ∀ (ds : List PyData) (vs : List V), flatDs ds = true → DpAll K H vs ds → DpAll K H1 vs ds
  | [], _, _, h => by cases h; exact .nil
  | d :: ds, _, f, h => by
    have f2 : (flatD d && flatDs ds) = true := f
    obtain ⟨f3, f4⟩ := Bool.and_eq_true_iff.mp f2
    cases h with
    | cons h1 h2 => exact .cons (dp_mono s d _ f3 h1) (dps_mono s ds _ f4 h2)
end
/-! ### own error classes -/
/-- the class at C, by the written part, as OexC and XfC ask; no attribute f of its own -/
def oexB (K : PySem.W.Frag) (C : Addr) : Bool := match K.lookup C with
  | some ⟨.type "type", _, .cls cd, sl⟩ => (match cd.mro, sl.toList with
    | .ref C' :: bm, [_, _, _, _, some (.builtin n), _] => C' == C && n == "ValueError.__new__" && !cd.hasDel && cd.hasDict && PySem.HandSPX.refsVE bm
    | _, _ => false)
  | _ => false
theorem oexB_ok {K : PySem.W.Frag} {C : Addr} (q : oexB K C = true) : ∃ nm q N bs bm sn sub ab col dd k0 k1 k2 k3 k5, K.lookup C = some (excClassObj nm q C N bs bm true sn sub ab col dd k0 k1 k2 k3 k5 "ValueError.__new__") ∧ PySem.HandSPX.refsVE bm = true := by
  unfold oexB at q
  split at q
  · rename_i dd cd sl ho
    split at q
    · rename_i C' bm k0 k1 k2 k3 n k5 hm hs
      simp only [Bool.and_eq_true, beq_iff_eq, Bool.not_eq_true'] at q
      obtain ⟨⟨⟨⟨rfl, rfl⟩, hdel⟩, hdc⟩, ht⟩ := q
      obtain ⟨nm, bs, mro, ns, qn, hd, sn, sub, ab, col, del⟩ := cd
      dsimp only at hm hdel hdc
      subst hm hdel hdc
      have hsl : sl = #[k0, k1, k2, k3, some (.builtin "ValueError.__new__"), k5] := by
        obtain ⟨l⟩ := sl
        simp only at hs
        rw [hs]
      subst hsl
      exact ⟨nm, qn, ns, bs, bm, sn, sub, ab, col, dd, k0, k1, k2, k3, k5, ho, ht⟩
    · cases q
  · cases q
/-- what the written part says of an own error class x with the field f, its __init__ at fI; HaltError at CH -/
structure ErrC (K : PySem.W.Frag) (C : Addr) (f : Str) : Prop where
  oex : OexC K C
  xf : XfC K C
  no : PySem.W.findIn K (.ref C) f = some none
  init : PySem.W.findIn K (.ref C) "__init__" = some (some (.ref (He.ma K C "__init__")))
  tI : PySem.W.typeIn K (.ref (He.ma K C "__init__")) = some (.type "function")
def errB (K : PySem.W.Frag) (x f : Str) : Bool :=
  oexB K (He.ga K x) && (decide (PySem.W.findIn K (.ref (He.ga K x)) "__setattr__" = some (some (.builtin "object.__setattr__"))) && (decide (PySem.W.subIn K (.ref (He.ga K x)) (.type "BaseException") = some true) &&
  (decide (PySem.W.typeIn K (.ref (He.ga K x)) = some (.type "type")) && (PySem.W.keepIn K (.ref (He.ga K x)) && (xfB K (He.ga K x) && (decide (PySem.W.findIn K (.ref (He.ga K x)) f = some none) &&
  (decide (PySem.W.findIn K (.ref (He.ga K x)) "__init__" = some (some (.ref (He.ma K (He.ga K x) "__init__")))) && decide (PySem.W.typeIn K (.ref (He.ma K (He.ga K x) "__init__")) = some (.type "function")))))))))
theorem errB_ok {K : PySem.W.Frag} {x f : Str} (h : errB K x f = true) : ErrC K (He.ga K x) f := by
  obtain ⟨h1, h⟩ := He.ba h
  obtain ⟨h2, h⟩ := He.ba h
  obtain ⟨h3, h⟩ := He.ba h
  obtain ⟨h4, h⟩ := He.ba h
  obtain ⟨h5, h⟩ := He.ba h
  obtain ⟨h6, h⟩ := He.ba h
  obtain ⟨h7, h⟩ := He.ba h
  obtain ⟨h8, h9⟩ := He.ba h
  exact ⟨⟨oexB_ok h1, of_decide_eq_true h2, of_decide_eq_true h3, of_decide_eq_true h4, h5⟩, xfB_ok h6, of_decide_eq_true h7, of_decide_eq_true h8, of_decide_eq_true h9⟩
/-- HaltError, whose __init__ is ValueError's -/
structure BaseErr (K : PySem.W.Frag) (C : Addr) : Prop where
  rd : PySem.W.readsIn K C (.type "type") = true
  ga : PySem.W.specialIn K (.ref C) "__getattribute__" = some (some (.builtin "type.__getattribute__"))
  at_ : PySem.W.findCls K (.ref C) (.type "type") "__init__" = some (.val (.builtin "ValueError.__init__"))
def isVE : Option PySem.W.CFound → Bool
  | some (.val (.builtin n)) => n == "ValueError.__init__"
  | _ => false
theorem isVE_ok {o : Option PySem.W.CFound} (h : isVE o = true) : o = some (.val (.builtin "ValueError.__init__")) := by
  unfold isVE at h
  split at h
  · rw [beq_iff_eq.mp h]
  · cases h
def baseErrB (K : PySem.W.Frag) (x : Str) : Bool := PySem.W.readsIn K (He.ga K x) (.type "type") &&
  (decide (PySem.W.specialIn K (.ref (He.ga K x)) "__getattribute__" = some (some (.builtin "type.__getattribute__"))) && isVE (PySem.W.findCls K (.ref (He.ga K x)) (.type "type") "__init__"))
theorem baseErrB_ok {K : PySem.W.Frag} {x : Str} (h : baseErrB K x = true) : BaseErr K (He.ga K x) := by
  obtain ⟨h1, h⟩ := He.ba h
  obtain ⟨h2, h3⟩ := He.ba h
  exact ⟨h1, of_decide_eq_true h2, isVE_ok h3⟩
section
variable {X : Cx} {o e : Expr} {es : List Expr} {to te ta : TE} {t tk : TA} {x m : Str} {p p1 p2 apos pos : Pos} {kws : List Keyword} {E : L2.St → XK} {k n : Nat} {ps ks : List Str} {sp : Sp} {gV : List V → List V → List V}
/-- x.__init__(self, ..), x an own error class that has none of its own -/
theorem pe_hinit {CH : Addr} {pl : Sem Bool} (hg : Gl X x) (hm : X.mg x = some (.ref CH)) (B : BaseErr X.K CH) (ha : PA X (e :: es) t) (hdb : (x == ("__debug__" : Str)) = false := by decide)
    (hc : eval (.Call (.Attribute (.Name x p1) "__init__" p2) (e :: es) [] pos) X.env = (do
      let ov ← eval (.Name x p1) X.env
      standAt p2.atName
      let (f, first) ← holding [ov] (getMethod ov "__init__" pl)
      callWith pos f first (backTo pos (starEach (e :: es) X.env)) (backToKw pos (keywordEach [] X.env))) := by rfl)
    (he : starEach (e :: es) X.env = (false, eval e X.env) :: starEach es X.env := by rfl) (hpl : (backTo pos (starEach es X.env)).any (·.1) = false := by rfl) :
    PE X (.Call (.Attribute (.Name x p1) "__init__" p2) (e :: es) [] pos) (tVeI X.K t) := by
  refine ⟨fun pins s σ H Q I h => ?_⟩
  refine PySem.W.methodCall_KW (ld_glob I hg hm ?_ hdb) hc
  refine PySem.W.method_cls I.kIn B.ga (PySem.W.cls_value I.kIn B.rd B.at_ (by decide +kernel) ?_)
  show wpAny _ _ (callWith pos (Value.builtin "ValueError.__init__") [] (backTo pos (starEach (e :: es) X.env)) []) _ _ _
  refine PyProof.Rows.callWith_method1 (thn (ha.run pos pins _ σ H _ (I.tok _) h) fun us s1 ⟨vs, H1, I1, r1, a, C, ws, ev, hl, T, ea, q⟩ => ?_) he hpl
  subst ev
  cases r1 with
  | @cons _ u0 _ ur ra rw' =>
    obtain rfl : u0 = Value.ref a := ra
    have hlen : ur.length ≤ sizeLine := by
      rw [← Paired.length rw', sizeLine_eq]
      omega
    exact oinit_ok T I1 ea hlen fun s' J => ⟨.non, H1, J, rfl, q⟩
/-! ### calls, by name: what is let out is wished for at the caller's slots -/
/-- nothing is let out -/
theorem pL {X : Cx} (σ : L2.St) : PassesAt (L2.CX X.prog X.w) X σ E0 := fun _ _ _ _ _ _ h => by
  obtain ⟨_, _, _, _, _, _, _, _, _, _, _, _, z⟩ := h
  exact z.elim
/-- the def at f: its promise, its parameters one by one -/
structure Cal (P : Program) (w : World) (K : PySem.W.Frag) (mg : Str → Option Value) (base : Heap) (k : Nat) (f : Addr) (ps : List Str) (sp : Sp) : Prop where
  ex : ∃ fd, FnOk P w K mg base (L2.CX P w) k f fd ps sp ∧ Binds K fd ps []
  kp : PySem.W.keepIn K (.ref f) = true
/-- .. called with n values and the keywords ks -/
structure CalK (P : Program) (w : World) (K : PySem.W.Frag) (mg : Str → Option Value) (base : Heap) (k : Nat) (f : Addr) (ps : List Str) (sp : Sp) (n : Nat) (ks : List Str) (gV : List V → List V → List V) : Prop where
  ex : ∃ fd g, FnOk P w K mg base (L2.CX P w) k f fd ps sp ∧ KBn K fd ps n ks g gV
  kp : PySem.W.keepIn K (.ref f) = true
theorem pe_cal {f : Addr} (C : Cal X.prog X.w X.K X.mg X.base k f ps sp) (hr : Room k X.A) (hg : Gl X x) (hm : X.mg x = some (.ref f)) (hx : ∀ σ, PassesAt (L2.CX X.prog X.w) X σ (E σ)) (ha : PA X (e :: es) t)
    (hdb : (x == ("__debug__" : Str)) = false := by decide) (he : starEach (e :: es) X.env = (false, eval e X.env) :: starEach es X.env := by rfl) (hpl : (backTo pos (starEach es X.env)).any (·.1) = false := by rfl) :
    PE X (.Call (.Name x p) (e :: es) [] pos) (tCallS sp E t) := by
  obtain ⟨fd, F, b⟩ := C.ex
  exact pe_callS F hr hg hm C.kp b hx ha hdb he hpl
/-- f() -/
theorem pe_cal0 {f : Addr} (C : Cal X.prog X.w X.K X.mg X.base k f ps sp) (hr : Room k X.A) (hg : Gl X x) (hm : X.mg x = some (.ref f)) (hx : ∀ σ, PassesAt (L2.CX X.prog X.w) X σ (E σ))
    (hdb : (x == ("__debug__" : Str)) = false := by decide) : PE X (.Call (.Name x p) [] [] pos) (tCallS sp E tNil) := by
  obtain ⟨fd, F, b⟩ := C.ex
  refine ⟨fun pins s σ H Q I h => ?_⟩
  refine wpAny_Call_Name_kw (ld_glob I hg hm ?_ hdb)
  exact PySem.W.callWith_K0 I.kIn C.kp (run_fnS (us := []) (vs := []) F hr b (hx σ) I .nil h)
/-- the callee with keywords runs -/
theorem run_calK {pins : List (Addr × Obj)} {σ : L2.St} {H : Hp} {s : Shared} {Q : VK} {us ws : List Value} {vs zs : List V} {f : Addr} {fd : FuncData} {g : List Value → List Value → List Value} (F : FnOk X.prog X.w X.K X.mg X.base (L2.CX X.prog X.w) k f fd ps sp) (hr : Room k X.A) (hb : KBn X.K fd ps n ks g gV) (hx : PassesAt (L2.CX X.prog X.w) X σ (E σ))
    (I : Inv X pins σ H s) (r : Vals vs us) (rz : Vals zs ws) (l1 : vs.length = n) (l2 : zs.length = ks.length) (h : sp (gV vs zs) H Q (E σ)) : wpAny (model X.prog X.w) X.A (call (.ref f) us (ks.zip ws)) (EP X pins σ Q) X.xe s := by
  have r2 := hb.rel r rz
  refine wpAny_call (codeAny_mono (F.run X.A X.stack s H ⟨us, ks.zip ws⟩ (g us ws) (gV vs zs) Q (E σ) hr I.env0 (hb.to s us ws I.kIn (r.length.symm.trans l1) (rz.length.symm.trans l2)) r2 h) fun r s' hq => ?_)
  cases r with
  | error e => exact hx pins H s e s' I hq
  | ok fl =>
    cases fl with
    | ret u => exact I.after hq
    | next => exact False.elim hq
    | brk => exact False.elim hq
    | cont => exact False.elim hq
def tCallKS (n m : Nat) (sp : Sp) (gV : List V → List V → List V) (E : L2.St → XK) (t tk : TA) : TE := fun σ H Q => t σ H fun vs H1 => tk σ H1 fun zs H2 => vs.length = n ∧ zs.length = m ∧ sp (gV vs zs) H2 Q (E σ)
theorem pe_calK {f : Addr} (C : CalK X.prog X.w X.K X.mg X.base k f ps sp n ks gV) (hr : Room k X.A) (hg : Gl X x) (hm : X.mg x = some (.ref f)) (hx : ∀ σ, PassesAt (L2.CX X.prog X.w) X σ (E σ)) (ha : PA X (e :: es) t) (hkw : PK X kws tk)
    (hall : (backToKw pos (keywordEach kws X.env)).all (·.1.isSome) = true := by rfl) (hks : (backToKw pos (keywordEach kws X.env)).filterMap (·.1) = ks := by rfl)
    (hdb : (x == ("__debug__" : Str)) = false := by decide) (he : starEach (e :: es) X.env = (false, eval e X.env) :: starEach es X.env := by rfl)
    (hpl : ((backTo pos (starEach (e :: es) X.env)).any (·.1) || (backToKw pos (keywordEach kws X.env)).any (·.1.isNone)) = false := by rfl) :
    PE X (.Call (.Name x p) (e :: es) kws pos) (tCallKS n ks.length sp gV E t tk) := by
  obtain ⟨fd, g, F, b⟩ := C.ex
  refine ⟨fun pins s σ H Q I h => ?_⟩
  refine wpAny_Call_Name_kw (ld_glob I hg hm ?_ hdb)
  refine PySem.W.callWith_KW (h₀ := X.base) I.ok.mod.kin C.kp hall (thn (ha.run pos pins s σ H _ I h) fun us s1 ⟨vs, H1, I1, r, q⟩ => ?_) hpl he
  refine thn (hkw.run pos pins s1 σ H1 _ I1 q) fun ws s2 ⟨zs, H2, I2, rz, l1, l2, q2⟩ => ⟨I2.kIn, ?_⟩
  rw [hks]
  exact run_calK F hr b (hx σ) I2 r rz l1 l2 q2
theorem pe_calK0 {f : Addr} (C : CalK X.prog X.w X.K X.mg X.base k f ps sp n ks gV) (hr : Room k X.A) (hg : Gl X x) (hm : X.mg x = some (.ref f)) (hx : ∀ σ, PassesAt (L2.CX X.prog X.w) X σ (E σ)) (hkw : PK X kws tk)
    (hall : (backToKw pos (keywordEach kws X.env)).all (·.1.isSome) = true := by rfl) (hks : (backToKw pos (keywordEach kws X.env)).filterMap (·.1) = ks := by rfl)
    (hdb : (x == ("__debug__" : Str)) = false := by decide)
    (hpl : ((backTo pos (starEach [] X.env)).any (·.1) || (backToKw pos (keywordEach kws X.env)).any (·.1.isNone)) = false := by rfl) :
    PE X (.Call (.Name x p) [] kws pos) (tCallKS n ks.length sp gV E tNil tk) := by
  obtain ⟨fd, g, F, b⟩ := C.ex
  refine ⟨fun pins s σ H Q I h => ?_⟩
  refine wpAny_Call_Name_kw (ld_glob I hg hm ?_ hdb)
  refine PySem.W.callWith_KW0 (h₀ := X.base) I.ok.mod.kin C.kp hall ?_ hpl
  refine thn (hkw.run pos pins s σ H _ I h) fun ws s2 ⟨zs, H2, I2, rz, l1, l2, q2⟩ => ⟨I2.kIn, ?_⟩
  rw [hks]
  exact run_calK (us := []) (vs := []) F hr b (hx σ) I2 .nil rz l1 l2 q2
/-! ### new instances -/
def tMakeKS (C : Addr) (n m : Nat) (sp : Sp) (gV : List V → List V → List V) (E : L2.St → XK) (t tk : TA) : TE := fun σ H Q => t σ H fun vs H1 => tk σ H1 fun zs H2 => vs.length = n ∧ zs.length = m ∧ ∀ x dx, H2 x = none → H2 dx = none → dx ≠ x →
  sp (gV (.ref x :: vs) zs) (upd (upd H2 dx (.own x)) x (.ins C dx [])) (fun v H3 => v = .non ∧ Q (.ref x) H3) (E σ)
theorem run_makeKS {pins : List (Addr × Obj)} {σ : L2.St} {H : Hp} {s : Shared} {Q : VK} {us ws : List Value} {vs zs : List V} {f C : Addr} {fd : FuncData} {g : List Value → List Value → List Value} (M : Mk X.K C f) (F : FnOk X.prog X.w X.K X.mg X.base (L2.CX X.prog X.w) k f fd ps sp) (hr : Room (k + 1) X.A) (hb : KBn X.K fd ps (n + 1) ks g gV) (hx : PassesAt (L2.CX X.prog X.w) X σ (E σ))
    (I : Inv X pins σ H s) (r : Vals vs us) (rz : Vals zs ws) (l1 : vs.length = n) (l2 : zs.length = ks.length)
    (h : ∀ x dx, H x = none → H dx = none → dx ≠ x → sp (gV (.ref x :: vs) zs) (upd (upd H dx (.own x)) x (.ins C dx [])) (fun v H2 => v = .non ∧ Q (.ref x) H2) (E σ)) :
    wpAny (model X.prog X.w) X.A (call (.ref C) us (ks.zip ws)) (EP X pins σ Q) X.xe s := by
  have hq := h (s.heap.objs.size + 1) s.heap.objs.size (I.hok.fresh (Nat.le_succ _)) (I.hok.fresh (Nat.le_refl _)) (Nat.ne_of_lt (Nat.lt_succ_self _))
  have I2 := Inv.made (C := C) I
  have r1 : Vals (V.ref (s.heap.objs.size + 1) :: vs) (Value.ref (s.heap.objs.size + 1) :: us) := .cons rfl r
  have r2 := hb.rel r1 rz
  have n1 : (Value.ref (s.heap.objs.size + 1) :: us).length = n + 1 := by
    rw [List.length_cons, ← r.length, l1]
  refine wpAny_call (make_map (f := f) I.kIn M.makes M.init (beq_iff_eq.mp M.fn) (codeAny_mono (F.run _ X.stack _ _ ⟨Value.ref (s.heap.objs.size + 1) :: us, ks.zip ws⟩ (g (Value.ref (s.heap.objs.size + 1) :: us) ws) _ _ (E σ) (hr.make C us (ks.zip ws))
    (I2.env0.make C us (ks.zip ws)) (hb.to _ (Value.ref (s.heap.objs.size + 1) :: us) ws I2.kIn n1 (rz.length.symm.trans l2)) r2 hq) fun r s' hq' => ?_))
  cases r with
  | error e => exact hx pins _ _ e s' I2 hq'
  | ok fl =>
    cases fl with
    | ret u =>
      obtain ⟨v, H', I3, rv, ev, q3⟩ := I2.after hq'
      subst ev
      exact ⟨rv, ⟨V.ref (s.heap.objs.size + 1), H', I3, rfl, q3⟩⟩
    | next => exact False.elim hq'
    | brk => exact False.elim hq'
    | cont => exact False.elim hq'
/-- C(k = v, ..) -/
theorem pe_mk0 {f C : Addr} (M : Mk X.K C f) (F : CalK X.prog X.w X.K X.mg X.base k f ps sp 1 ks gV) (hr : Room (k + 1) X.A) (hg : Gl X x) (hm : X.mg x = some (.ref C)) (hx : ∀ σ, PassesAt (L2.CX X.prog X.w) X σ (E σ)) (hkw : PK X kws tk)
    (hall : (backToKw pos (keywordEach kws X.env)).all (·.1.isSome) = true := by rfl) (hks : (backToKw pos (keywordEach kws X.env)).filterMap (·.1) = ks := by rfl) (hdb : (x == ("__debug__" : Str)) = false := by decide)
    (hpl : ((backTo pos (starEach [] X.env)).any (·.1) || (backToKw pos (keywordEach kws X.env)).any (·.1.isNone)) = false := by rfl) :
    PE X (.Call (.Name x p) [] kws pos) (tMakeKS C 0 ks.length sp gV E tNil tk) := by
  obtain ⟨fd, g, F, b⟩ := F.ex
  refine ⟨fun pins s σ H Q I h => ?_⟩
  refine wpAny_Call_Name_kw (ld_glob I hg hm ?_ hdb)
  refine PySem.W.callWith_KW0 (h₀ := X.base) I.ok.mod.kin M.kp hall ?_ hpl
  refine thn (hkw.run pos pins s σ H _ I h) fun ws s2 ⟨zs, H2, I2, rz, l1, l2, q2⟩ => ⟨I2.kIn, ?_⟩
  rw [hks]
  exact run_makeKS (us := []) (vs := []) M F hr b (hx σ) I2 .nil rz rfl l2 q2
/-- C(e, .., k = v, ..) -/
theorem pe_mk {f C : Addr} (M : Mk X.K C f) (F : CalK X.prog X.w X.K X.mg X.base k f ps sp (n + 1) ks gV) (hr : Room (k + 1) X.A) (hg : Gl X x) (hm : X.mg x = some (.ref C)) (hx : ∀ σ, PassesAt (L2.CX X.prog X.w) X σ (E σ)) (ha : PA X (e :: es) t) (hkw : PK X kws tk)
    (hall : (backToKw pos (keywordEach kws X.env)).all (·.1.isSome) = true := by rfl) (hks : (backToKw pos (keywordEach kws X.env)).filterMap (·.1) = ks := by rfl) (hdb : (x == ("__debug__" : Str)) = false := by decide)
    (he : starEach (e :: es) X.env = (false, eval e X.env) :: starEach es X.env := by rfl) (hpl : ((backTo pos (starEach (e :: es) X.env)).any (·.1) || (backToKw pos (keywordEach kws X.env)).any (·.1.isNone)) = false := by rfl) :
    PE X (.Call (.Name x p) (e :: es) kws pos) (tMakeKS C n ks.length sp gV E t tk) := by
  obtain ⟨fd, g, F, b⟩ := F.ex
  refine ⟨fun pins s σ H Q I h => ?_⟩
  refine wpAny_Call_Name_kw (ld_glob I hg hm ?_ hdb)
  refine PySem.W.callWith_KW (h₀ := X.base) I.ok.mod.kin M.kp hall (thn (ha.run pos pins s σ H _ I h) fun us s1 ⟨vs, H1, I1, r, q⟩ => ?_) hpl he
  refine thn (hkw.run pos pins s1 σ H1 _ I1 q) fun ws s2 ⟨zs, H2, I2, rz, l1, l2, q2⟩ => ⟨I2.kIn, ?_⟩
  rw [hks]
  exact run_makeKS M F hr b (hx σ) I2 r rz l1 l2 q2
/-- a constant of the module -/
theorem pe_gint {i : Int} (hg : Gl X x) (h : ∃ t, X.mg x = some (.int i t)) (hdb : (x == ("__debug__" : Str)) = false := by decide) : PE X (.Name x pos) (tC (.int i)) := by
  obtain ⟨t, h⟩ := h
  exact pe_glob hg h ⟨t, rfl⟩ hdb
theorem pe_gstr {z : Str} (hg : Gl X x) (h : ∃ t, X.mg x = some (.str z t)) (hdb : (x == ("__debug__" : Str)) = false := by decide) : PE X (.Name x pos) (tC (.str z)) := by
  obtain ⟨t, h⟩ := h
  exact pe_glob hg h ⟨t, rfl⟩ hdb
end
/-! ### == and != of instances without an own __eq__ -/
def cmpB (K : PySem.W.Frag) (C : Addr) : Bool := match K.lookup C with
  | some ⟨.type "type", _, .cls cd, sl⟩ => (match cd.mro, sl.toList with
    | [.ref C', .type "object"], [_, _, _, _, some (.builtin _), _] => C' == C && !cd.hasDel && PySem.W.nsOkIn K cd.ns && PySem.W.nsIn K cd.ns "__eq__" == some none && PySem.W.nsIn K cd.ns "__ne__" == some none
    | _, _ => false)
  | _ => false
theorem cmpB_ok {K : PySem.W.Frag} {C x dx : Addr} {h : Heap} (X : K.In h) (q : cmpB K C = true) (hx : h.get? x = some (PySem.W.instObj C dx)) : h.CmpInst x C [.type "object"] := by
  unfold cmpB at q
  split at q
  · rename_i dd cd sl ho
    split at q
    · rename_i C' k0 k1 k2 k3 n k5 hm hs
      simp only [Bool.and_eq_true, beq_iff_eq, Bool.not_eq_true'] at q
      obtain ⟨⟨⟨⟨rfl, hdel⟩, hok⟩, he⟩, hne⟩ := q
      obtain ⟨nm, bs, mro, ns, qn, hd, sn, sub, ab, col, del⟩ := cd
      dsimp only at hm hdel hok he hne
      subst hm hdel
      have hsl : sl = #[k0, k1, k2, k3, some (.builtin n), k5] := by
        obtain ⟨l⟩ := sl
        simp only at hs
        rw [hs]
      subst hsl
      exact ⟨_, nm, qn, ns, bs, hd, sn, sub, ab, col, dd, k0, k1, k2, k3, k5, n, _, hx, rfl, X _ _ ho, .of_isNs (PySem.W.isNs_of_in X hok), PySem.W.nsMap_none_of_in X hok he, PySem.W.nsMap_none_of_in X hok hne⟩
    · cases q
  · cases q
def rEqI (K : PySem.W.Frag) (neg : Bool) : R2 := fun x y H Q => ∃ a b C D dx dy fs gs, x = .ref a ∧ y = .ref b ∧ H a = some (.ins C dx fs) ∧ H b = some (.ins D dy gs) ∧ cmpB K C = true ∧ cmpB K D = true ∧ Q (.bl (if neg then !decide (a = b) else decide (a = b))) H
theorem op_eqI {X : Cx} (hu : X.A.units + 1 < cLine) : OpR X (compareOp .Eq) (rEqI X.K false) := by
  intro pins s σ H x y u v Q I r1 r2 h
  obtain ⟨a, b, C, D, dx, dy, fs, gs, rfl, rfl, ha, hb, hC, hD, q⟩ := h
  cases (show u = Value.ref a from r1)
  cases (show v = Value.ref b from r2)
  obtain ⟨_, oa, _⟩ := ins_get I.hok ha
  obtain ⟨_, ob, _⟩ := ins_get I.hok hb
  have ca := cmpB_ok I.kIn hC oa.obj
  have cb := cmpB_ok I.kIn hD ob.obj
  obtain ⟨hp, g, d, t, os⟩ := s
  by_cases e : a = b
  · subst e
    refine compareOp_eq_same F.cmp_object ca (by omega) ⟨.bl true, H, I, rfl, ?_⟩
    simpa using q
  · refine compareOp_eq_other F.cmp_object F.cmp_object ca cb e (by omega) ⟨.bl false, H, I, rfl, ?_⟩
    simpa [e] using q
theorem op_neI {X : Cx} (hu : X.A.units + 1 < cLine) : OpR X (compareOp .NotEq) (rEqI X.K true) := by
  intro pins s σ H x y u v Q I r1 r2 h
  obtain ⟨a, b, C, D, dx, dy, fs, gs, rfl, rfl, ha, hb, hC, hD, q⟩ := h
  cases (show u = Value.ref a from r1)
  cases (show v = Value.ref b from r2)
  obtain ⟨_, oa, _⟩ := ins_get I.hok ha
  obtain ⟨_, ob, _⟩ := ins_get I.hok hb
  have ca := cmpB_ok I.kIn hC oa.obj
  have cb := cmpB_ok I.kIn hD ob.obj
  obtain ⟨hp, g, d, t, os⟩ := s
  by_cases e : a = b
  · subst e
    refine compareOp_ne_same F.cmp_object ca (by omega) ⟨.bl false, H, I, rfl, ?_⟩
    simpa using q
  · refine compareOp_ne_other F.cmp_object F.cmp_object ca cb e (by omega) ⟨.bl true, H, I, rfl, ?_⟩
    simpa [e] using q
/-! ### raising an own error -/
/-- what an own error's __init__ promises -/
def spErr (C : Addr) (f : Str) : Sp := fun vs H Q _ => ∃ (e : Addr) (v : V), vs = [.ref e, v] ∧ H e = some (exo e C none) ∧ ∀ dx, H dx = none → dx ≠ e → Q .non (upd (upd H dx (exd dx [(f, v)])) e (exo e C (some dx)))
/-- x(e): an error with the field f -/
def tErr (C : Addr) (f : Str) (ta : TA) : L2.St → Hp → XK → Prop := fun σ H Q => ta σ H fun vs H1 => ∃ v, vs = [v] ∧ ∀ d, H1 d = none → Q (.ref C) (some d) (upd H1 d (.xd [(f, v)]))
theorem PA.cl {X : Cx} {es : List Expr} {t : TA} (h : PA X es t) : PA X es (fun σ H Q => ∃ Q0, t σ H Q0 ∧ ∀ vs H1, Q0 vs H1 → Q vs H1) :=
  ⟨fun pos pins s σ H Q I ⟨Q0, q, m⟩ => wpAny_mono (h.run pos pins s σ H Q0 I q) (fun us s1 ⟨vs, H1, I1, r, z⟩ => ⟨vs, H1, I1, r, m _ _ z⟩) fun _ _ z => z⟩
theorem pmk_err {X : Cx} {e : Expr} {ta : TA} {p pos : Pos} {x : Str} {C : Addr} {f : Str} {k : Nat} (T : ErrC X.K C f) (F : Cal X.prog X.w X.K X.mg X.base k (He.ma X.K C "__init__") ["self", f] (spErr C f)) (hr : Room (k + 1) X.A) (hg : Gl X x) (hm : X.mg x = some (.ref C)) (ha : PA X [e] ta)
    (hdb : (x == ("__debug__" : Str)) = false := by decide) (he : starEach [e] X.env = (false, eval e X.env) :: starEach [] X.env := by rfl) (hpl : (backTo pos (starEach [] X.env)).any (·.1) = false := by rfl) :
    PMk X (.Call (.Name x p) [e] [] pos) (tErr C f ta) := by
  obtain ⟨fd, F1, b⟩ := F.ex
  have z := pmk_oex (p := p) (pos := pos) T.oex T.init T.tI F1 hr b .nil (passL) hg hm (PA.cl ha) hdb he hpl
  intro pins s σ H Q I h
  refine z pins s σ H Q I ⟨_, h, fun vs H1 ⟨v, ev, q⟩ => ?_⟩
  subst ev
  refine ⟨by show 1 ≤ 1000; decide, fun a na => ⟨a, v, rfl, upd_same, fun dx ndx ne => ⟨rfl, dx, [(f, v)], upd_same, ?_, ?_, ?_⟩⟩⟩
  · rw [upd_ne ne, upd_same]
  · rw [upd_ne ne] at ndx; exact ndx
  · rw [upd_ne ne] at ndx
    have e : upd (del (upd (upd (upd H1 a (exo a C none)) dx (exd dx [(f, v)])) a (exo a C (some dx))) a) dx (.xd [(f, v)]) = upd H1 dx (.xd [(f, v)]) := by
      funext b
      by_cases e1 : b = dx
      · rw [e1, upd_same, upd_same]
      · rw [upd_ne e1, upd_ne e1]
        by_cases e2 : b = a
        · rw [e2, del_same, na]
        · rw [del_ne e2, upd_ne e2, upd_ne e1, upd_ne e2]
    rw [e]
    exact q dx ndx
/-! ### things of any kind: what a value is, as data; lists and dicts that stand outside A -/
mutual
inductive Td (K : PySem.W.Frag) (A : List Addr) (H : Hp) : V → PyData → Prop
  | non : Td K A H .non .none
  | bl (b : Bool) : Td K A H (.bl b) (.bool b)
  | int (i : Int) : Td K A H (.int i) (.int i)
  | str (x : Str) : Td K A H (.str x) (.str x)
  | lst {a : Addr} {xs : List V} {ds : List PyData} : SqL K H a xs → a ∉ A → TdAll K A H xs ds → Td K A H (.ref a) (.list ds)
  | tup {a : Addr} {xs : List V} {ds : List PyData} : SqT K H a xs → TdAll K A H xs ds → Td K A H (.ref a) (.tuple ds)
  | dic {a : Addr} {kvs : List (Key × V)} : H a = some (.dK kvs) → a ∉ A → Td K A H (.ref a) (.dict [])
inductive TdAll (K : PySem.W.Frag) (A : List Addr) (H : Hp) : List V → List PyData → Prop
  | nil : TdAll K A H [] []
  | cons {v : V} {vs : List V} {d : PyData} {ds : List PyData} : Td K A H v d → TdAll K A H vs ds → TdAll K A H (v :: vs) (d :: ds)
end
section
variable {K : PySem.W.Frag} {A : List Addr} {H H1 : Hp}
theorem Stp.sqL (s : Stp A H H1) {a : Addr} {xs : List V} (h : SqL K H a xs) (n : a ∉ A) : SqL K H1 a xs := by
  rcases h with (h | ⟨o, h⟩) | h
  · exact .inl (.inl (s.k _ _ n h))
  · exact .inl (.inr ⟨o, s.z _ _ _ h⟩)
  · exact .inr h
mutual
theorem Td.mono (s : Stp A H H1) : ∀ {d : PyData} {v : V}, Td K A H v d → Td K A H1 v d
  | _, _, .non => .non
  | _, _, .bl b => .bl b
  | _, _, .int i => .int i
  | _, _, .str x => .str x
  | _, _, .lst h n t => .lst (s.sqL h n) n (TdAll.mono s t)
  | _, _, .tup h t => .tup (s.sqT h) (TdAll.mono s t)
  | _, _, .dic h n => .dic (s.k _ _ n h) n
theorem TdAll.mono (s : Stp A H H1) : ∀ {ds : List PyData} {vs : List V}, TdAll K A H vs ds → TdAll K A H1 vs ds
  | _, _, .nil => .nil
  | _, _, .cons h t => .cons (Td.mono s h) (TdAll.mono s t)
end
mutual
/-- outside another address too -/
theorem Td.away {B : List Addr} (h : ∀ a ∈ B, a ∈ A) : ∀ {d : PyData} {v : V}, Td K A H v d → Td K B H v d
  | _, _, .non => .non
  | _, _, .bl b => .bl b
  | _, _, .int i => .int i
  | _, _, .str x => .str x
  | _, _, .lst q n t => .lst q (fun z => n (h _ z)) (TdAll.away h t)
  | _, _, .tup q t => .tup q (TdAll.away h t)
  | _, _, .dic q n => .dic q (fun z => n (h _ z))
theorem TdAll.away {B : List Addr} (h : ∀ a ∈ B, a ∈ A) : ∀ {ds : List PyData} {vs : List V}, TdAll K A H vs ds → TdAll K B H vs ds
  | _, _, .nil => .nil
  | _, _, .cons q t => .cons (Td.away h q) (TdAll.away h t)
end
mutual
/-- data of tuples alone stands outside anything -/
theorem Td.any {B : List Addr} : ∀ {d : PyData} {v : V}, flatD d = true → Td K A H v d → Td K B H v d
  | .none, _, _, h => by cases h; exact .non
  | .bool b, _, _, h => by cases h; exact .bl b
  | .int i, _, _, h => by cases h; exact .int i
  | .str x, _, _, h => by cases h; exact .str x
  | .list ds, _, f, _ => by cases f
  | .tuple ds, _, f, h => by
    cases h with
    | tup q t => exact .tup q (TdAll.any f t)
  | .dict _, _, f, _ => by cases f
theorem TdAll.any {B : List Addr} : ∀ {ds : List PyData} {vs : List V}, flatDs ds = true → TdAll K A H vs ds → TdAll K B H vs ds
  | [], _, _, h => by cases h; exact .nil
  | d :: ds, _, f, h => by
    obtain ⟨f1, f2⟩ := Bool.and_eq_true_iff.mp (show (flatD d && flatDs ds) = true from f)
    cases h with
    | cons q t => exact .cons (Td.any f1 q) (TdAll.any f2 t)
end
mutual
/-- no dict in it -/
def nodic : PyData → Bool
  | .list ds => nodics ds
  | .tuple ds => nodics ds
  | .dict _ => false
  | _ => true
def nodics : List PyData → Bool
  | [] => true
  | d :: ds => nodic d && nodics ds
end
mutual
theorem Td.dp : ∀ {d : PyData} {v : V}, nodic d = true → Td K A H v d → Dp K H v d
  | .none, _, _, h => by cases h; exact .non
  | .bool b, _, _, h => by cases h; exact .bl b
  | .int i, _, _, h => by cases h; exact .int i
  | .str x, _, _, h => by cases h; exact .str x
  | .list ds, _, f, h => by
    cases h with
    | lst q n t => exact .lst q (TdAll.dp f t)
  | .tuple ds, _, f, h => by
    cases h with
    | tup q t => exact .tup q (TdAll.dp f t)
  | .dict _, _, f, _ => by cases f
theorem TdAll.dp : ∀ {ds : List PyData} {vs : List V}, nodics ds = true → TdAll K A H vs ds → DpAll K H vs ds
  | [], _, _, h => by cases h; exact .nil
  | d :: ds, _, f, h => by
    obtain ⟨f1, f2⟩ := Bool.and_eq_true_iff.mp (show (nodic d && nodics ds) = true from f)
    cases h with
    | cons q t => exact .cons (Td.dp f1 q) (TdAll.dp f2 t)
end
theorem TdAll.len : ∀ {ds : List PyData} {vs : List V}, TdAll K A H vs ds → vs.length = ds.length
  | _, _, .nil => rfl
  | _, _, .cons _ t => congrArg Nat.succ t.len
theorem TdAll.get : ∀ {ds : List PyData} {vs : List V} {i : Nat} {v : V}, TdAll K A H vs ds → vs[i]? = some v → ∃ d, ds[i]? = some d ∧ Td K A H v d
  | _, _, _, _, .nil, e => by simp at e
  | _, _, 0, _, .cons h _, e => by simp at e; subst e; exact ⟨_, rfl, h⟩
  | _, _, i + 1, v, .cons _ t, e => by
    obtain ⟨d, h1, h2⟩ := TdAll.get (i := i) (v := v) t (by simpa using e)
    exact ⟨d, by simpa using h1, h2⟩
theorem TdAll.getD : ∀ {ds : List PyData} {vs : List V} {i : Nat} {d : PyData}, TdAll K A H vs ds → ds[i]? = some d → ∃ v, vs[i]? = some v ∧ Td K A H v d
  | _, _, _, _, .nil, e => by simp at e
  | _, _, 0, _, .cons h _, e => by simp at e; subst e; exact ⟨_, rfl, h⟩
  | _, _, i + 1, d, .cons _ t, e => by
    obtain ⟨v, h1, h2⟩ := TdAll.getD (i := i) (d := d) t (by simpa using e)
    exact ⟨v, by simpa using h1, h2⟩
theorem TdAll.app : ∀ {ds es : List PyData} {vs ws : List V}, TdAll K A H vs ds → TdAll K A H ws es → TdAll K A H (vs ++ ws) (ds ++ es)
  | _, _, _, _, .nil, s => s
  | _, _, _, _, .cons r t, s => .cons r (t.app s)
theorem TdAll.take : ∀ {ds : List PyData} {vs : List V} (n : Nat), TdAll K A H vs ds → TdAll K A H (vs.take n) (ds.take n)
  | _, _, 0, _ => .nil
  | _, _, _ + 1, .nil => .nil
  | _, _, n + 1, .cons r t => .cons r (t.take n)
theorem TdAll.drop : ∀ {ds : List PyData} {vs : List V} (n : Nat), TdAll K A H vs ds → TdAll K A H (vs.drop n) (ds.drop n)
  | _, _, 0, r => r
  | _, _, _ + 1, .nil => .nil
  | _, _, n + 1, .cons _ t => t.drop n
theorem TdAll.ints : ∀ ns : List Int, TdAll K A H (ns.map V.int) (ns.map PyData.int)
  | [] => .nil
  | n :: r => .cons (.int n) (TdAll.ints r)
theorem TdAll.flatMono {B : List Addr} {ds : List PyData} {vs : List V} (h : TdAll K A H vs ds) (f : flatDs ds = true) (s : Stp B H H1) : TdAll K A H1 vs ds := ((h.any f).mono s).any f
theorem Td.flatMono {B : List Addr} {d : PyData} {v : V} (h : Td K A H v d) (f : flatD d = true) (s : Stp B H H1) : Td K A H1 v d := ((h.any f).mono s).any f
def kindD : PyData → String
  | .none => "NoneType"
  | .bool _ => "bool"
  | .int _ => "int"
  | .str _ => "str"
  | .list _ => "list"
  | .tuple _ => "tuple"
  | .dict _ => "dict"
theorem sqL_ty {a : Addr} {xs : List V} (h : SqL K H a xs) : TyX K H (.ref a) (.type "list") := by
  rcases h with (h | ⟨o, h⟩) | ⟨o, its, n, e, c, _⟩
  · exact .base (.lst h)
  · exact .base (.frz h)
  · exact .kList e c
theorem sqT_ty {a : Addr} {xs : List V} (h : SqT K H a xs) : TyX K H (.ref a) (.type "tuple") := by
  rcases h with (h | ⟨o, h⟩) | ⟨o, its, n, e, c, _⟩
  · exact .base (.tup h)
  · exact .fTuple h
  · exact .kTuple e c
theorem Td.ty : ∀ {d : PyData} {v : V}, Td K A H v d → TyX K H v (.type (kindD d))
  | _, _, .non => .base .non
  | _, _, .bl b => .base (.bl b)
  | _, _, .int i => .base (.int i)
  | _, _, .str x => .base (.str x)
  | _, _, .lst h _ _ => sqL_ty h
  | _, _, .tup h _ => sqT_ty h
  | _, _, .dic h _ => .base (.dK h)
end
/-- isinstance(x, T), T a built-in kind -/
def isT : String → PyData → Bool
  | "int", .int _ => true
  | "int", .bool _ => true
  | "bool", .bool _ => true
  | "str", .str _ => true
  | "list", .list _ => true
  | "tuple", .tuple _ => true
  | "dict", .dict _ => true
  | _, _ => false
def kinds6 : List String := ["int", "bool", "str", "list", "tuple", "dict"]
def isK (T k : String) : Bool := k == T || (T == "int" && k == "bool")
theorem kit_tab : ∀ T ∈ kinds6, ∀ k ∈ ["NoneType", "bool", "int", "str", "list", "tuple", "dict"], kitB k T = some (isK T k) := by decide +kernel
theorem isT_tab {T : String} (hT : T ∈ kinds6) (d : PyData) : isK T (kindD d) = isT T d := by
  have e : T = "int" ∨ T = "bool" ∨ T = "str" ∨ T = "list" ∨ T = "tuple" ∨ T = "dict" := by simpa [kinds6] using hT
  rcases e with rfl | rfl | rfl | rfl | rfl | rfl <;> cases d <;> first | rfl | (simp [isK, kindD, isT])
theorem kit_isT {T : String} (hT : T ∈ kinds6) (d : PyData) : kitB (kindD d) T = some (isT T d) := by
  rw [← isT_tab hT d]
  exact kit_tab T hT _ (by cases d <;> simp [kindD])
theorem isT_tuple {d : PyData} (h : isT "tuple" d = true) : ∃ ds, d = .tuple ds := by
  cases d with
  | tuple ds => exact ⟨ds, rfl⟩
  | _ => cases h
theorem isT_list {d : PyData} (h : isT "list" d = true) : ∃ ds, d = .list ds := by
  cases d with
  | list ds => exact ⟨ds, rfl⟩
  | _ => cases h
theorem isT_str {d : PyData} (h : isT "str" d = true) : ∃ z, d = .str z := by
  cases d with
  | str z => exact ⟨z, rfl⟩
  | _ => cases h
theorem drop_at {α : Type} : ∀ {l : List α} {i : Nat} {x : α}, l[i]? = some x → l.drop i = x :: l.drop (i + 1)
  | [], i, x, h => by simp at h
  | a :: l, 0, x, h => by
    have e : a = x := by simpa using h
    rw [e]; rfl
  | a :: l, i + 1, x, h => by
    show l.drop i = x :: l.drop (i + 1)
    exact drop_at (by simpa using h)
def rIsD (K : PySem.W.Frag) (T : String) : List V → Hp → VK → Prop := fun xs H Q => ∃ (x : V) (A : List Addr) (d : PyData), xs = [x, .ty T] ∧ Td K A H x d ∧ Q (.bl (isT T d)) H
theorem call_isD {X : Cx} {T : String} (hT : T ∈ kinds6) : CallR X (.builtin "isinstance") (rIsD X.K T) := by
  intro pins s σ H xs us Q I r h
  obtain ⟨x, A, d, rfl, td, q⟩ := h
  exact call_isi pins s σ H _ us Q I r ⟨x, .ty T, _, _, _, rfl, .ty T, td.ty, kit_ty (kit_isT hT d), q⟩
/-! ### numbers -/
def isWhole : PyData → Bool
  | .int _ => true
  | _ => false
def isFrom (d : PyData) (lo hi : Int) : Bool := match d with
  | .int i => decide (lo ≤ i) && decide (i ≤ hi)
  | _ => false
theorem isFrom_int {d : PyData} {lo hi : Int} (h : isFrom d lo hi = true) : ∃ i, d = .int i ∧ lo ≤ i ∧ i ≤ hi := by
  cases d with
  | int i =>
    obtain ⟨h1, h2⟩ := Bool.and_eq_true_iff.mp (show (decide (lo ≤ i) && decide (i ≤ hi)) = true from h)
    exact ⟨i, rfl, of_decide_eq_true h1, of_decide_eq_true h2⟩
  | _ => cases h
def spWhole (K : PySem.W.Frag) : Sp := fun vs H Q _ => ∃ (v : V) (A : List Addr) (d : PyData), vs = [v] ∧ Td K A H v d ∧ Q (.bl (isWhole d)) H
def spFrom (K : PySem.W.Frag) : Sp := fun vs H Q _ => ∃ (v : V) (A : List Addr) (d : PyData) (lo hi : Int), vs = [v, .int lo, .int hi] ∧ Td K A H v d ∧ Q (.bl (isFrom d lo hi)) H
/-! ### the law's draws -/
/-- a source of draws stands at a -/
def Src (H : Hp) (a : Addr) : Prop := ∃ x c k : Int, H a = some (.lst [.int x, .int c, .int k])
def spMixed : Sp := fun vs H Q _ => ∃ c k : Int, vs = [.int c, .int k] ∧ ∀ r : Int, Q (.int r) H
def spSource : Sp := fun vs H Q _ => ∃ c : Int, vs = [.int c] ∧ ∀ p, H p = none → Q (.ref p) (upd H p (.lst [.int c, .int c, .int 0]))
def spTake : Sp := fun vs H Q _ => ∃ (a : Addr) (m : Int), vs = [.ref a, .int m] ∧ 0 < m ∧ m < 2 ^ 62 ∧ Src H a ∧ ∀ (r : Int) (H' : Hp), 0 ≤ r → r < m → Src H' a → Stp [a] H H' → Q (.int r) H'
/-! ### the written part of a context -/
theorem kx1 {CX : CXT} {P : Program} {w : World} {K : PySem.W.Frag} {mg : Str → Option Value} {base : Heap} {N : List Str} {q : Str} {sc : Scope} {f : Addr} {cdv : Value} {A : Around} {outer : List Env} {s : Shared} {H : Hp} {E : XK} : (cxOf CX P w K mg base N q sc f cdv A outer s H E).nox.K = K := rfl
theorem kx2 {CX : CXT} {P : Program} {w : World} {K : PySem.W.Frag} {mg : Str → Option Value} {base : Heap} {N : List Str} {q : Str} {sc : Scope} {f : Addr} {cdv : Value} {A : Around} {outer : List Env} {s : Shared} {H : Hp} {E : XK} : (cxOf CX P w K mg base N q sc f cdv A outer s H E).K = K := rfl
theorem kx3 {X : Cx} {pn : List (Addr × Obj)} {xe : Value → Shared → Prop} : (X.tr pn xe).K = X.K := rfl
theorem kx4 {X : Cx} {pn : List (Addr × Obj)} {a : Addr} : (X.suite a pn).K = X.K := rfl
theorem kx5 {X : Cx} {s : Shared} {H : Hp} {scope : Scope} {cenv : Env} {fp : List Addr} : (X.blk s H scope cenv fp).K = X.K := rfl
/-- a keyword-only default of the def at f, if it is an object -/
def kwAt (f : Str × Option Str) (x : Str) (K : PySem.W.Frag) : Addr := match K.lookup (He.fAd K f) with
  | some ⟨_, _, .func fd, _⟩ => (match fd.kwdefaults with
    | .ref D => (match PySem.W.nsIn K D x with
      | some (some (.ref a)) => a
      | _ => 0)
    | _ => 0)
  | _ => 0
theorem lenF {f : Str} {v : V} : ∀ {fs : List (Str × V)} {n : Nat}, fs.length < n → (putF f v fs).length < n + 1
  | [], n, h => by show 1 < n + 1; simp only [List.length_nil] at h; omega
  | (g, x) :: r, n, h => by
    unfold putF
    split
    · simp only [List.length_cons] at h ⊢; omega
    · have h2 : r.length < n - 1 := by simp only [List.length_cons] at h; omega
      have := lenF (f := f) (v := v) h2
      simp only [List.length_cons] at h ⊢; omega
theorem Src.ne {H : Hp} {a p : Addr} (s : Src H a) (h : H p = none) : p ≠ a := fun e => by
  subst e
  obtain ⟨_, _, _, z⟩ := s
  rw [z] at h; cases h
theorem Src.new {H : Hp} {a p : Addr} {o : HO} (s : Src H a) (h : H p = none) : Src (upd H p o) a := by
  have n := s.ne h
  obtain ⟨x, c, k, z⟩ := s
  exact ⟨x, c, k, by rw [upd_ne n.symm]; exact z⟩
theorem Src.put {H : Hp} {a p : Addr} {o : HO} (s : Src H a) (n : p ≠ a) : Src (upd H p o) a := by
  obtain ⟨x, c, k, z⟩ := s
  exact ⟨x, c, k, by rw [upd_ne n.symm]; exact z⟩
theorem Src.keep {A : List Addr} {H H1 : Hp} {a : Addr} (s : Src H a) (t : Stp A H H1) (n : a ∉ A) : Src H1 a := by
  obtain ⟨x, c, k, z⟩ := s
  exact ⟨x, c, k, t.k _ _ n z⟩
/-! ### data that may be compared -/
structure Sh (n : Nat) (d : PyData) : Prop where
  lay : d.canLay0 = true
  dep : d.depth ≤ n
theorem sh_ok {n : Nat} {d : PyData} (h : Sh n d) (hn : n ≤ 64) : SeqAt.shaped d = true := by
  unfold SeqAt.shaped
  rw [h.lay, decide_eq_true (Nat.le_trans h.dep hn)]; rfl
theorem sh_all {n : Nat} : ∀ {ds : List PyData}, (∀ d ∈ ds, Sh n d) → PyData.canLayAll0 ds = true ∧ PyData.depthAll ds ≤ n
  | [], _ => ⟨by simp only [PyData.canLayAll0], by simp only [PyData.depthAll]; exact Nat.zero_le _⟩
  | d :: ds, h => by
    obtain ⟨h1, h2⟩ := sh_all (ds := ds) fun x hx => h x (List.mem_cons_of_mem _ hx)
    have h3 := h d (List.mem_cons_self ..)
    refine ⟨?_, ?_⟩
    · simp only [PyData.canLayAll0, h3.lay, h1, Bool.and_self]
    · simp only [PyData.depthAll]; exact Nat.max_le.mpr ⟨h3.dep, h2⟩
theorem sh_list {n : Nat} {ds : List PyData} (h : ∀ d ∈ ds, Sh n d) : Sh (n + 1) (.list ds) := by
  obtain ⟨h1, h2⟩ := sh_all h
  exact ⟨by simp only [PyData.canLay0, h1], by simp only [PyData.depth]; omega⟩
theorem sh_tuple {n : Nat} {ds : List PyData} (h : ∀ d ∈ ds, Sh n d) : Sh (n + 1) (.tuple ds) := by
  obtain ⟨h1, h2⟩ := sh_all h
  exact ⟨by simp only [PyData.canLay0, h1], by simp only [PyData.depth]; omega⟩
theorem sh_int {n : Nat} (i : Int) : Sh n (.int i) := ⟨by simp only [PyData.canLay0], by simp only [PyData.depth]; exact Nat.zero_le _⟩
theorem Sh.up {n m : Nat} {d : PyData} (h : Sh n d) (hn : n ≤ m) : Sh m d := ⟨h.lay, Nat.le_trans h.dep hn⟩
theorem eqv_self {n : Nat} {d : PyData} (h : Sh n d) : PyData.eqv d d = true := SeqAt.eqv_refl d h.lay
theorem ixN_last {n : Nat} : ixN (n + 1) (-1) = some (n + 1 - 1) := by
  unfold ixN
  rw [if_neg (by decide), if_pos (by omega)]
  congr 1
  omega
/-! ### new objects and stores, the heap behind them a letter -/
structure Nw (H H' : Hp) (p : Addr) (o : HO) : Prop where
  n : H p = none
  s : ∀ A, Stp A H H'
  a : H' p = some o
theorem Nw.mk' {H : Hp} {p : Addr} {o : HO} (h : H p = none) : Nw H (upd H p o) p o := ⟨h, fun _ => .new h, upd_same⟩
structure Wr (H H' : Hp) (p : Addr) (o : HO) : Prop where
  s : Stp [p] H H'
  a : H' p = some o
theorem Wr.mk' {H : Hp} {p : Addr} {o o' : HO} (h : H p = some o) (hm : Mut (some o) := by exact True.intro) : Wr H (upd H p o') p o' := ⟨.put h (by simp) hm, upd_same⟩
theorem OpR.imp {X : Cx} {f : Value → Value → Sem Value} {r r' : R2} (h : OpR X f r) (i : ∀ x y H Q, r' x y H Q → r x y H Q) : OpR X f r' := fun pins s σ H x y v u Q I a b q => h pins s σ H x y v u Q I a b (i _ _ _ _ q)
theorem CallR.imp {X : Cx} {f : Value} {r r' : List V → Hp → VK → Prop} (h : CallR X f r) (i : ∀ x H Q, r' x H Q → r x H Q) : CallR X f r' := fun pins s σ H x u Q I a q => h pins s σ H x u Q I a (i _ _ _ q)
theorem SlR.imp {X : Cx} {r r' : V → Option Int → Option Int → Hp → VK → Prop} (h : SlR X r) (i : ∀ x lo hi H Q, r' x lo hi H Q → r x lo hi H Q) : SlR X r' := fun pins s σ H x v vl vu lo hi sl Q I a b c d q => h pins s σ H x v vl vu lo hi sl Q I a b c d (i _ _ _ _ _ q)
section
variable {X : Cx} {es : List Expr} {t : TA} {pos : Pos}
def tTupN (t : TA) : TE := fun σ H Q => t σ H fun xs H1 => xs.length ≤ sizeLine ∧ ∀ p H', Nw H1 H' p (.tup xs) → Q (.ref p) H'
def tLstN (t : TA) : TE := fun σ H Q => t σ H fun xs H1 => xs.length ≤ sizeLine ∧ ∀ p H', Nw H1 H' p (.lst xs) → Q (.ref p) H'
theorem pe_tupN {x1} (h : PA X es t) : PE X (.Tuple es x1 pos) (tTupN t) := by
  refine ⟨fun pins s σ H Q I hq => ?_⟩
  refine wpAny_Tuple_spliced (thn (h.run pos pins s σ H _ I hq) fun us s1 ⟨xs, H1, I1, r, z, q⟩ => ⟨by rw [← r.length]; exact z, ?_⟩)
  have hf : H1 s1.heap.objs.size = none := I1.hok.fresh (Nat.le_refl _)
  refine ⟨.ref s1.heap.objs.size, upd H1 s1.heap.objs.size (.tup xs), I1.laid (t' := s1.toks) (fun b u e => Heap.get?_push_of_some _ e) (Nat.le_refl _) ?_, rfl, q _ _ (.mk' hf)⟩
  exact ⟨z, us, r, ⟨_, Heap.get?_push_size _ rfl, rfl, _, rfl⟩⟩
theorem pe_lstN (h : PA X es t) : PE X (.List es pos) (tLstN t) := by
  refine ⟨fun pins s σ H Q I hq => ?_⟩
  refine wpAny_List_spliced (thn (h.run pos pins s σ H _ I hq) fun us s1 ⟨xs, H1, I1, r, z, q⟩ => ⟨by rw [← r.length]; exact z, ?_⟩)
  have hf : H1 s1.heap.objs.size = none := I1.hok.fresh (Nat.le_refl _)
  refine ⟨.ref s1.heap.objs.size, upd H1 s1.heap.objs.size (.lst xs), I1.laid (t' := s1.toks) (fun b u e => Heap.get?_push_of_some _ e) (Nat.le_refl _) ?_, rfl, q _ _ (.mk' hf)⟩
  exact ⟨z, us, 0, r, Heap.get?_push_size _ rfl⟩
def tDNewN : TE := fun _ H Q => ∀ p H', Nw H H' p (.dK []) → Q (.ref p) H'
theorem pe_dnewN : PE X (.Dict [] [] pos) tDNewN := ⟨fun pins s σ H Q I h => pe_dnewK.run pins s σ H Q I fun p hp => h p _ (.mk' hp)⟩
theorem call_listN : CallR X (.type "list") (fun xs H Q => ∃ p ys, xs = [.ref p] ∧ (SqL X.K H p ys ∨ SqT X.K H p ys) ∧ ∀ l H', Nw H H' l (.lst ys) → Q (.ref l) H') :=
  CallR.imp call_list_of fun x H Q ⟨p, ys, e, h, q⟩ => ⟨p, ys, e, h, fun l hl => q l _ (.mk' hl)⟩
/-- tuple(xs), xs a list or a tuple -/
theorem call_tupleN : CallR X (.type "tuple") (fun xs H Q => ∃ p ys, xs = [.ref p] ∧ (SqL X.K H p ys ∨ SqT X.K H p ys) ∧ ∀ l H', (∀ A, Stp A H H') → SqT X.K H' l ys → Q (.ref l) H') :=
  CallR.imp call_tuple_of fun x H Q ⟨p, ys, e, h, q⟩ => ⟨p, ys, e, by
    rcases h with h | h
    · exact .inl ⟨h, fun l hl => q l _ (fun _ => .new hl) (SqT.of upd_same)⟩
    · exact .inr ⟨h, q p H (fun _ => .refl H) h⟩⟩
theorem op_catN : OpR X (binaryOp .Add) (fun x y H Q => ∃ l b xs zs, x = .ref l ∧ y = .ref b ∧ SqL X.K H l xs ∧ SqL X.K H b zs ∧ xs.length + zs.length ≤ sizeLine ∧ ∀ p H', Nw H H' p (.lst (xs ++ zs)) → Q (.ref p) H') := by
  intro pins s σ H x y v u Q I rx ry h
  obtain ⟨l, b, xs, zs, rfl, rfl, hL, hB, hz, q⟩ := h
  cases rx
  cases ry
  obtain ⟨its, r, pl, z1⟩ := I.list hL
  obtain ⟨its2, r2, pl2, z2⟩ := I.list hB
  obtain ⟨⟨cls, dd, data, sl⟩, ho, hc, n, hd⟩ := pl.isList
  obtain ⟨⟨cls2, dd2, data2, sl2⟩, ho2, hc2, n2, hd2⟩ := pl2.isList
  simp only at hc hd hc2 hd2
  subst hc hd hc2 hd2
  have hl1 := r.length
  have hl2 := r2.length
  have e : its.toArray ++ its2.toArray = (its ++ its2).toArray := by simp
  refine concat_meets ⟨_, ho, rfl⟩ ⟨_, ho2, rfl⟩ noFill_list_add seq_list_add PySem.F.slot_list_add PySem.F.entry_list_add (PySem.F.args_list_add_2 _ _) (list_addW l b its.toArray its2.toArray n n2 dd dd2 sl sl2 (by simp only [List.size_toArray]; omega)) ⟨ho, ho2, ?_⟩
  rw [e]
  have hf : H s.heap.objs.size = none := I.hok.fresh (Nat.le_refl _)
  exact ⟨.ref s.heap.objs.size, upd H s.heap.objs.size (.lst (xs ++ zs)), I.laid (t' := s.toks) (fun b u e => Heap.get?_push_of_some _ e) (Nat.le_refl _) ⟨by rw [List.length_append]; omega, its ++ its2, 0, r.append r2, Heap.get?_push_size _ rfl⟩, rfl, q _ _ (.mk' hf)⟩
theorem sl_listN : SlR X (fun x lo hi H Q => ∃ a xs, x = .ref a ∧ SqL X.K H a xs ∧ ∀ p H', Nw H H' p (.lst (cutV xs lo hi)) → Q (.ref p) H') :=
  SlR.imp sl_list fun x lo hi H Q ⟨a, xs, e, h, q⟩ => ⟨a, xs, e, h, fun p hp => q p _ (.mk' hp)⟩
end
/-! ### tuples put together and cut, whichever object comes -/
theorem catA_of {K : PySem.W.Frag} {H : Hp} {Q : VK} {a b : Addr} {xs ys : List V} (ha : SqT K H a xs) (hb : SqT K H b ys) (h : ∀ p H', (∀ A, Stp A H H') → SqT K H' p (xs ++ ys) → Q (.ref p) H') :
    (xs = [] → Q (.ref b) H) ∧ (xs ≠ [] → ys = [] → Q (.ref a) H) ∧ (xs ≠ [] → ys ≠ [] → ∀ p, H p = none → Q (.ref p) (upd H p (.tup (xs ++ ys)))) := by
  refine ⟨fun e => h b H (fun _ => .refl H) ?_, fun _ e => h a H (fun _ => .refl H) ?_, fun _ _ p hp => h p _ (fun _ => .new hp) (SqT.of upd_same)⟩
  · rw [e]; exact hb
  · rw [e, List.append_nil]; exact ha
theorem cutV_whole {xs : List V} {lo hi : Option Int} (h1 : HT.sIx xs.length 0 lo = 0) (h2 : HT.sIx xs.length xs.length hi = xs.length) : cutV xs lo hi = xs := by
  unfold cutV
  rw [h1, h2, List.drop_zero, Nat.sub_zero, List.take_length]
theorem slA_of {K : PySem.W.Frag} {H : Hp} {Q : VK} {a : Addr} {xs : List V} {lo hi : Option Int} (ha : SqT K H a xs) (h : ∀ p H', (∀ A, Stp A H H') → SqT K H' p (cutV xs lo hi) → Q (.ref p) H') :
    (HT.sIx xs.length 0 lo = 0 ∧ HT.sIx xs.length xs.length hi = xs.length → Q (.ref a) H) ∧ (¬ (HT.sIx xs.length 0 lo = 0 ∧ HT.sIx xs.length xs.length hi = xs.length) → ∀ p, H p = none → Q (.ref p) (upd H p (.tup (cutV xs lo hi)))) := by
  refine ⟨fun e => h a H (fun _ => .refl H) ?_, fun _ p hp => h p _ (fun _ => .new hp) (SqT.of upd_same)⟩
  rw [cutV_whole e.1 e.2]; exact ha
theorem op_catTN {X : Cx} : OpR X (binaryOp .Add) (fun x y H Q => ∃ a b xs ys, x = .ref a ∧ y = .ref b ∧ SqT X.K H a xs ∧ SqT X.K H b ys ∧ xs.length + ys.length ≤ sizeLine ∧ ∀ p H', (∀ A, Stp A H H') → SqT X.K H' p (xs ++ ys) → Q (.ref p) H') :=
  OpR.imp op_catA fun x y H Q ⟨a, b, xs, ys, e1, e2, h1, h2, hz, q⟩ => ⟨a, b, xs, ys, e1, e2, h1, h2, hz, catA_of h1 h2 q⟩
theorem sl_tupN {X : Cx} : SlR X (fun x lo hi H Q => ∃ a xs, x = .ref a ∧ SqT X.K H a xs ∧ ∀ p H', (∀ A, Stp A H H') → SqT X.K H' p (cutV xs lo hi) → Q (.ref p) H') :=
  SlR.imp sl_tupA fun x lo hi H Q ⟨a, xs, e, h, q⟩ => ⟨a, xs, e, h, slA_of h q⟩
theorem cutV_to {xs : List V} {i : Int} (h : 0 ≤ i) : cutV xs none (some i) = xs.take i.toNat := by
  unfold cutV
  rw [HT.sIx_none, List.drop_zero, Nat.sub_zero]
  show xs.take (if i < 0 then (i + (xs.length : Int)).toNat else min i.toNat xs.length) = _
  rw [if_neg (by omega)]
  by_cases q : i.toNat ≤ xs.length
  · rw [Nat.min_eq_left q]
  · rw [Nat.min_eq_right (by omega), List.take_length, List.take_of_length_le (by omega)]
theorem cutV_from {xs : List V} {i : Int} (h : 0 ≤ i) : cutV xs (some i) none = xs.drop i.toNat := by
  unfold cutV
  rw [HT.sIx_none]
  have e : HT.sIx xs.length 0 (some i) = min i.toNat xs.length := by
    show (if i < 0 then (i + (xs.length : Int)).toNat else min i.toNat xs.length) = _
    rw [if_neg (by omega)]
  rw [e, List.take_of_length_le (by rw [List.length_drop]; exact Nat.le_refl _)]
  by_cases q : i.toNat ≤ xs.length
  · rw [Nat.min_eq_left q]
  · rw [Nat.min_eq_right (by omega), List.drop_length, List.drop_of_length_le (by omega)]
theorem TdAll.new {K : PySem.W.Frag} {A : List Addr} {H : Hp} {vs : List V} {ds : List PyData} {p : Addr} {xs : List V} {es : List PyData} (h : TdAll K A H vs ds) (hp : H p = none) (hx : TdAll K A H xs es) : TdAll K A (upd H p (.tup xs)) (vs ++ [.ref p]) (ds ++ [.tuple es]) :=
  (h.mono (.new hp)).app (.cons (.tup (SqT.of upd_same) (hx.mono (.new hp))) .nil)
theorem TdAll.nw {K : PySem.W.Frag} {A : List Addr} {H H' : Hp} {vs : List V} {ds : List PyData} {p : Addr} {xs : List V} {es : List PyData} (h : TdAll K A H vs ds) (n : Nw H H' p (.tup xs)) (hx : TdAll K A H xs es) : TdAll K A H' (vs ++ [.ref p]) (ds ++ [.tuple es]) :=
  (h.mono (n.s _)).app (.cons (.tup (SqT.of n.a) (hx.mono (n.s _))) .nil)
theorem TdAll.nwL {K : PySem.W.Frag} {A : List Addr} {H H' : Hp} {vs : List V} {ds : List PyData} {p : Addr} {xs : List V} {es : List PyData} (h : TdAll K A H vs ds) (n : Nw H H' p (.lst xs)) (hx : TdAll K A H xs es) (hA : p ∉ A) : TdAll K A H' (vs ++ [.ref p]) (ds ++ [.list es]) :=
  (h.mono (n.s _)).app (.cons (.lst (SqL.of n.a) hA (hx.mono (n.s _))) .nil)
theorem TdAll.snoc {K : PySem.W.Frag} {A : List Addr} {H : Hp} {vs : List V} {ds : List PyData} {v : V} {d : PyData} (h : TdAll K A H vs ds) (t : Td K A H v d) : TdAll K A H (vs ++ [v]) (ds ++ [d]) := h.app (.cons t .nil)
theorem Src.nw {H H' : Hp} {a p : Addr} {o : HO} (s : Src H a) (n : Nw H H' p o) : Src H' a := s.keep (n.s []) (by simp)
theorem Src.st {H H' : Hp} {a : Addr} (s : Src H a) (n : ∀ A, Stp A H H') : Src H' a := s.keep (n []) (by simp)
theorem Src.out {H H' : Hp} {a p : Addr} {o : HO} (s : Src H a) (n : Nw H H' p o) : p ∉ [a] := by simpa using s.ne n.n
theorem nw_out {A B : List Addr} {H H1 H2 : Hp} {p : Addr} {o : HO} (hA : ∀ b ∈ A, H b ≠ none) (s : Stp B H H1) (n : Nw H1 H2 p o) : p ∉ A := fun h => hA p h (s.f p n.n)
theorem take_at {α : Type} : ∀ {l : List α} {i : Nat} {x : α}, l[i]? = some x → l.take (i + 1) = l.take i ++ [x]
  | [], i, x, h => by simp at h
  | a :: l, 0, x, h => by
    have e : a = x := by simpa using h
    rw [e]; rfl
  | a :: l, i + 1, x, h => by
    show a :: l.take (i + 1) = a :: l.take i ++ [x]
    rw [take_at (by simpa using h)]; rfl
theorem atI_int {α : Type} {xs : List α} {i : Int} {v : α} (h0 : 0 ≤ i) (h : xs[i.toNat]? = some v) : atI xs i = some v := by
  have e : i = (i.toNat : Int) := by omega
  rw [e]
  exact atI_nat h
/-! ### data of the written part -/
mutual
/-- the value u of the written part is the data d (tuples, numbers, texts) -/
def kdB (K : PySem.W.Frag) : PyData → Value → Bool
  | .none, .none => true
  | .bool b, .bool c => b == c
  | .int i, .int j _ => decide (i = j)
  | .str x, .str y _ => decide (x = y)
  | .tuple ds, .ref a => (match K.lookup a with
    | some ⟨.type c, _, .seq its _, _⟩ => decide (c = "tuple") && (decide (its.size ≤ sizeLine) && kdsB K ds its.toList)
    | _ => false)
  | _, _ => false
def kdsB (K : PySem.W.Frag) : List PyData → List Value → Bool
  | [], [] => true
  | d :: ds, u :: us => kdB K d u && kdsB K ds us
  | _, _ => false
end
mutual
theorem kdB_ok {K : PySem.W.Frag} : ∀ (d : PyData) (u : Value), kdB K d u = true → ∃ v, RelV v u ∧ ∀ A H, Td K A H v d
  | .none, u, h => by
    cases u with
    | none => exact ⟨.non, rfl, fun _ _ => .non⟩
    | _ => simp [kdB] at h
  | .bool b, u, h => by
    cases u with
    | bool c =>
      have e : b = c := by simpa [kdB] using h
      subst e
      exact ⟨.bl b, rfl, fun _ _ => .bl b⟩
    | _ => simp [kdB] at h
  | .int i, u, h => by
    cases u with
    | int j t =>
      have e : i = j := by simpa [kdB] using h
      subst e
      exact ⟨.int i, ⟨t, rfl⟩, fun _ _ => .int i⟩
    | _ => simp [kdB] at h
  | .str x, u, h => by
    cases u with
    | str y t =>
      have e : x = y := by simpa [kdB] using h
      subst e
      exact ⟨.str x, ⟨t, rfl⟩, fun _ _ => .str x⟩
    | _ => simp [kdB] at h
  | .list ds, u, h => by cases u <;> simp [kdB] at h
  | .dict _, u, h => by cases u <;> simp [kdB] at h
  | .tuple ds, u, h => by
    cases u with
    | ref a =>
      simp only [kdB] at h
      split at h
      · rename_i c od its n sl hk
        simp only [Bool.and_eq_true, decide_eq_true_eq] at h
        obtain ⟨rfl, h2, h3⟩ := h
        obtain ⟨vs, r, t⟩ := kdsB_ok ds its.toList h3
        exact ⟨.ref a, rfl, fun A H => .tup (.inr ⟨_, its, n, hk, rfl, rfl, h2, r⟩) (t A H)⟩
      · cases h
    | _ => simp [kdB] at h
theorem kdsB_ok {K : PySem.W.Frag} : ∀ (ds : List PyData) (us : List Value), kdsB K ds us = true → ∃ vs, Vals vs us ∧ ∀ A H, TdAll K A H vs ds
  | [], us, h => by
    cases us with
    | nil => exact ⟨[], .nil, fun _ _ => .nil⟩
    | cons _ _ => simp [kdsB] at h
  | d :: ds, us, h => by
    cases us with
    | nil => simp [kdsB] at h
    | cons u us =>
      simp only [kdsB, Bool.and_eq_true] at h
      obtain ⟨v, r, t⟩ := kdB_ok d u h.1
      obtain ⟨vs, rs, ts⟩ := kdsB_ok ds us h.2
      exact ⟨v :: vs, .cons r rs, fun A H => .cons (t A H) (ts A H)⟩
end
theorem kd_ref {K : PySem.W.Frag} {a : Addr} {d : PyData} (h : kdB K d (.ref a) = true) : ∀ A H, Td K A H (.ref a) d := by
  obtain ⟨v, r, t⟩ := kdB_ok d _ h
  cases v with
  | ref b =>
    have e : Value.ref a = Value.ref b := r
    injection e with e
    subst e
    exact t
  | int i => obtain ⟨_, z⟩ := r; cases z
  | str i => obtain ⟨_, z⟩ := r; cases z
  | byt i => obtain ⟨_, z⟩ := r; cases z
  | flt i => obtain ⟨_, z⟩ := r; cases z
  | non => cases (show Value.ref a = Value.none from r)
  | bl b => cases (show Value.ref a = Value.bool b from r)
  | ty n => cases (show Value.ref a = Value.type n from r)
/-! ### the head's facts: what the module's names reach, and the interpreter's own table -/
def reach (g : Addr → Option Obj) : Nat → List Addr
  | 0 => [mainGlobals, cStatics]
  | n + 1 => He.growD g (reach g n)
def obsN (n : Nat) (fa : List He.Fa) (fn : List He.DefD) (ex : PySem.W.Frag → Bool) (g : Addr → Option Obj) : He.AlD × Bool := (He.obsD fa fn (He.frG g (reach g n)), ex (He.frG g (reach g n)))
def hookN (n : Nat) (fa : List He.Fa) (fn : List He.DefD) (ex : PySem.W.Frag → Bool) : PySem.W.Hook where
  α := He.AlD × Bool
  obs := fun s => obsN n fa fn ex s.heap.get?
  val := fun _ => (He.valD fn, true)
  says := fun _ h => ∃ K : PySem.W.Frag, K.In h ∧ He.SaysD fa fn K ∧ ex K = true
  of := fun _ _ e => ⟨_, He.frG_in, congrArg Prod.fst e, congrArg Prod.snd e⟩
  keeps := fun _ _ _ ⟨K, hK, c⟩ k => ⟨K, PySem.W.Frag.In.keeps hK k, c⟩
theorem obsN_eq {n : Nat} {fa : List He.Fa} {fn : List He.DefD} {ex : PySem.W.Frag → Bool} {g : Addr → Option Obj} {s : Shared} (h : ∀ a, g a = s.heap.get? a) : obsN n fa fn ex g = (hookN n fa fn ex).obs s := by
  have e : g = s.heap.get? := funext h
  rw [e] <;> rfl
/-! ### the end of a law -/
theorem walk_end {l : PySem.W.OpenLaw} {n k : Nat} {q : Program} {loose : List Str} {XP : (Str → Option Value) → Heap → Prop} {YP : World → Heap → Prop} {d : DefRec} {CX : World → CXT} {x : Str} (hn : l.most = some n) (hn2 : n ≤ sizeLine) (hdf : d.params.defaults = []) (hr : Room k callerA)
    (F : ∀ (w : World) (mg : Str → Option Value) (fa : Addr) (h : Heap), YP w h → h.Ns mainGlobals mg → mg d.name = some (.ref fa) → ∃ (K : PySem.W.Frag) (fd : FuncData) (sp : Sp), K.In h ∧ (∀ (s : Shared) (u : Value), BindsTo s fd ⟨[u], []⟩ [(x, u)]) ∧
      (∀ (H : Hp) (a : Addr) (ns : List Int), ns.length ≤ n → Only H → SqL K H a (ns.map V.int) → sp [.ref a] H (fun v _ => v = .bl true) fun _ _ _ => False) ∧ ∀ base : Heap, K.In base → base.Ns mainGlobals mg → FnOk l.prog w K mg base (CX w) k fa fd [x] sp)
    (hCX : ∀ (w : World) (H : Hp) (s : Shared) (e : Value) (s' : Shared), CX w [] H s (fun _ _ _ => False) e s' → False) : PySem.W.WalkO q loose XP YP l.row.toRowW d [] (fun f vs => PySem.call f vs) := by
  refine Att.attach_call hn hdf fun w _ s1 mg _ fa _ _ _ _ a _ ns G Y _ _ _ hmg hobj hints hlen hg => ?_
  obtain ⟨K, fd, sp, KX, hb, hsp, hF⟩ := F w mg fa _ Y G.T.g hmg
  exact law_call KX G.T.g G.T.b G.T.builtins G.T.nolimit hg hobj hints (Nat.le_trans hlen hn2) hr hF hb (fun H hO hS => hsp H a ns hlen hO hS) fun H e s' => hCX w H s1 e s'
theorem cx_none {P : Program} {w : World} {o : List Env} {H : Hp} {s s' : Shared} {e : Value} (h : L2.CX P w o H s (fun _ _ _ => False) e s') : False := by
  obtain ⟨_, _, _, _, _, _, _, _, _, _, _, _, z⟩ := h
  exact z
end Hd
namespace Hd
/-! ### {e for t in iter}: a set of whole numbers and texts -/
section
open PySem PySem.Spec PyProof.Rows L2 PpSet
variable {X : Cx}
/-- the reading: D the new set, S its members, n how many -/
def tSk (P : Program) (w : World) (wi : TI) (g : TG) (tt : TT) (te : TE) (vs : List Nat) : TE := fun σ H Q => wi σ H fun J H1 => ∀ D, H1 D = none → ∃ W : Nat → Nat → Hp → Prop, (∃ m, W 0 m (upd H1 D (SetK P w D (fun _ => false) 0))) ∧ ∀ i m H, W i m H →
  (J.stop i H ∧ Q (.ref D) H) ∨ (J.go i H ∧ ∃ Nx : Hp → Prop, (∀ H', Nx H' → ∃ m', m' < m ∧ W (i + 1) m' H') ∧ ∀ x H', J.yld i H x H' → g x (wipe σ vs) H' fun σ2 H2 => wipe σ2 vs = wipe σ vs ∧ tt σ2 H2 fun b H3 =>
    if b = true then te σ2 H3 fun y H4 => ∃ (k : Key) (S : Key → Bool) (n : Nat), y = kV k ∧ H4 D = some (SetK P w D S n) ∧ n + 1 < scanBound ∧ Nx (upd H4 D (SetK P w D (fun j => S j || decide (j = k)) (if S k = true then n else n + 1))) else Nx H3)
theorem setK_empty (P : Program) (w : World) (h : Heap) : (h.push { cls := .type "set", dict := none, data := .set #[] 0 (.fresh 0 0 (!w.params.followText "set-order")) }).SetOf (mixKind P w) h.objs.size (fun _ => false) 0 :=
  ⟨_, #[], 0, _, Heap.get?_push_size _ rfl, ⟨rfl, rfl, rfl⟩, rfl, (fun e he => by simp at he), (fun k => by simp), (by decide), (by rfl), rfl⟩
/-- the block's run, from the set just laid -/
theorem sk_run {pins : List (Addr × Obj)} {s2 : Shared} {σ : L2.St} {H2 : Hp} {Q : VK} {elt tg iter : Expr} {ifs : List Expr} {scope : Scope} {own : List (PySem.Str × Nat)} {pos : Pos} {g : TG} {tt : TT} {te : TE} {Qf : Value → Shared → Prop} {J : It} {fp : List Addr} {it : Addr} {tn : Nat → Heap → Prop} {D : Addr} {s3 : Shared}
    (hc : X.calm = true) (hN : X.N.Nodup) (ok : BlkOk X.N X.env.scope scope own) (T : Turn X.prog X.w X.K tg J fp it tn) (H3 : Hp) (I3 : Inv X pins σ H3 s3) (f3 : ∀ b ∈ fp, FpOk X pins H3 b ∧ b < s3.heap.objs.size) (st3 : tn 0 s3.heap)
    (hg : ∀ (s : Shared) (H : Hp) (C : Addr) (cl : List (PySem.Str × Addr)) (fp : List Addr), PG (X.blk s H scope (compEnvC scope cl C X.env) fp) tg g) (ht : ∀ (s : Shared) (H : Hp) (C : Addr) (cl : List (PySem.Str × Addr)) (fp : List Addr), PTs (X.blk s H scope (compEnvC scope cl C X.env) fp) ifs tt)
    (he : ∀ (s : Shared) (H : Hp) (C : Addr) (cl : List (PySem.Str × Addr)) (fp : List Addr), PE (X.blk s H scope (compEnvC scope cl C X.env) fp) elt te)
    (W : Nat → Nat → Hp → Prop) (m0 : Nat) (w0 : W 0 m0 H3) (turn : ∀ i m H, W i m H → (J.stop i H ∧ Q (.ref D) H) ∨ (J.go i H ∧ ∃ Nx : Hp → Prop, (∀ H', Nx H' → ∃ m', m' < m ∧ W (i + 1) m' H') ∧ ∀ x H', J.yld i H x H' → g x (wipe σ (own.map (·.2))) H' fun σ2 H2 =>
      wipe σ2 (own.map (·.2)) = wipe σ (own.map (·.2)) ∧ tt σ2 H2 fun b H3 => if b = true then te σ2 H3 fun y H4 => ∃ (k : Key) (S : Key → Bool) (n : Nat), y = kV k ∧ H4 D = some (SetK X.prog X.w D S n) ∧ n + 1 < scanBound ∧ Nx (upd H4 D (SetK X.prog X.w D (fun j => S j || decide (j = k)) (if S k = true then n else n + 1))) else Nx H3))
    (post : ∀ s' m H', Inv X pins σ H' s' → Q (.ref D) H' → s'.heap.Ns s3.heap.objs.size m → FpOk X pins H' s3.heap.objs.size → compPost (model X.prog X.w) X.A X.xe none Qf (.ref D) s3.heap.objs.size (.ok .next) s') :
    codeAny (model X.prog X.w) X.A (.compStart (.SetComp elt [⟨tg, iter, ifs, 0⟩] scope pos) 0 (.ref it) (.ref D) (compEnvC scope (cellsFrom (s3.heap.objs.size + 1) scope.names (cloFrom X.env.cells scope.names [])) s3.heap.objs.size X.env)) (compPost (model X.prog X.w) X.A X.xe none Qf (.ref D) s3.heap.objs.size)
      { s3 with heap := pushCells (s3.heap.push { cls := .type "dict", data := .dict #[] }) scope.names } := by
  have I4 := block_start I3 ok hN f3
  have pg := hg s3 H3 s3.heap.objs.size (cellsFrom (s3.heap.objs.size + 1) scope.names (cloFrom X.env.cells scope.names [])) fp
  have pt := ht s3 H3 s3.heap.objs.size (cellsFrom (s3.heap.objs.size + 1) scope.names (cloFrom X.env.cells scope.names [])) fp
  have pe := he s3 H3 s3.heap.objs.size (cellsFrom (s3.heap.objs.size + 1) scope.names (cloFrom X.env.cells scope.names [])) fp
  generalize hce : compEnvC scope (cellsFrom (s3.heap.objs.size + 1) scope.names (cloFrom X.env.cells scope.names [])) s3.heap.objs.size X.env = ce at I4 pg pt pe ⊢
  have locs : ce.locals = s3.heap.objs.size := by subst hce; rfl
  generalize hs4 : ({ s3 with heap := pushCells (s3.heap.push { cls := .type "dict", data := .dict #[] }) scope.names } : Shared) = s4 at I4 ⊢
  have st4 : tn 0 s4.heap := T.keep _ _ _ st3 fun b _ o e => by rw [← hs4]; exact pushCells_keeps _ _ _ _ (Heap.get?_push_of_some _ e)
  have walk : ∀ {σ' : L2.St} {H' : Hp} {s' : Shared}, Inv (X.blk s3 H3 scope ce fp) [] σ' H' s' → (∀ b ∈ fp, H' b = none) → ∀ b ∈ fp, FpOk (X.blk s3 H3 scope ce fp) [] H' b := fun {σ' H' s'} I' hn b hb =>
    ⟨hn b hb, (I'.ok.exf b hb).1, I'.ok.exfs b hb, .inl hb, fun x c e => (I'.ok.exf b hb).2 x c e, fun p hp => absurd (show p ∈ ([] : List (Addr × Obj)) ++ [] from hp) (by simp)⟩
  have loop : codeAny (model X.prog X.w) X.A (.compLoop (.SetComp elt [⟨tg, iter, ifs, 0⟩] scope pos) 0 (.ref it) (.ref D) ce) (compPost (model X.prog X.w) X.A X.xe none Qf (.ref D) s3.heap.objs.size) s4 := by
    refine compLoopS_any (fun n s' => ∃ i H', Inv (X.blk s3 H3 scope ce fp) [] (wipe σ (own.map (·.2))) H' s' ∧ tn i s'.heap ∧ (∀ b ∈ fp, H' b = none) ∧ W i n H') ?_ m0 ⟨0, H3, I4, st4, fun b hb => (f3 b hb).1.1, w0⟩
    rintro n s5 ⟨i, H5, I5, st5, n5, w5⟩
    rcases turn i n H5 w5 with ⟨stop, qq⟩ | ⟨go, Nx, hNx, step⟩
    · refine thnF (T.done (X.blk s3 H3 scope ce fp) rfl rfl rfl hc i [] s5 _ H5 (fun _ _ => False) I5 (walk I5 n5) st5 stop) fun r s6 ⟨hr, I6⟩ => ?_
      subst hr
      have I7 : Inv X pins σ H5 s6 := I3.call' (ch := fp) I6.os I6.base I6.hok I6.bare fun b hb => ⟨(f3 b hb).1.2.2.2.1, (f3 b hb).1.2.1, (f3 b hb).1.2.2.2.2.1, (f3 b hb).1.2.2.2.2.2⟩
      have nC : H5 s3.heap.objs.size = none := by
        have z : H5 ce.locals = none := I6.free
        rwa [locs] at z
      obtain ⟨m, hn, _⟩ := I6.loc
      have hn : s6.heap.Ns ce.locals m := hn
      rw [locs] at hn
      exact post s6 m H5 I7 qq hn (I3.fpOk (Nat.le_refl _) nC)
    · refine thnF (T.item (X.blk s3 H3 scope ce fp) rfl rfl rfl hc i [] s5 _ H5 (fun _ _ => False) I5 (walk I5 n5) st5 go) fun r s6 ⟨u, hr, h6⟩ => ?_
      subst hr
      refine thnF h6 fun _ s7 ⟨x, H7, I7, r7, y7, st7, n7⟩ => ?_
      have I7' := I7.pinned (walk I7 n7) (T.obj _ _ st7)
      refine thnF (pg.run _ s7 _ H7 x u _ I7' r7 (step x H7 y7)) fun _ s8 ⟨σ8, H8, I8, hw8, q8⟩ => ?_
      refine thnF (pt.run _ s8 σ8 H8 _ I8 q8) fun b s9 ⟨H9, I9, q9⟩ => ?_
      have fin : ∀ {s' : Shared} {H' : Hp}, Inv (X.blk s3 H3 scope ce fp) ([] ++ pinsAt fp s7.heap) σ8 H' s' → Nx H' → ∃ m, m < n ∧ ∃ i H', Inv (X.blk s3 H3 scope ce fp) [] (wipe σ (own.map (·.2))) H' s' ∧ tn i s'.heap ∧ (∀ b ∈ fp, H' b = none) ∧ W i m H' := fun {s' H'} I' nx => by
        obtain ⟨m', hm, w'⟩ := hNx H' nx
        have pin' : ∀ b ∈ fp, ∀ o, s7.heap.get? b = some o → s'.heap.get? b = some o ∧ H' b = none := fun b hb o e =>
          let z := I'.pin (b, o) (List.mem_append_right _ (List.mem_append_right _ (mem_pinsAt hb e)))
          ⟨z.1, z.2.1⟩
        refine ⟨m', hm, i + 1, H', (I'.unpinned (pins := [])).weak (by rw [← hw8, wipe_length]) (fun j v e => ?_), T.keep _ _ _ st7 fun b hb o e => (pin' b hb o e).1, fun b hb => ?_, w'⟩
        · rw [← hw8] at e
          exact (wipe_some e).1
        · obtain ⟨o, e, _⟩ := T.obj _ _ st7 b hb
          exact (pin' b hb o e).2
      cases b with
      | false =>
        simp only [Bool.false_eq_true, if_false] at q9 ⊢
        exact fin I9 q9
      | true =>
        simp only [if_true] at q9 ⊢
        refine thnF (pe.run _ s9 σ8 H9 _ I9 q9) fun z s10 ⟨yv, H10, I10, r10, k, S0, n0, ey, hD10, hz10, nx⟩ => ?_
        subst ey
        have add := mt_saddK (X := X.blk s3 H3 scope ce fp) _ s10 σ8 H10 (.ref D) [kV k] (.ref D) [z] (fun _ H' => Nx H') I10 rfl (.cons r10 .nil) ⟨D, k, S0, n0, rfl, rfl, hD10, hz10, nx⟩
        exact thnF add fun _ s11 ⟨_, H11, I11, _, nx11⟩ => fin I11 nx11
  exact codeAny_compStart_set loop (T.self X.A 0 _ _ _ st4 loop)
theorem pe_sk {elt tg iter : Expr} {ifs : List Expr} {scope : Scope} {own : List (PySem.Str × Nat)} {pos : Pos} {wi : TI} {g : TG} {tt : TT} {te : TE} (hc : X.calm = true) (hN : X.N.Nodup) (hi : PI X tg iter wi) (ok : BlkOk X.N X.env.scope scope own)
    (hg : ∀ (s : Shared) (H : Hp) (C : Addr) (cl : List (PySem.Str × Addr)) (fp : List Addr), PG (X.blk s H scope (compEnvC scope cl C X.env) fp) tg g) (ht : ∀ (s : Shared) (H : Hp) (C : Addr) (cl : List (PySem.Str × Addr)) (fp : List Addr), PTs (X.blk s H scope (compEnvC scope cl C X.env) fp) ifs tt)
    (he : ∀ (s : Shared) (H : Hp) (C : Addr) (cl : List (PySem.Str × Addr)) (fp : List Addr), PE (X.blk s H scope (compEnvC scope cl C X.env) fp) elt te) (hs : ∀ x, foldedSetIterable iter X.env x = pure x := by intro _; rfl) :
    PE X (.SetComp elt [⟨tg, iter, ifs, 0⟩] scope pos) (tSk X.prog X.w wi g tt te (own.map (·.2))) := by
  refine ⟨fun pins s σ H Q I h => ?_⟩
  rw [eval_SetComp]
  have caps : ∀ y ∈ scope.names, y.2 = .free → ∃ c, X.env.cells.lookup y.1 = some c := fun y hy e => (ok.free y hy e).elim (fun k => I.ok.has _ (.inl k)) fun k => I.ok.has _ (.inr k)
  refine wpAny_comprehension_free (use := none) rfl hs (closure_ok caps) ok.kind (fun y hy e => by rw [ok.uniq y hy, e]) (thn (hi.run pins s σ H _ I h) fun xv s1 hx => thn hx fun itv s2 ⟨it, fp, tn, J, H2, e, I2, T, st2, f2, q⟩ => ?_)
  subst e
  refine newSet_ok (newEnv_comp ?_)
  have hDn : H2 s2.heap.objs.size = none := I2.hok.fresh (Nat.le_refl _)
  obtain ⟨W, ⟨m0, w0⟩, turn⟩ := q s2.heap.objs.size hDn
  have I3 := I2.laid (t' := s2.toks) (a := s2.heap.objs.size) (o := SetK X.prog X.w s2.heap.objs.size (fun _ => false) 0) (fun b o e => Heap.get?_push_of_some _ e) (Nat.le_refl _) (setK_new (setK_empty X.prog X.w s2.heap))
  refine sk_run (s2 := s2) (H2 := H2) (D := s2.heap.objs.size) (Q := Q) hc hN ok T _ I3 (fun b hb => ?_) (T.keep _ _ _ st2 fun b _ o e => Heap.get?_push_of_some _ e) hg ht he W m0 w0 turn fun s' m H' I' qq hn f => ⟨m, hn, fun h'' sb => ?_⟩
  · obtain ⟨o, e, _⟩ := T.obj _ _ st2 b hb
    have lt := Heap.lt_size e
    refine ⟨⟨?_, (f2 b hb).2⟩, by show b < (s2.heap.push _).objs.size; rw [Heap.size_push]; exact Nat.lt_succ_of_lt lt⟩
    rw [upd_ne (Nat.ne_of_lt lt)]
    exact (f2 b hb).1
  · obtain ⟨f0, f1, f2, f3, f4, f5⟩ := f
    exact ⟨.ref s2.heap.objs.size, H', I'.turned (t' := s'.toks) (fun b o hb e => (sb.2 b hb).trans e) f0 f1 f3 f4 f5, rfl, qq⟩
end
end Hd
namespace Hd
/-! ### methods of own instances; len, str of them; len of a set -/
section
open PySem PySem.Spec PyProof.Rows L2
variable {X : Cx} {k n : Nat} {f C : Addr} {ps ks : List Str} {sp : Sp} {E : L2.St → XK} {m : Str} {pos apos : Pos} {e o : Expr} {es : List Expr} {kws : List Keyword} {ta : TE} {t tk : TA} {gV : List V → List V → List V}
def tMetS (C : Addr) (m : Str) (sp : Sp) (E : L2.St → XK) (ta : TE) (t : TA) : TE := fun σ H Q => ta σ H fun x H1 => ∃ a dx fs, x = .ref a ∧ H1 a = some (.ins C dx fs) ∧ fs.lookup m = none ∧ t σ H1 fun vs H2 => sp (.ref a :: vs) H2 Q (E σ)
def tMetKS (C : Addr) (m : Str) (n j : Nat) (sp : Sp) (gV : List V → List V → List V) (E : L2.St → XK) (ta : TE) (t tk : TA) : TE := fun σ H Q => ta σ H fun x H1 => ∃ a dx fs, x = .ref a ∧ H1 a = some (.ins C dx fs) ∧ fs.lookup m = none ∧ t σ H1 fun vs H2 => tk σ H2 fun zs H3 => vs.length + 1 = n ∧ zs.length = j ∧ sp (gV (.ref a :: vs) zs) H3 Q (E σ)
theorem pe_met {pl : Sem Bool} (he : PE X o ta) (c : Cls X.K C) (hm : Meth X.K C m f) (F : Cal X.prog X.w X.K X.mg X.base k f ps sp) (hr : Room k X.A) (hx : ∀ σ, PassesAt (L2.CX X.prog X.w) X σ (E σ)) (ha : PA X (e :: es) t)
    (hst : starEach (e :: es) X.env = (false, eval e X.env) :: starEach es X.env := by rfl) (hpl : (backTo pos (starEach es X.env)).any (·.1) = false := by rfl)
    (ht : eval (.Call (.Attribute o m apos) (e :: es) [] pos) X.env = (do
      let ov ← eval o X.env
      standAt apos.atName
      let (f, first) ← holding [ov] (getMethod ov m pl)
      callWith pos f first (backTo pos (starEach (e :: es) X.env)) (backToKw pos (keywordEach [] X.env))) := by rfl) :
    PE X (.Call (.Attribute o m apos) (e :: es) [] pos) (tMetS C m sp E ta t) := by
  obtain ⟨fd, F, b⟩ := F.ex
  refine ⟨fun pins s σ H Q I h => ?_⟩
  refine PySem.W.methodCall_KW (pl := pl) (thn (he.run pins s σ H _ I h) fun u s1 ⟨x, H1, I1, rx, a, dx, fs, ex, ea, l, q⟩ => ?_) ht
  subst ex
  obtain rfl : u = Value.ref a := rx
  refine getmeth_ok I1 ea c hm l ?_
  refine PySem.W.callWith_K (first := [.ref a]) (h₀ := X.base) I.ok.mod.kin hm.kp (thn (ha.run pos pins s1 σ H1 _ I1 q) fun us s2 ⟨vs, H2, I2, r, q2⟩ => ⟨I2.kIn, ?_⟩) hst hpl
  exact run_fnS (us := .ref a :: us) (vs := .ref a :: vs) F hr b (hx σ) I2 (.cons rfl r) q2
theorem pe_met0 {pl : Sem Bool} (he : PE X o ta) (c : Cls X.K C) (hm : Meth X.K C m f) (F : Cal X.prog X.w X.K X.mg X.base k f ps sp) (hr : Room k X.A) (hx : ∀ σ, PassesAt (L2.CX X.prog X.w) X σ (E σ))
    (ht : eval (.Call (.Attribute o m apos) [] [] pos) X.env = (do
      let ov ← eval o X.env
      standAt apos.atName
      let (f, first) ← holding [ov] (getMethod ov m pl)
      callWith pos f first (backTo pos (starEach [] X.env)) (backToKw pos (keywordEach [] X.env))) := by rfl) :
    PE X (.Call (.Attribute o m apos) [] [] pos) (tMetS C m sp E ta tNil) := by
  obtain ⟨fd, F, b⟩ := F.ex
  refine ⟨fun pins s σ H Q I h => ?_⟩
  refine PySem.W.methodCall_KW (pl := pl) (thn (he.run pins s σ H _ I h) fun u s1 ⟨x, H1, I1, rx, a, dx, fs, ex, ea, l, q⟩ => ?_) ht
  subst ex
  obtain rfl : u = Value.ref a := rx
  refine getmeth_ok I1 ea c hm l ?_
  exact PySem.W.callWith_K0 (first := [.ref a]) I1.kIn hm.kp (run_fnS (us := [.ref a]) (vs := [.ref a]) F hr b (hx σ) I1 (.cons rfl .nil) q)
theorem pe_metK0 {pl : Sem Bool} (he : PE X o ta) (c : Cls X.K C) (hm : Meth X.K C m f) (F : CalK X.prog X.w X.K X.mg X.base k f ps sp n ks gV) (hr : Room k X.A) (hx : ∀ σ, PassesAt (L2.CX X.prog X.w) X σ (E σ)) (hkw : PK X kws tk)
    (hall : (backToKw pos (keywordEach kws X.env)).all (·.1.isSome) = true := by rfl) (hks : (backToKw pos (keywordEach kws X.env)).filterMap (·.1) = ks := by rfl)
    (hpl : ((backTo pos (starEach [] X.env)).any (·.1) || (backToKw pos (keywordEach kws X.env)).any (·.1.isNone)) = false := by rfl)
    (ht : eval (.Call (.Attribute o m apos) [] kws pos) X.env = (do
      let ov ← eval o X.env
      standAt apos.atName
      let (f, first) ← holding [ov] (getMethod ov m pl)
      callWith pos f first (backTo pos (starEach [] X.env)) (backToKw pos (keywordEach kws X.env))) := by rfl) :
    PE X (.Call (.Attribute o m apos) [] kws pos) (tMetKS C m n ks.length sp gV E ta tNil tk) := by
  obtain ⟨fd, g, F, b⟩ := F.ex
  refine ⟨fun pins s σ H Q I h => ?_⟩
  refine PySem.W.methodCall_KW (pl := pl) (thn (he.run pins s σ H _ I h) fun u s1 ⟨x, H1, I1, rx, a, dx, fs, ex, ea, l, q⟩ => ?_) ht
  subst ex
  obtain rfl : u = Value.ref a := rx
  refine getmeth_ok I1 ea c hm l ?_
  refine PySem.W.callWith_KW0 (first := [.ref a]) (h₀ := X.base) I.ok.mod.kin hm.kp hall ?_ hpl
  refine thn (hkw.run pos pins s1 σ H1 _ I1 q) fun ws s2 ⟨zs, H2, I2, rz, l1, l2, q2⟩ => ⟨I2.kIn, ?_⟩
  rw [hks]
  exact run_calK (us := [.ref a]) (vs := [.ref a]) F hr b (hx σ) I2 (.cons rfl .nil) rz l1 l2 q2
theorem pe_metK {pl : Sem Bool} (he : PE X o ta) (c : Cls X.K C) (hm : Meth X.K C m f) (F : CalK X.prog X.w X.K X.mg X.base k f ps sp n ks gV) (hr : Room k X.A) (hx : ∀ σ, PassesAt (L2.CX X.prog X.w) X σ (E σ)) (ha : PA X (e :: es) t) (hkw : PK X kws tk)
    (hall : (backToKw pos (keywordEach kws X.env)).all (·.1.isSome) = true := by rfl) (hks : (backToKw pos (keywordEach kws X.env)).filterMap (·.1) = ks := by rfl)
    (hst : starEach (e :: es) X.env = (false, eval e X.env) :: starEach es X.env := by rfl)
    (hpl : ((backTo pos (starEach (e :: es) X.env)).any (·.1) || (backToKw pos (keywordEach kws X.env)).any (·.1.isNone)) = false := by rfl)
    (ht : eval (.Call (.Attribute o m apos) (e :: es) kws pos) X.env = (do
      let ov ← eval o X.env
      standAt apos.atName
      let (f, first) ← holding [ov] (getMethod ov m pl)
      callWith pos f first (backTo pos (starEach (e :: es) X.env)) (backToKw pos (keywordEach kws X.env))) := by rfl) :
    PE X (.Call (.Attribute o m apos) (e :: es) kws pos) (tMetKS C m n ks.length sp gV E ta t tk) := by
  obtain ⟨fd, g, F, b⟩ := F.ex
  refine ⟨fun pins s σ H Q I h => ?_⟩
  refine PySem.W.methodCall_KW (pl := pl) (thn (he.run pins s σ H _ I h) fun u s1 ⟨x, H1, I1, rx, a, dx, fs, ex, ea, l, q⟩ => ?_) ht
  subst ex
  obtain rfl : u = Value.ref a := rx
  refine getmeth_ok I1 ea c hm l ?_
  refine PySem.W.callWith_KW (first := [.ref a]) (h₀ := X.base) I.ok.mod.kin hm.kp hall (thn (ha.run pos pins s1 σ H1 _ I1 q) fun us s2 ⟨vs, H2, I2, r, q2⟩ => ?_) hpl hst
  refine thn (hkw.run pos pins s2 σ H2 _ I2 q2) fun ws s3 ⟨zs, H3, I3, rz, l1, l2, q3⟩ => ⟨I3.kIn, ?_⟩
  rw [hks]
  exact run_calK (us := .ref a :: us) (vs := .ref a :: vs) F hr b (hx σ) I3 (.cons rfl r) rz l1 l2 q3
/-- an own function runs somewhere below the running body -/
theorem run_sub {A : Around} {pins : List (Addr × Obj)} {σ : L2.St} {H : Hp} {s : Shared} {Q : VK} {us : List Value} {vs : List V} {fd : FuncData} (F : FnOk X.prog X.w X.K X.mg X.base (L2.CX X.prog X.w) k f fd ps sp) (hb : Binds X.K fd ps []) (hr : Room k A) (hf : A.frames = X.A.frames) (I : Inv X pins σ H s) (r : Vals vs us) (h : sp vs H Q E0) :
    wpAny (model X.prog X.w) A (call (.ref f) us) (EP X pins σ Q) X.xe s := by
  have e0 : Env0 X.prog X.w X.K X.mg X.base A X.stack s H := by
    have e := I.env0
    exact ⟨by rw [hf]; exact e.frames, e.mod, e.bs, e.bsz, e.funs, e.frf, e.hok, e.bare⟩
  have hl : us.length = ps.length := by rw [← r.length]; exact F.len _ _ _ _ h
  refine wpAny_call (codeAny_mono (F.run A X.stack s H ⟨us, []⟩ us vs Q E0 hr e0 (by
    have := hb s us I.kIn (by simpa using hl)
    simpa using this) r h) fun r s' hq => ?_)
  cases r with
  | error e => exact pL σ pins H s e s' I hq
  | ok fl =>
    cases fl with
    | ret w => exact I.after hq
    | next => exact False.elim hq
    | brk => exact False.elim hq
    | cont => exact False.elim hq
/-- len(x), x an own instance -/
theorem call_lenO (hm : Meth X.K C "__len__" f) (F : Cal X.prog X.w X.K X.mg X.base k f ps sp) (hr : Room (k + 1) X.A) :
    CallR X (.builtin "len") (fun xs H Q => ∃ a dx fs, xs = [.ref a] ∧ H a = some (.ins C dx fs) ∧ sp [.ref a] H (fun v H' => ∃ i : Int, v = .int i ∧ 0 ≤ i ∧ i < 2 ^ 63 ∧ Q (.int i) H') E0) := by
  intro pins s σ H xs us Q I r h
  obtain ⟨fd, F, b⟩ := F.ex
  obtain ⟨a, dx, fs, rfl, ha, q⟩ := h
  obtain ⟨u, rfl, rx⟩ := vals1 r
  obtain rfl : u = Value.ref a := rx
  obtain ⟨mA, J, _⟩ := ins_get I.hok ha
  obtain ⟨od, J, _⟩ := J.look
  obtain ⟨m, hF⟩ := I.fr
  refine PySem.W.len_K hF I.ok.mod.kin J hm.at_ hm.fn (wpAny_mono (run_sub (us := [.ref a]) (vs := [.ref a]) F b hr.in1 rfl I (.cons rfl .nil) q) (fun v s' hv => ?_) fun _ _ z => z)
  obtain ⟨y, H', I', ry, i, rfl, h0, h1, q'⟩ := hv
  obtain ⟨tk, rfl⟩ := ry
  exact ⟨⟨h0, h1⟩, .int i, H', I'.tok _, ⟨_, rfl⟩, q'⟩
/-- str(x), x an own instance -/
theorem call_strO (hm : Meth X.K C "__str__" f) (F : Cal X.prog X.w X.K X.mg X.base k f ps sp) (hr : Room (k + 2) X.A) :
    CallR X (.type "str") (fun xs H Q => ∃ a dx fs, xs = [.ref a] ∧ H a = some (.ins C dx fs) ∧ sp [.ref a] H (fun v H' => ∃ z, v = .str z ∧ Q (.str z) H') E0) := by
  intro pins s σ H xs us Q I r h
  obtain ⟨fd, F, b⟩ := F.ex
  obtain ⟨a, dx, fs, rfl, ha, q⟩ := h
  obtain ⟨u, rfl, rx⟩ := vals1 r
  obtain rfl : u = Value.ref a := rx
  obtain ⟨mA, J, _⟩ := ins_get I.hok ha
  obtain ⟨od, J, _⟩ := J.look
  refine PySem.W.kso_call hr.in1.in1.units0 I.kIn J hm.at_ hm.fn (wpAny_mono (run_sub (us := [.ref a]) (vs := [.ref a]) F b hr.in1.in1 rfl I (.cons rfl .nil) q) (fun v s' hv => ?_) fun _ _ z => z)
  obtain ⟨y, H', I', ry, z, rfl, q'⟩ := hv
  obtain ⟨tk, rfl⟩ := ry
  exact ⟨.str z, H', I', ⟨_, rfl⟩, q'⟩
/-- len of a set of whole numbers and texts -/
theorem call_lenSk : CallR X (.builtin "len") (fun xs H Q => ∃ (a : Addr) (S : Key → Bool) (n : Nat), xs = [.ref a] ∧ H a = some (SetK X.prog X.w a S n) ∧ Q (.int n) H) := by
  intro pins s σ H xs us Q I r h
  obtain ⟨a, S, n, rfl, ha, q⟩ := h
  obtain ⟨u, rfl, rx⟩ := vals1 r
  obtain rfl : u = Value.ref a := rx
  obtain ⟨o, es, ep, t, ho, hex, hd, _, _, hsz, hf, rfl⟩ := setK_get I ha
  have hb : scanBound ≤ 2 ^ 62 := by decide
  exact call_len_set ho hex hd hf (by omega) ⟨.int es.size, H, (I.tok _).tok _, ⟨_, rfl⟩, q⟩
/-- x == y by an own __eq__ -/
theorem op_eqO (hm : Meth X.K C "__eq__" f) (F : Cal X.prog X.w X.K X.mg X.base k f ps sp) (hr : Room k X.A) :
    OpR X (compareOp .Eq) (fun x y H Q => ∃ a b dx fs dy gs, x = .ref a ∧ y = .ref b ∧ H a = some (.ins C dx fs) ∧ H b = some (.ins C dy gs) ∧ sp [x, y] H (fun v H' => ∃ r, v = .bl r ∧ Q (.bl r) H') E0) := by
  intro pins s σ H x y u v Q I rx ry h
  obtain ⟨fd, F, b⟩ := F.ex
  obtain ⟨a, b', dx, fs, dy, gs, rfl, rfl, ha, hb, q⟩ := h
  cases rx
  cases ry
  obtain ⟨mA, J, _⟩ := ins_get I.hok ha
  obtain ⟨mB, J', _⟩ := ins_get I.hok hb
  obtain ⟨od, J, _⟩ := J.look
  obtain ⟨od', J', _⟩ := J'.look
  obtain ⟨m, hF⟩ := I.fr
  show wpAny (model X.prog X.w) X.A (richCompare .Eq _ _) (EP X pins σ Q) X.xe s
  refine PySem.W.cmp_K (op := .Eq) (tb := .ref C) hr.units0 hF I.ok.mod.kin J J'.type (by simp [PySem.W.notFirst]) hm.at_ hm.fn ?_
  refine wpAny_mono (run_sub (us := [.ref a, .ref b']) (vs := [.ref a, .ref b']) F b hr rfl I (.cons rfl (.cons rfl .nil)) q) (fun v s' hv => ?_) fun _ _ z => z
  obtain ⟨y, H', I', ry, r, rfl, q'⟩ := hv
  cases ry
  exact ⟨.bl r, H', I', rfl, q'⟩
theorem lk_hit {f : Str} {v : V} {fs : List (Str × V)} : ((f, v) :: fs).lookup f = some v := by simp [List.lookup]
theorem lk_skip {k f : Str} {v : V} {fs : List (Str × V)} (h : (k == f) = false) : ((f, v) :: fs).lookup k = fs.lookup k := by simp [List.lookup, h]
end
end Hd
namespace Hd
/-! ### comprehensions whose parts name the block's own context -/
section
open PySem PySem.Spec PyProof.Rows L2
variable {X : Cx}
abbrev BG (T : Type) := Shared → Hp → Addr → List (PySem.Str × Addr) → List Addr → T
abbrev b0 {T : Type} (X : Cx) (f : BG T) : T := f X.s_0 (fun _ => none) 0 [] []
theorem pe_lcD {elt tg iter : Expr} {ifs : List Expr} {scope : Scope} {own : List (PySem.Str × Nat)} {pos : Pos} {wi : TI} {g : BG TG} {tt : BG TT} {te : BG TE} (hc : X.calm = true) (hN : X.N.Nodup) (hi : PI X tg iter wi) (ok : BlkOk X.N X.env.scope scope own)
    (hg : ∀ (s : Shared) (H : Hp) (C : Addr) (cl : List (PySem.Str × Addr)) (fp : List Addr), PG (X.blk s H scope (compEnvC scope cl C X.env) fp) tg (g s H C cl fp)) (ht : ∀ (s : Shared) (H : Hp) (C : Addr) (cl : List (PySem.Str × Addr)) (fp : List Addr), PTs (X.blk s H scope (compEnvC scope cl C X.env) fp) ifs (tt s H C cl fp))
    (he : ∀ (s : Shared) (H : Hp) (C : Addr) (cl : List (PySem.Str × Addr)) (fp : List Addr), PE (X.blk s H scope (compEnvC scope cl C X.env) fp) elt (te s H C cl fp)) (hs : ∀ x, foldedSetIterable iter X.env x = pure x := by intro _; rfl)
    (eg : ∀ s H C cl fp, g s H C cl fp = b0 X g := by intros; rfl) (et : ∀ s H C cl fp, tt s H C cl fp = b0 X tt := by intros; rfl) (ee : ∀ s H C cl fp, te s H C cl fp = b0 X te := by intros; rfl) :
    PE X (.ListComp elt [⟨tg, iter, ifs, 0⟩] scope pos) (tLc wi (b0 X g) (b0 X tt) (b0 X te) (own.map (·.2))) :=
  pe_lc hc hN hi ok (fun s H C cl fp => by rw [← eg s H C cl fp]; exact hg s H C cl fp) (fun s H C cl fp => by rw [← et s H C cl fp]; exact ht s H C cl fp) (fun s H C cl fp => by rw [← ee s H C cl fp]; exact he s H C cl fp) hs
theorem ps_setLcD {i : Nat} {y : PySem.Str} {py : Pos} {elt tg iter : Expr} {ifs : List Expr} {scope : Scope} {own : List (PySem.Str × Nat)} {pos spos : Pos} {wi : TI} {g : BG TG} {tt : BG TT} {te : BG TE} (hc : X.calm = true) (hN : X.N.Nodup) (hy : X.N[i]? = some y) (hyl : X.env.scope.names.lookup y = some .local)
    (hsw : swapsWith (.ListComp elt [⟨tg, iter, ifs, 0⟩] scope pos) (some (.Name y py)) spos.line X.env = pure true) (hi : PI X tg iter wi) (ok : BlkOk X.N X.env.scope scope own)
    (hg : ∀ (s : Shared) (H : Hp) (C : Addr) (cl : List (PySem.Str × Addr)) (fp : List Addr), PG (X.blk s H scope (compEnvC scope cl C X.env) fp) tg (g s H C cl fp)) (ht : ∀ (s : Shared) (H : Hp) (C : Addr) (cl : List (PySem.Str × Addr)) (fp : List Addr), PTs (X.blk s H scope (compEnvC scope cl C X.env) fp) ifs (tt s H C cl fp))
    (he : ∀ (s : Shared) (H : Hp) (C : Addr) (cl : List (PySem.Str × Addr)) (fp : List Addr), PE (X.blk s H scope (compEnvC scope cl C X.env) fp) elt (te s H C cl fp)) (hs : ∀ x, foldedSetIterable iter X.env x = pure x := by intro _; rfl)
    (eg : ∀ s H C cl fp, g s H C cl fp = b0 X g := by intros; rfl) (et : ∀ s H C cl fp, tt s H C cl fp = b0 X tt := by intros; rfl) (ee : ∀ s H C cl fp, te s H C cl fp = b0 X te := by intros; rfl) :
    PS X (.Assign [.Name y py] (.ListComp elt [⟨tg, iter, ifs, 0⟩] scope pos) spos) (tAsg (tLc wi (b0 X g) (b0 X tt) (b0 X te) (own.map (·.2))) (gName i)) :=
  ps_setLc hc hN hy hyl hsw hi ok (fun s H C cl fp => by rw [← eg s H C cl fp]; exact hg s H C cl fp) (fun s H C cl fp => by rw [← et s H C cl fp]; exact ht s H C cl fp) (fun s H C cl fp => by rw [← ee s H C cl fp]; exact he s H C cl fp) hs
theorem pe_skD {elt tg iter : Expr} {ifs : List Expr} {scope : Scope} {own : List (PySem.Str × Nat)} {pos : Pos} {wi : TI} {g : BG TG} {tt : BG TT} {te : BG TE} (hc : X.calm = true) (hN : X.N.Nodup) (hi : PI X tg iter wi) (ok : BlkOk X.N X.env.scope scope own)
    (hg : ∀ (s : Shared) (H : Hp) (C : Addr) (cl : List (PySem.Str × Addr)) (fp : List Addr), PG (X.blk s H scope (compEnvC scope cl C X.env) fp) tg (g s H C cl fp)) (ht : ∀ (s : Shared) (H : Hp) (C : Addr) (cl : List (PySem.Str × Addr)) (fp : List Addr), PTs (X.blk s H scope (compEnvC scope cl C X.env) fp) ifs (tt s H C cl fp))
    (he : ∀ (s : Shared) (H : Hp) (C : Addr) (cl : List (PySem.Str × Addr)) (fp : List Addr), PE (X.blk s H scope (compEnvC scope cl C X.env) fp) elt (te s H C cl fp)) (hs : ∀ x, foldedSetIterable iter X.env x = pure x := by intro _; rfl)
    (eg : ∀ s H C cl fp, g s H C cl fp = b0 X g := by intros; rfl) (et : ∀ s H C cl fp, tt s H C cl fp = b0 X tt := by intros; rfl) (ee : ∀ s H C cl fp, te s H C cl fp = b0 X te := by intros; rfl) :
    PE X (.SetComp elt [⟨tg, iter, ifs, 0⟩] scope pos) (tSk X.prog X.w wi (b0 X g) (b0 X tt) (b0 X te) (own.map (·.2))) :=
  pe_sk hc hN hi ok (fun s H C cl fp => by rw [← eg s H C cl fp]; exact hg s H C cl fp) (fun s H C cl fp => by rw [← et s H C cl fp]; exact ht s H C cl fp) (fun s H C cl fp => by rw [← ee s H C cl fp]; exact he s H C cl fp) hs
end
end Hd
namespace Hd
/-! ### enumerate of a tuple -/
section
open PySem PySem.Spec PyProof.Rows L2
open AutoSeq1 (wpAny_loadPart')
theorem meets_enumerate_newT (l : Addr) (items : Array Value) :
    Meets (Builtin.«enumerate.__new__» ⟨[.type "enumerate", .ref l], []⟩) (fun _ R s => s.heap.IsTuple l items ∧
      R (.ok (.ret (.ref (s.heap.push { cls := .type "tuple_iterator", data := .fields #[.ref l, .int 0 0] }).objs.size)))
        { s with heap := (s.heap.push { cls := .type "tuple_iterator", data := .fields #[.ref l, .int 0 0] }).push { cls := .type "enumerate", data := .fields #[.none, .bool false, .ref s.heap.objs.size, rawInt 0, .none, .none] } }) :=
  .of_wp fun prog w A R s h => by
    obtain ⟨hp, g, d, tk, os⟩ := s; obtain ⟨hL, h⟩ := h
    have hsub := sub_enumerate
    wp_walk
    refine wpAny_stack_any fun st => wpAny_pure ?_
    split
    · rename_i c _ _ _ _ _
      cases (c == Value.type "enumerate")
      · wp_walk using wpAny_pyIter_tuple hL
        exact ⟨_, rfl, h⟩
      · wp_walk using wpAny_pyIter_tuple hL
        exact ⟨_, rfl, h⟩
    · wp_walk using wpAny_pyIter_tuple hL
      exact ⟨_, rfl, h⟩
theorem call_enumerate_tuple {prog : Program} {w : World} {A : Around} {E : Value → Shared → Prop} {s : Shared} {l : Addr} {items : Array Value} {Q : Value → Shared → Prop} (hL : s.heap.IsTuple l items)
    (h : ∀ h', IsEnum h' (s.heap.objs.size + 1) s.heap.objs.size 0 .none → h'.IsTupleIter s.heap.objs.size l 0 → h'.objs.size = s.heap.objs.size + 2 →
      (∀ b o, s.heap.get? b = some o → h'.get? b = some o) → Q (.ref (s.heap.objs.size + 1)) { s with heap := h' }) :
    wpAny (model prog w) A (call (.type "enumerate") [.ref l]) Q E s := by
  refine callType_new F.called_enumerate (by decide) (F.typeCall_enumerate_1 _) (F.newCall_enumerate_1 _) (fun obj => F.args_object_init_2 obj _) F.entry_enumerate_new
    (meets_enumerate_newT l items) ⟨hL, ?_⟩
  have hz : (s.heap.push { cls := .type "tuple_iterator", data := .fields #[.ref l, .int 0 0] }).objs.size = s.heap.objs.size + 1 := Heap.size_push ..
  show _ ∧ _
  rw [hz]
  have he : IsEnum ((s.heap.push { cls := .type "tuple_iterator", data := .fields #[.ref l, .int 0 0] }).push
      { cls := .type "enumerate", data := .fields #[.none, .bool false, .ref s.heap.objs.size, rawInt 0, .none, .none] }) (s.heap.objs.size + 1) s.heap.objs.size 0 .none := by
    have := Heap.get?_push_size (s.heap.push { cls := .type "tuple_iterator", data := .fields #[.ref l, .int 0 0] })
      (o := { cls := .type "enumerate", data := .fields #[.none, .bool false, .ref s.heap.objs.size, rawInt 0, .none, .none] }) rfl
    rw [hz] at this; exact this
  refine ⟨⟨_, he, rfl⟩, h _ he ⟨_, Heap.get?_push_of_some _ (Heap.get?_push_size _ rfl), rfl, rfl⟩ (by rw [Heap.size_push, hz]) fun b o x => Heap.get?_push_of_some _ (Heap.get?_push_of_some _ x)⟩
theorem enum_endT {prog : Program} {w : World} {A : Around} {E : Value → Shared → Prop} {s : Shared} {e it a : Addr} {n : Nat} {items : Array Value} {i : Int} {old : Value} {Q : Option Value → Shared → Prop} (hh : A.in1.handled = none)
    (he : IsEnum s.heap e it i old) (hit : s.heap.IsTupleIter it a n) (ht : s.heap.IsTuple a items) (hx : items[n]? = none)
    (hQ : ∀ h', Heap.ExtBut it s.heap h' → Q none { s with heap := h' }) : wpAny (model prog w) A (pyNext (.ref e)) Q E s := by
  have hT : s.TypeIs (.ref e) "enumerate" := ⟨_, he, rfl⟩
  unfold pyNext
  refine wpAny_bind (wpAny_attempt (wpAny_callSpecial?_slot (name := Str.ofString "__next__") hT F.slot_enumerate_next
    (wpAny_call_entry F.slot_enumerate_next hT F.entry_enumerate_next ?_ (F.args_enumerate_next_1 _))))
  show wpAny _ _ (field (.ref e) 2 >>= _) _ _ _
  refine wpAny_bind (wpAny_field he rfl (x := .ref it) rfl ?_)
  refine wpAny_bind (wpAny_nextOf_tuple_end hh hit ht hx fun h' x he' hx' => ?_)
  obtain ⟨o, ho, hc⟩ := hx'
  refine wpAny_bind (wpAny_isInstance (T := "StopIteration") (b := true) ⟨o, ho, hc⟩ isSubtype_stop ?_)
  exact wpAny_pure (hQ _ he')
/-- the tuple at a, each item in a new pair -/
def IteT (K : PySem.W.Frag) (a : Addr) : It :=
  ⟨fun i H => ∃ (xs : List V) (x : V), SqT K H a xs ∧ xs[i]? = some x, fun i H v H' => ∃ T x, v = .ref T ∧ H T = none ∧ H' = upd H T (.tup [.int (i : Nat), x]) ∧ ∀ xs, SqT K H a xs → xs[i]? = some x, fun i H => ∃ xs : List V, SqT K H a xs ∧ xs.length ≤ i⟩
theorem turn_enumT {P : Program} {w : World} {K : PySem.W.Frag} {elts : List Expr} {kk : Nat} {tpos : Pos} (a e it : Addr) (hai : a ≠ it) (hae : a ≠ e) :
    Turn P w K (.Tuple elts kk tpos) (IteT K a) [e, it] e (fun i h => (∃ old, IsEnum h e it ((i : Nat) : Int) old) ∧ h.IsTupleIter it a i ∧ e ≠ it) where
  mem := by simp
  obj := fun i h st b hb => by
    obtain ⟨⟨old, he⟩, ⟨o, ho, hc, hd⟩, _⟩ := st
    have e' : b = e ∨ b = it := by simpa using hb
    rcases e' with z | z
    · rw [z]; exact ⟨_, he, fun v q => nomatch q⟩
    · rw [z]; exact ⟨o, ho, fun v q => by rw [hd] at q; cases q⟩
  keep := fun i h h' st k => let ⟨⟨old, he⟩, hi, hne⟩ := st; ⟨⟨old, k e (by simp) _ he⟩, hi.at fun o q => k it (by simp) o q, hne⟩
  item := by
    intro X hP hw hK hc i pins s σ H E I hf st hg
    subst hP hw hK
    obtain ⟨⟨old, he⟩, hit, hne⟩ := st
    obtain ⟨xs, x, hq, hx⟩ := hg
    obtain ⟨its, rv, p, hz⟩ := I.tuple hq
    obtain ⟨u, hu, ru⟩ := rv.get hx
    have hel : e < s.heap.objs.size := Heap.lt_size he
    have hil : it < s.heap.objs.size := by obtain ⟨_, q, _⟩ := hit; exact Heap.lt_size q
    have hx1 : its.toArray[i]? = some u := by simpa using hu
    have hlt : i < its.toArray.size := (Array.getElem?_eq_some_iff.mp hx1).1
    refine wpAny_pyNext_enum_itemD (Draws.tuple (A := X.A.in1) (show X.A.in1.handled = none from I.ok.hd hc) it a hai its.toArray) he ⟨hit, p⟩ hlt hne (by simpa using ⟨hne, hae.symm⟩) fun u' h' tk hP' ho hst hT hsz hk => ?_
    have eu : u' = u := by
      have hP2 : its.toArray[i]? = some u' := hP'
      rw [hx1] at hP2
      injection hP2 with q
      exact q.symm
    subst eu
    refine ⟨_, rfl, wpAny_letOwnedTupleGo_enum (s := { s with heap := h', toks := tk + 1 }) ho fun h'' he' sb => ?_⟩
    have hT2 : h''.get? s.heap.objs.size = some { cls := .type "tuple", data := .seq #[.int i tk, u'] } := (sb.2 _ (Nat.ne_of_gt hel)).trans hT
    have new : ObjOk X.prog X.w (upd H s.heap.objs.size (.tup [.int (i : Nat), x])) h'' s.heap.objs.size (.tup [.int (i : Nat), x]) :=
      ⟨by show 2 ≤ sizeLine; decide, [.int i tk, u'], .cons ⟨_, rfl⟩ (.cons ru .nil), ⟨_, hT2, rfl, _, rfl⟩⟩
    have I1 : Inv X pins σ (upd H s.heap.objs.size (.tup [.int (i : Nat), x])) { s with heap := h'', toks := tk + 1 } :=
      I.turnedNew (ch := [e, it]) (fun b ob hb q => (sb.2 b (fun z => hb (by simp [z]))).trans (hk b ob (fun z => hb (by simp [z])) (fun z => hb (by simp [z])) q)) hf (Nat.le_refl _) new
    refine ⟨.ref s.heap.objs.size, _, I1, rfl, ⟨_, x, rfl, I.hok.fresh (Nat.le_refl _), rfl, fun ys hy => by rw [I.tuple_inj hy hq]; exact hx⟩, ⟨⟨u', ?_⟩, hst.1.at fun o q => (sb.2 it (Ne.symm hne)).trans q, hne⟩, fun b hb => ?_⟩
    · have e1 : ((i + 1 : Nat) : Int) = (i : Int) + 1 := by omega
      rw [e1]; exact he'
    · have hb' : b < s.heap.objs.size := by
        have e' : b = e ∨ b = it := by simpa using hb
        rcases e' with z | z
        · rw [z]; exact hel
        · rw [z]; exact hil
      rw [upd_ne (Nat.ne_of_lt hb')]
      exact (hf b hb).1
  done := by
    intro X hP hw hK hc i pins s σ H E I hf st hg
    subst hP hw hK
    obtain ⟨⟨old, he⟩, hit, hne⟩ := st
    obtain ⟨xs, hq, hx⟩ := hg
    obtain ⟨its, rv, p, hz⟩ := I.tuple hq
    obtain ⟨f0, f1, f2, f3, f4, f5⟩ := hf it (by simp)
    have hl := rv.length
    exact enum_endT (show X.A.in1.handled = none from I.ok.hd hc) he hit p (by simp; omega) fun h' eb => ⟨rfl, I.turned (t' := s.toks) (fun b o hb q => eb b o hb q) f0 f1 f3 f4 f5⟩
  self := fun A i s Q E st h => let ⟨⟨_, he⟩, _⟩ := st; wpAny_pyIter_enum he h
def iEnumT (K : PySem.W.Frag) (ta : TA) : TI := fun σ H R => ta σ H fun vs H1 => ∃ a xs, vs = [.ref a] ∧ SqT K H1 a xs ∧ R (IteT K a) H1
theorem pi_enumT {X : Cx} {e : Expr} {ta : TA} {p pos tpos : Pos} {elts : List Expr} {kk : Nat} (hg : Gl X "enumerate") (hm : X.mg "enumerate" = none) (ha : PA X [e] ta) (hs : starEach [e] X.env = [(false, eval e X.env)] := by rfl) :
    PI X (.Tuple elts kk tpos) (.Call (.Name "enumerate" p) [e] [] pos) (iEnumT X.K ta) := by
  refine ⟨fun pins s σ H R I h => ?_⟩
  refine Call_ (ld_blt I hg hm boot_enumerate (PyProof.Rows.callWith_type1 (thn (ha.run pos pins s σ H _ I h) fun us s1 ⟨vs, H1, I1, r1, q1⟩ => ?_) hs rfl))
  obtain ⟨a, xs, ex, hq, q⟩ := q1
  subst ex
  cases r1 with
  | cons r rr =>
    cases rr
    cases r
    obtain ⟨its, rv, p', hz⟩ := I1.tuple hq
    have hal : a < s1.heap.objs.size := by obtain ⟨_, z, _⟩ := p'; exact Heap.lt_size z
    refine call_enumerate_tuple p' fun h' he hit hsz hk => wpAny_pyIter_enum he ?_
    have I2 : Inv X pins σ H1 { s1 with heap := h' } := I1.kept (t' := s1.toks) hk
    refine ⟨s1.heap.objs.size + 1, [s1.heap.objs.size + 1, s1.heap.objs.size], _, _, H1, rfl, I2, turn_enumT a (s1.heap.objs.size + 1) s1.heap.objs.size (Nat.ne_of_lt hal) (Nat.ne_of_lt (Nat.lt_succ_of_lt hal)), ⟨⟨.none, he⟩, hit, Nat.succ_ne_self _⟩, fun b hb => ?_, q⟩
    have e' : b = s1.heap.objs.size + 1 ∨ b = s1.heap.objs.size := by simpa using hb
    have hle : s1.heap.objs.size ≤ b := by
      rcases e' with z | z
      · rw [z]; exact Nat.le_add_right _ _
      · rw [z]; exact Nat.le_refl _
    exact I1.fpOk hle (I1.hok.fresh hle)
end
end Hd
namespace Hd
/-! ### the value layer: things as data, what is owned, the state -/
section
open PySem PySem.Spec PyProof.Rows L2
/-- things, as data -/
inductive D where
  | non | bl (b : Bool) | int (i : Int) | str (x : Str)
  | lst (ds : List D) | tup (ds : List D) | dic (t : Bool) (kvs : List (D × D)) | set (ks : List D)
  | obj (a : Addr) (c : Str) (fs : List (Str × D))
  | ref (a : Addr)
  | exc (a dd : Addr) (f : Str) (d : D)
instance : Inhabited D := ⟨.non⟩
/-- cells: what a slot or a value at hand is; what is owned is known by its address -/
inductive O where
  | un
  | sh (d : D)
  | lent (p : Addr)
  | src (p : Addr)
  | ol (p : Addr) (ds : List D)
  | od (p : Addr) (t : Bool) (kvs : List (D × D))
  | oo (p : Addr) (c : Str) (fs : List (Str × O))
  | dd (p : Addr) (t : Bool) (kvs : List (D × O))
  | ll (p : Addr) (os : List O)
  | ho (p : Addr) (u : HO)
instance : Inhabited O := ⟨.un⟩
def keyD : Key → D
  | .inl i => .int i
  | .inr x => .str x
def keysD (ks : List Key) : D := .tup (ks.map keyD)
noncomputable instance : DecidableEq D := fun a b => Classical.propDecidable (a = b)
/-- a tuple of texts and numbers, of both: what may be a key of a dict -/
def isIntD : D → Bool
  | .int _ => true
  | _ => false
def isStrD : D → Bool
  | .str _ => true
  | _ => false
def mixed (ds : List D) : Bool := ds.any isIntD && ds.any isStrD
/-- a tuple: tracked, or (no key) one of the written part -/
def TupAt (K : PySem.W.Frag) (H : Hp) (a : Addr) (xs : List V) (ds : List D) : Prop := H a = some (.tup xs) ∨ (SqT K H a xs ∧ mixed ds = false)
theorem TupAt.sq {K : PySem.W.Frag} {H : Hp} {a : Addr} {xs : List V} {ds : List D} (h : TupAt K H a xs ds) : SqT K H a xs := by
  rcases h with h | h
  · exact SqT.of h
  · exact h.1
theorem TupAt.mono {A : List Addr} {K : PySem.W.Frag} {H H' : Hp} {a : Addr} {xs : List V} {ds : List D} (s : Stp A H H') (h : TupAt K H a xs ds) : TupAt K H' a xs ds := by
  rcases h with h | h
  · exact .inl (s.t _ _ h)
  · exact .inr ⟨s.sqT h.1, h.2⟩
/-- a list: tracked, or locked, outside A; or one of the written part -/
def LstAt (K : PySem.W.Frag) (A : List Addr) (H : Hp) (a : Addr) (xs : List V) : Prop := (Rd H a (.lst xs) ∧ a ∉ A) ∨
  ∃ (o : Obj) (its : Array Value) (n : Nat), K.lookup a = some o ∧ o.cls = .type "list" ∧ o.dict = none ∧ o.data = .seq its n ∧ its.size ≤ sizeLine ∧ Vals xs its.toList
theorem LstAt.sq {K : PySem.W.Frag} {A : List Addr} {H : Hp} {a : Addr} {xs : List V} (h : LstAt K A H a xs) : SqL K H a xs := by
  rcases h with h | h
  · exact .inl h.1
  · exact .inr h
theorem Stp.rd {A : List Addr} {H H' : Hp} (s : Stp A H H') {a : Addr} {u : HO} (h : Rd H a u) (n : a ∉ A) : Rd H' a u := by
  rcases h with h | ⟨o, h⟩
  · exact .inl (s.k _ _ n h)
  · exact .inr ⟨o, s.z _ _ _ h⟩
theorem LstAt.mono {K : PySem.W.Frag} {A : List Addr} {H H' : Hp} {a : Addr} {xs : List V} (s : Stp A H H') (h : LstAt K A H a xs) : LstAt K A H' a xs := by
  rcases h with h | h
  · exact .inl ⟨s.rd h.1 h.2, h.2⟩
  · exact .inr h
theorem LstAt.avoid {K : PySem.W.Frag} {A B : List Addr} {H : Hp} {a : Addr} {xs : List V} (q : ∀ a, a ∈ B → a ∉ A → H a = none) (h : LstAt K A H a xs) : LstAt K B H a xs := by
  rcases h with ⟨h, n⟩ | h
  · refine .inl ⟨h, fun z => ?_⟩
    have e := q a z n
    rcases h with h | ⟨_, h⟩ <;> rw [e] at h <;> cases h
  · exact .inr h
theorem LstAt.of {K : PySem.W.Frag} {A : List Addr} {H : Hp} {a : Addr} {xs : List V} (h : H a = some (.lst xs)) (n : a ∉ A) : LstAt K A H a xs := .inl ⟨.inl h, n⟩
mutual
/-- v is the data d; what of it can change stands outside A -/
inductive Rp (K : PySem.W.Frag) (A : List Addr) (H : Hp) : V → D → Prop
  | non : Rp K A H .non .non
  | bl (b : Bool) : Rp K A H (.bl b) (.bl b)
  | int (i : Int) : Rp K A H (.int i) (.int i)
  | str (x : Str) : Rp K A H (.str x) (.str x)
  | lst {a : Addr} {xs : List V} {ds : List D} : LstAt K A H a xs → xs.length ≤ sizeLine → RpA K A H xs ds → Rp K A H (.ref a) (.lst ds)
  | tup {a : Addr} {xs : List V} {ds : List D} : TupAt K H a xs ds → xs.length ≤ sizeLine → RpA K A H xs ds → Rp K A H (.ref a) (.tup ds)
  | dic {a : Addr} {kvs : List (Key × V)} {es : List (D × D)} : Rd H a (.dK kvs) → kvs.length ≤ sizeLine → a ∉ A → RpA K A H (kvs.map (·.2)) (es.map (·.2)) → es.map (·.1) = kvs.map (fun p => keyD p.1) → Rp K A H (.ref a) (.dic false es)
  | dicT {a : Addr} {kvs : List (List Key × V)} {es : List (D × D)} : Rd H a (.dT kvs) → kvs.length ≤ sizeLine → a ∉ A → RpA K A H (kvs.map (·.2)) (es.map (·.2)) → es.map (·.1) = kvs.map (fun p => keysD p.1) → Rp K A H (.ref a) (.dic true es)
  | obj {a : Addr} {c : Str} {dx : Addr} {fs : List (Str × V)} {es : List (Str × D)} : H a = some (.ins (He.ga K c) dx fs) → a ∉ A → RpA K A H (fs.map (·.2)) (es.map (·.2)) → es.map (·.1) = fs.map (·.1) → Rp K A H (.ref a) (.obj a c es)
  | ref (a : Addr) : Rp K A H (.ref a) (.ref a)
  | exc {a dd : Addr} {f : Str} {v : V} {d : D} : H dd = some (.xd [(f, v)]) → dd ∉ A → Rp K A H v d → Rp K A H (.ref a) (.exc a dd f d)
inductive RpA (K : PySem.W.Frag) (A : List Addr) (H : Hp) : List V → List D → Prop
  | nil : RpA K A H [] []
  | cons {v : V} {vs : List V} {d : D} {ds : List D} : Rp K A H v d → RpA K A H vs ds → RpA K A H (v :: vs) (d :: ds)
end
variable {K : PySem.W.Frag} {A B : List Addr} {H H' : Hp}
mutual
theorem Rp.mono (s : Stp A H H') : ∀ {v : V} {d : D}, Rp K A H v d → Rp K A H' v d
  | _, _, .non => .non
  | _, _, .bl b => .bl b
  | _, _, .int i => .int i
  | _, _, .str x => .str x
  | _, _, .lst h z t => .lst (h.mono s) z (RpA.mono s t)
  | _, _, .tup h z t => .tup (h.mono s) z (RpA.mono s t)
  | _, _, .dic h z n t e => .dic (s.rd h n) z n (RpA.mono s t) e
  | _, _, .dicT h z n t e => .dicT (s.rd h n) z n (RpA.mono s t) e
  | _, _, .obj h n t e => .obj (s.k _ _ n h) n (RpA.mono s t) e
  | _, _, .ref a => .ref a
  | _, _, .exc h n t => .exc (s.k _ _ n h) n (Rp.mono s t)
theorem RpA.mono (s : Stp A H H') : ∀ {vs : List V} {ds : List D}, RpA K A H vs ds → RpA K A H' vs ds
  | _, _, .nil => .nil
  | _, _, .cons h t => .cons (Rp.mono s h) (RpA.mono s t)
end
mutual
/-- it stands outside P, if no address that it reads is in P or P's are new -/
theorem Rp.avoid (h : ∀ a, a ∈ B → a ∉ A → H a = none) : ∀ {v : V} {d : D}, Rp K A H v d → Rp K B H v d
  | _, _, .non => .non
  | _, _, .bl b => .bl b
  | _, _, .int i => .int i
  | _, _, .str x => .str x
  | _, _, .lst q zz t => .lst (q.avoid h) zz (RpA.avoid h t)
  | _, _, .tup q zz t => .tup q zz (RpA.avoid h t)
  | _, _, .dic q zz n t e => .dic q zz (fun z => by have e := h _ z n; rcases q with q | ⟨_, q⟩ <;> rw [e] at q <;> cases q) (RpA.avoid h t) e
  | _, _, .dicT q zz n t e => .dicT q zz (fun z => by have e := h _ z n; rcases q with q | ⟨_, q⟩ <;> rw [e] at q <;> cases q) (RpA.avoid h t) e
  | _, _, .obj q n t e => .obj q (fun z => by have e := h _ z n; rw [e] at q; cases q) (RpA.avoid h t) e
  | _, _, .ref a => .ref a
  | _, _, .exc q n t => .exc q (fun z => by have e := h _ z n; rw [e] at q; cases q) (Rp.avoid h t)
theorem RpA.avoid (h : ∀ a, a ∈ B → a ∉ A → H a = none) : ∀ {vs : List V} {ds : List D}, RpA K A H vs ds → RpA K B H vs ds
  | _, _, .nil => .nil
  | _, _, .cons q t => .cons (Rp.avoid h q) (RpA.avoid h t)
end
theorem Rp.sub (h : ∀ a ∈ B, a ∈ A) {v : V} {d : D} (r : Rp K A H v d) : Rp K B H v d := r.avoid fun a ha n => absurd (h a ha) n
theorem RpA.sub (h : ∀ a ∈ B, a ∈ A) {v : List V} {d : List D} (r : RpA K A H v d) : RpA K B H v d := r.avoid fun a ha n => absurd (h a ha) n
theorem RpA.len : ∀ {vs : List V} {ds : List D}, RpA K A H vs ds → vs.length = ds.length
  | _, _, .nil => rfl
  | _, _, .cons _ t => congrArg Nat.succ t.len
theorem RpA.app : ∀ {vs ws : List V} {ds es : List D}, RpA K A H vs ds → RpA K A H ws es → RpA K A H (vs ++ ws) (ds ++ es)
  | _, _, _, _, .nil, s => s
  | _, _, _, _, .cons r t, s => .cons r (t.app s)
theorem RpA.get : ∀ {vs : List V} {ds : List D} {i : Nat} {v : V}, RpA K A H vs ds → vs[i]? = some v → ∃ d, ds[i]? = some d ∧ Rp K A H v d
  | _, _, _, _, .nil, e => by simp at e
  | _, _, 0, _, .cons h _, e => by simp at e; subst e; exact ⟨_, rfl, h⟩
  | _, _, i + 1, v, .cons _ t, e => by
    obtain ⟨d, h1, h2⟩ := RpA.get (i := i) (v := v) t (by simpa using e)
    exact ⟨d, by simpa using h1, h2⟩
theorem RpA.getD : ∀ {vs : List V} {ds : List D} {i : Nat} {d : D}, RpA K A H vs ds → ds[i]? = some d → ∃ v, vs[i]? = some v ∧ Rp K A H v d
  | _, _, _, _, .nil, e => by simp at e
  | _, _, 0, _, .cons h _, e => by simp at e; subst e; exact ⟨_, rfl, h⟩
  | _, _, i + 1, d, .cons _ t, e => by
    obtain ⟨v, h1, h2⟩ := RpA.getD (i := i) (d := d) t (by simpa using e)
    exact ⟨v, by simpa using h1, h2⟩
theorem RpA.take : ∀ {vs : List V} {ds : List D} (n : Nat), RpA K A H vs ds → RpA K A H (vs.take n) (ds.take n)
  | _, _, 0, _ => .nil
  | _, _, _ + 1, .nil => .nil
  | _, _, n + 1, .cons r t => .cons r (t.take n)
theorem RpA.drop : ∀ {vs : List V} {ds : List D} (n : Nat), RpA K A H vs ds → RpA K A H (vs.drop n) (ds.drop n)
  | _, _, 0, r => r
  | _, _, _ + 1, .nil => .nil
  | _, _, n + 1, .cons _ t => t.drop n
theorem RpA.set : ∀ {vs : List V} {ds : List D} (n : Nat) {v : V} {d : D}, RpA K A H vs ds → Rp K A H v d → RpA K A H (vs.set n v) (ds.set n d)
  | _, _, _, _, _, .nil, _ => .nil
  | _, _, 0, _, _, .cons _ t, q => .cons q t
  | _, _, n + 1, _, _, .cons r t, q => .cons r (t.set n q)
/-! ### cells -/
mutual
inductive OwC (K : PySem.W.Frag) (A : List Addr) (H : Hp) : Option V → O → List Addr → Prop
  | un (v : Option V) : OwC K A H v .un []
  | sh {v : V} {d : D} : Rp K A H v d → OwC K A H (some v) (.sh d) []
  | lent (p : Addr) : OwC K A H (some (.ref p)) (.lent p) []
  | ho {p : Addr} {u : HO} : H p = some u → Mut (some u) → OwC K A H (some (.ref p)) (.ho p u) [p]
  | src {p : Addr} : Src H p → OwC K A H (some (.ref p)) (.src p) [p]
  | ol {p : Addr} {vs : List V} {ds : List D} : H p = some (.lst vs) → vs.length ≤ sizeLine → RpA K A H vs ds → OwC K A H (some (.ref p)) (.ol p ds) [p]
  | od {p : Addr} {kvs : List (Key × V)} {es : List (D × D)} : H p = some (.dK kvs) → kvs.length ≤ sizeLine → RpA K A H (kvs.map (·.2)) (es.map (·.2)) → es.map (·.1) = kvs.map (fun p => keyD p.1) → OwC K A H (some (.ref p)) (.od p false es) [p]
  | odT {p : Addr} {kvs : List (List Key × V)} {es : List (D × D)} : H p = some (.dT kvs) → kvs.length ≤ sizeLine → RpA K A H (kvs.map (·.2)) (es.map (·.2)) → es.map (·.1) = kvs.map (fun p => keysD p.1) → OwC K A H (some (.ref p)) (.od p true es) [p]
  | oo {p : Addr} {c : Str} {dx : Addr} {fs : List (Str × V)} {es : List (Str × O)} {F : List Addr} : H p = some (.ins (He.ga K c) dx fs) → OwA K A H (fs.map (fun x => some x.2)) (es.map (·.2)) F → es.map (·.1) = fs.map (·.1) → OwC K A H (some (.ref p)) (.oo p c es) (p :: F)
  | dd {p : Addr} {kvs : List (Key × V)} {es : List (D × O)} {F : List Addr} : H p = some (.dK kvs) → kvs.length ≤ sizeLine → OwA K A H (kvs.map (fun x => some x.2)) (es.map (·.2)) F → es.map (·.1) = kvs.map (fun p => keyD p.1) → OwC K A H (some (.ref p)) (.dd p false es) (p :: F)
  | ddT {p : Addr} {kvs : List (List Key × V)} {es : List (D × O)} {F : List Addr} : H p = some (.dT kvs) → kvs.length ≤ sizeLine → OwA K A H (kvs.map (fun x => some x.2)) (es.map (·.2)) F → es.map (·.1) = kvs.map (fun p => keysD p.1) → OwC K A H (some (.ref p)) (.dd p true es) (p :: F)
  | ll {p : Addr} {vs : List V} {os : List O} {F : List Addr} : H p = some (.lst vs) → vs.length ≤ sizeLine → OwA K A H (vs.map some) os F → OwC K A H (some (.ref p)) (.ll p os) (p :: F)
inductive OwA (K : PySem.W.Frag) (A : List Addr) (H : Hp) : List (Option V) → List O → List Addr → Prop
  | nil : OwA K A H [] [] []
  | cons {v : Option V} {vs : List (Option V)} {o : O} {os : List O} {F G : List Addr} : OwC K A H v o F → OwA K A H vs os G → OwA K A H (v :: vs) (o :: os) (F ++ G)
end
mutual
theorem OwC.mono {S : List Addr} (s : Stp S H H') (hA : ∀ a ∈ S, a ∈ A) : ∀ {v : Option V} {o : O} {F : List Addr}, (∀ a ∈ S, a ∉ F) → OwC K A H v o F → OwC K A H' v o F
  | _, _, _, _, .un v => .un v
  | _, _, _, _, .sh r => .sh (r.mono (s.mono hA))
  | _, _, _, _, .lent p => .lent p
  | _, _, _, n, .ho q m => .ho (s.k _ _ (fun z => n _ z (by simp)) q) m
  | _, _, _, n, .src q => .src (q.keep s fun z => n _ z (by simp))
  | _, _, _, n, .ol q zz t => .ol (s.k _ _ (fun z => n _ z (by simp)) q) zz (t.mono (s.mono hA))
  | _, _, _, n, .od q zz t e => .od (s.k _ _ (fun z => n _ z (by simp)) q) zz (t.mono (s.mono hA)) e
  | _, _, _, n, .odT q zz t e => .odT (s.k _ _ (fun z => n _ z (by simp)) q) zz (t.mono (s.mono hA)) e
  | _, _, _, n, .oo q t e => .oo (s.k _ _ (fun z => n _ z (by simp)) q) (OwA.mono s hA (fun a ha z => n a ha (List.mem_cons_of_mem _ z)) t) e
  | _, _, _, n, .dd q zz t e => .dd (s.k _ _ (fun z => n _ z (by simp)) q) zz (OwA.mono s hA (fun a ha z => n a ha (List.mem_cons_of_mem _ z)) t) e
  | _, _, _, n, .ddT q zz t e => .ddT (s.k _ _ (fun z => n _ z (by simp)) q) zz (OwA.mono s hA (fun a ha z => n a ha (List.mem_cons_of_mem _ z)) t) e
  | _, _, _, n, .ll q zz t => .ll (s.k _ _ (fun z => n _ z (by simp)) q) zz (OwA.mono s hA (fun a ha z => n a ha (List.mem_cons_of_mem _ z)) t)
theorem OwA.mono {S : List Addr} (s : Stp S H H') (hA : ∀ a ∈ S, a ∈ A) : ∀ {vs : List (Option V)} {os : List O} {F : List Addr}, (∀ a ∈ S, a ∉ F) → OwA K A H vs os F → OwA K A H' vs os F
  | _, _, _, _, .nil => .nil
  | _, _, _, n, .cons h t => .cons (OwC.mono s hA (fun a ha z => n a ha (List.mem_append_left _ z)) h) (OwA.mono s hA (fun a ha z => n a ha (List.mem_append_right _ z)) t)
end
mutual
theorem OwC.avoid (h : ∀ a, a ∈ B → a ∉ A → H a = none) : ∀ {v : Option V} {o : O} {F : List Addr}, OwC K A H v o F → OwC K B H v o F
  | _, _, _, .un v => .un v
  | _, _, _, .sh r => .sh (r.avoid h)
  | _, _, _, .lent p => .lent p
  | _, _, _, .src q => .src q
  | _, _, _, .ho q m => .ho q m
  | _, _, _, .ol q z t => .ol q z (t.avoid h)
  | _, _, _, .od q z t e => .od q z (t.avoid h) e
  | _, _, _, .odT q z t e => .odT q z (t.avoid h) e
  | _, _, _, .oo q t e => .oo q (OwA.avoid h t) e
  | _, _, _, .dd q zz t e => .dd q zz (OwA.avoid h t) e
  | _, _, _, .ddT q zz t e => .ddT q zz (OwA.avoid h t) e
  | _, _, _, .ll q zz t => .ll q zz (OwA.avoid h t)
theorem OwA.avoid (h : ∀ a, a ∈ B → a ∉ A → H a = none) : ∀ {vs : List (Option V)} {os : List O} {F : List Addr}, OwA K A H vs os F → OwA K B H vs os F
  | _, _, _, .nil => .nil
  | _, _, _, .cons q t => .cons (OwC.avoid h q) (OwA.avoid h t)
end
theorem one_has {q p : Addr} {u : HO} (h : p ∈ [q]) (e : H q = some u) : H p ≠ none := by
  have z : p = q := by simpa using h
  rw [z, e]; simp
mutual
/-- what is owned is there -/
theorem OwC.has : ∀ {v : Option V} {o : O} {F : List Addr}, OwC K A H v o F → ∀ p ∈ F, H p ≠ none
  | _, _, _, .un v, p, h => by cases h
  | _, _, _, .sh r, p, h => by cases h
  | _, _, _, .lent _, p, h => by cases h
  | _, _, _, .src ⟨_, _, _, q⟩, p, h => one_has h q
  | _, _, _, .ho q _, p, h => one_has h q
  | _, _, _, .ol q _ t, p, h => one_has h q
  | _, _, _, .od q _ t _, p, h => one_has h q
  | _, _, _, .odT q _ t _, p, h => one_has h q
  | _, _, _, .oo q t e, p, h => by
    rcases List.mem_cons.mp h with z | z
    · subst z; rw [q]; simp
    · exact OwA.has t p z
  | _, _, _, .dd q _ t e, p, h => by
    rcases List.mem_cons.mp h with z | z
    · subst z; rw [q]; simp
    · exact OwA.has t p z
  | _, _, _, .ddT q _ t e, p, h => by
    rcases List.mem_cons.mp h with z | z
    · subst z; rw [q]; simp
    · exact OwA.has t p z
  | _, _, _, .ll q _ t, p, h => by
    rcases List.mem_cons.mp h with z | z
    · subst z; rw [q]; simp
    · exact OwA.has t p z
theorem OwA.has : ∀ {vs : List (Option V)} {os : List O} {F : List Addr}, OwA K A H vs os F → ∀ p ∈ F, H p ≠ none
  | _, _, _, .nil, p, h => by cases h
  | _, _, _, .cons q t, p, h => by
    rcases List.mem_append.mp h with z | z
    · exact OwC.has q p z
    · exact OwA.has t p z
end
theorem one_mut {q p : Addr} {u : HO} (h : p ∈ [q]) (e : H q = some u) (m : Mut (some u)) : Mut (H p) := by
  have z : p = q := by simpa using h
  rw [z, e]; exact m
mutual
/-- what is owned can change -/
theorem OwC.mut : ∀ {v : Option V} {o : O} {F : List Addr}, OwC K A H v o F → ∀ p ∈ F, Mut (H p)
  | _, _, _, .un v, p, h => by cases h
  | _, _, _, .sh r, p, h => by cases h
  | _, _, _, .lent _, p, h => by cases h
  | _, _, _, .src ⟨_, _, _, q⟩, p, h => one_mut h q trivial
  | _, _, _, .ho q m, p, h => one_mut h q m
  | _, _, _, .ol q _ t, p, h => one_mut h q trivial
  | _, _, _, .od q _ t _, p, h => one_mut h q trivial
  | _, _, _, .odT q _ t _, p, h => one_mut h q trivial
  | _, _, _, .oo q t e, p, h => by
    rcases List.mem_cons.mp h with z | z
    · subst z; rw [q]; trivial
    · exact OwA.mut t p z
  | _, _, _, .dd q _ t e, p, h => by
    rcases List.mem_cons.mp h with z | z
    · subst z; rw [q]; trivial
    · exact OwA.mut t p z
  | _, _, _, .ddT q _ t e, p, h => by
    rcases List.mem_cons.mp h with z | z
    · subst z; rw [q]; trivial
    · exact OwA.mut t p z
  | _, _, _, .ll q _ t, p, h => by
    rcases List.mem_cons.mp h with z | z
    · subst z; rw [q]; trivial
    · exact OwA.mut t p z
theorem OwA.mut : ∀ {vs : List (Option V)} {os : List O} {F : List Addr}, OwA K A H vs os F → ∀ p ∈ F, Mut (H p)
  | _, _, _, .nil, p, h => by cases h
  | _, _, _, .cons q t, p, h => by
    rcases List.mem_append.mp h with z | z
    · exact OwC.mut q p z
    · exact OwA.mut t p z
end
theorem OwA.len : ∀ {vs : List (Option V)} {os : List O} {F : List Addr}, OwA K A H vs os F → vs.length = os.length
  | _, _, _, .nil => rfl
  | _, _, _, .cons _ t => congrArg Nat.succ t.len
theorem OwA.app : ∀ {vs ws : List (Option V)} {os us : List O} {F G : List Addr}, OwA K A H vs os F → OwA K A H ws us G → OwA K A H (vs ++ ws) (os ++ us) (F ++ G)
  | _, _, _, _, _, _, .nil, s => s
  | _, _, _, _, _, _, .cons r t, s => by rw [List.append_assoc]; exact .cons r (t.app s)
theorem OwA.split : ∀ {vs ws : List (Option V)} {os us : List O} {F : List Addr}, vs.length = os.length → OwA K A H (vs ++ ws) (os ++ us) F → ∃ F1 F2, F = F1 ++ F2 ∧ OwA K A H vs os F1 ∧ OwA K A H ws us F2
  | [], _, [], _, F, _, h => ⟨[], F, rfl, .nil, h⟩
  | [], _, _ :: _, _, _, l, _ => by cases l
  | _ :: _, _, [], _, _, l, _ => by cases l
  | v :: vs, ws, o :: os, us, F, l, h => by
    cases h with
    | cons h1 h2 =>
      obtain ⟨F1, F2, e, a, b⟩ := OwA.split (Nat.succ.inj l) h2
      subst e
      exact ⟨_, F2, by rw [← List.append_assoc], .cons h1 a, b⟩
/-- one entry, what stands ahead and behind it -/
theorem OwA.at_ : ∀ {vs : List (Option V)} {os : List O} {F : List Addr} {i : Nat} {o : O}, OwA K A H vs os F → os[i]? = some o → ∃ v F1 F2 F3, vs[i]? = some v ∧ F = F1 ++ F2 ++ F3 ∧ OwC K A H v o F2 ∧
    ∀ {A' : List Addr} {H' : Hp} {v' : Option V} {o' : O} {G : List Addr}, (∀ {v o E}, (∀ p ∈ E, p ∈ F1 ++ F3) → OwC K A H v o E → OwC K A' H' v o E) → OwC K A' H' v' o' G → OwA K A' H' (vs.set i v') (os.set i o') (F1 ++ G ++ F3)
  | _, _, _, _, _, .nil, e => by simp at e
  | _, _, _, 0, _, .cons (F := F) (G := G) h t, e => by
    simp at e; subst e
    refine ⟨_, [], F, G, rfl, rfl, h, fun {A' H' v' o' G'} up c => ?_⟩
    show OwA K A' H' (v' :: _) (o' :: _) (G' ++ G)
    refine .cons c ?_
    have all : ∀ {vs : List (Option V)} {os : List O} {E : List Addr}, (∀ p ∈ E, p ∈ G) → OwA K A H vs os E → OwA K A' H' vs os E := by
      intro vs
      induction vs with
      | nil => intro os E _ q; cases q; exact .nil
      | cons v vs ih =>
        intro os E hE q
        cases q with
        | cons q1 q2 => exact .cons (up (fun p hp => by simpa using hE p (List.mem_append_left _ hp)) q1) (ih (fun p hp => hE p (List.mem_append_right _ hp)) q2)
    exact all (fun p h => h) t
  | _, _, _, i + 1, o, .cons (F := F) (G := G) h t, e => by
    obtain ⟨v, F1, F2, F3, e1, e2, c, up⟩ := OwA.at_ (i := i) (o := o) t (by simpa using e)
    refine ⟨v, F ++ F1, F2, F3, by simpa using e1, by rw [e2]; simp, c, fun {A' H' v' o' G'} u q => ?_⟩
    show OwA K A' H' (_ :: _) (_ :: _) (F ++ F1 ++ G' ++ F3)
    have e3 : F ++ F1 ++ G' ++ F3 = F ++ (F1 ++ G' ++ F3) := by simp
    rw [e3]
    refine .cons (u (fun p hp => by simp [hp]) h) (up (fun {v o E} hE z => u (fun p hp => ?_) z) q)
    have := hE p hp
    simp only [List.mem_append] at this ⊢
    rcases this with z | z
    · exact .inl (.inr z)
    · exact .inr z
/-! ### the state of a def -/
/-- A: what no shared thing of ours may stand at (the callers' owned things); B: what is lent to us; H0: the heap at the entry -/
structure Fx where
  A : List Addr
  B : List Addr
  H0 : Hp
structure Ok (K : PySem.W.Frag) (Y : Fx) (vs : List (Option V)) (os : List O) (H : Hp) : Prop where
  ex : ∃ F, OwA K (Y.A ++ F) H vs os F ∧ F.Nodup ∧ ∀ p ∈ F, p ∈ Y.B ∨ Y.H0 p = none
  st : Stp Y.B Y.H0 H
  al : ∀ p ∈ Y.A, Mut (Y.H0 p)
  ba : ∀ p ∈ Y.B, p ∉ Y.A
variable {Y : Fx} {vs ws : List (Option V)} {os us : List O} {v : V} {d : D} {o : O}
theorem mut_ne {p : Addr} (h : Mut (H p)) : H p ≠ none := fun e => by rw [e] at h; exact h
theorem Ok.alH (k : Ok K Y vs os H) : ∀ p ∈ Y.A, Mut (H p) := fun p hp => by
  have m := k.al p hp
  cases e : Y.H0 p with
  | none => exact absurd e (mut_ne m)
  | some u =>
    rw [e] at m
    rw [k.st.k p u (fun z => k.ba p z hp) e]; exact m
theorem Ok.len (k : Ok K Y vs os H) : vs.length = os.length := by
  obtain ⟨F, h, _⟩ := k.ex
  exact h.len
/-- a value that is no object -/
def flat : D → Bool
  | .non => true
  | .bl _ => true
  | .int _ => true
  | .str _ => true
  | .ref _ => true
  | _ => false
def flatV : D → V
  | .bl b => .bl b
  | .int i => .int i
  | .str x => .str x
  | .ref a => .ref a
  | _ => .non
theorem Rp.flat (h : flat d = true) : Rp K A H (flatV d) d := by
  cases d <;> first | (cases h; done) | skip
  · exact .non
  · exact .bl _
  · exact .int _
  · exact .str _
  · exact .ref _
theorem Ok.push (k : Ok K Y vs os H) {F : List Addr} (h : ∀ A, Rp K A H v d) : Ok K Y (some v :: vs) (.sh d :: os) H := by
  obtain ⟨F, q, nd, b⟩ := k.ex
  exact ⟨⟨F, .cons (F := []) (.sh (h _)) q, nd, b⟩, k.st, k.al, k.ba⟩
theorem Ok.pop {x : Option V} (k : Ok K Y (x :: vs) (o :: os) H) : Ok K Y vs os H := by
  obtain ⟨F, q, nd, b⟩ := k.ex
  cases q with
  | @cons _ _ _ _ F1 F2 q1 q2 =>
    refine ⟨⟨F2, q2.avoid fun a ha n => absurd ?_ n, (List.nodup_append.mp nd).2.1, fun p hp => b p (List.mem_append_right _ hp)⟩, k.st, k.al, k.ba⟩
    rcases List.mem_append.mp ha with z | z
    · exact List.mem_append_left _ z
    · exact List.mem_append_right _ (List.mem_append_right _ z)
theorem Ok.popn : ∀ {xs : List (Option V)} {ys : List O}, xs.length = ys.length → Ok K Y (xs ++ vs) (ys ++ os) H → Ok K Y vs os H
  | [], [], _, k => k
  | [], _ :: _, l, _ => by cases l
  | _ :: _, [], l, _ => by cases l
  | _ :: _, _ :: _, l, k => Ok.popn (Nat.succ.inj l) k.pop
/-- the first shared value, as what it is -/
theorem Ok.top {x : Option V} (k : Ok K Y (x :: vs) (.sh d :: os) H) : ∃ v, x = some v ∧ ∃ F, Rp K (Y.A ++ F) H v d ∧ OwA K (Y.A ++ F) H vs os F ∧ F.Nodup ∧ ∀ p ∈ F, p ∈ Y.B ∨ Y.H0 p = none := by
  obtain ⟨F, q, nd, b⟩ := k.ex
  cases q with
  | @cons _ _ _ _ F1 F2 q1 q2 =>
    cases q1 with
    | sh r => exact ⟨_, rfl, F2, r, q2, nd, b⟩
end
end Hd
namespace Hd
/-! ### the value layer: moving cells about -/
section
open PySem PySem.Spec PyProof.Rows L2
variable {K : PySem.W.Frag} {A B : List Addr} {H H' : Hp} {Y : Fx} {vs ws : List (Option V)} {os us : List O} {v : V} {d : D} {o : O}
theorem mem3 {α : Type} {p : α} {a b c : List α} : p ∈ a ++ b ++ c ↔ p ∈ a ∨ p ∈ b ∨ p ∈ c := by simp [or_assoc]
/-- cells in another order -/
theorem Ok.of_perm {F G : List Addr} (k : Ok K Y vs os H) (q : OwA K (Y.A ++ F) H vs os F) (up : ∀ {A}, OwA K A H vs os F → OwA K A H ws us G) (pm : G.Perm F) (nd : F.Nodup) (b : ∀ p ∈ F, p ∈ Y.B ∨ Y.H0 p = none) : Ok K Y ws us H :=
  ⟨⟨G, (up q).avoid fun a ha n => absurd (by
      rcases List.mem_append.mp ha with z | z
      · exact List.mem_append_left _ z
      · exact List.mem_append_right _ (pm.mem_iff.mp z)) n, pm.nodup_iff.mpr nd, fun p hp => b p (pm.mem_iff.mp hp)⟩, k.st, k.al, k.ba⟩
theorem Ok.rot {xs : List (Option V)} {ys : List O} {x : Option V} (l : xs.length = ys.length) (k : Ok K Y (xs ++ x :: vs) (ys ++ o :: os) H) : Ok K Y (x :: (xs ++ vs)) (o :: (ys ++ os)) H := by
  obtain ⟨F, q, nd, b⟩ := k.ex
  obtain ⟨F1, F2, e, q1, q2⟩ := q.split l
  subst e
  cases q2 with
  | @cons _ _ _ _ G1 G2 c t =>
    refine ⟨⟨G1 ++ (F1 ++ G2), (OwA.cons c (q1.app t)).avoid fun a ha n => absurd ?_ n, ?_, fun p hp => b p ?_⟩, k.st, k.al, k.ba⟩
    · simp only [List.mem_append] at ha ⊢
      rcases ha with z | z | z | z
      · exact .inl z
      · exact .inr (.inr (.inl z))
      · exact .inr (.inl z)
      · exact .inr (.inr (.inr z))
    · have pm : (G1 ++ (F1 ++ G2)).Perm (F1 ++ (G1 ++ G2)) := by
        rw [← List.append_assoc, ← List.append_assoc]
        exact (List.perm_append_comm).append_right _
      exact pm.nodup_iff.mpr nd
    · simp only [List.mem_append] at hp ⊢
      rcases hp with z | z | z
      · exact .inr (.inl z)
      · exact .inl z
      · exact .inr (.inr z)
theorem Ok.unrot {xs : List (Option V)} {ys : List O} {x : Option V} (l : xs.length = ys.length) (k : Ok K Y (x :: (xs ++ vs)) (o :: (ys ++ os)) H) : Ok K Y (xs ++ x :: vs) (ys ++ o :: os) H := by
  obtain ⟨F, q, nd, b⟩ := k.ex
  cases q with
  | @cons _ _ _ _ G1 G2 c t =>
    obtain ⟨F1, F2, e, q1, q2⟩ := t.split l
    subst e
    refine ⟨⟨F1 ++ (G1 ++ F2), (q1.app (OwA.cons c q2)).avoid fun a ha n => absurd ?_ n, ?_, fun p hp => b p ?_⟩, k.st, k.al, k.ba⟩
    · simp only [List.mem_append] at ha ⊢
      rcases ha with z | z | z | z
      · exact .inl z
      · exact .inr (.inr (.inl z))
      · exact .inr (.inl z)
      · exact .inr (.inr (.inr z))
    · have pm : (F1 ++ (G1 ++ F2)).Perm (G1 ++ (F1 ++ F2)) := by
        rw [← List.append_assoc, ← List.append_assoc]
        exact (List.perm_append_comm).append_right _
      exact pm.nodup_iff.mpr nd
    · simp only [List.mem_append] at hp ⊢
      rcases hp with z | z | z
      · exact .inr (.inl z)
      · exact .inl z
      · exact .inr (.inr z)
/-- where an owned cell stands -/
def O.root : O → Option Addr
  | .src p => some p
  | .ol p _ => some p
  | .od p _ _ => some p
  | .oo p _ _ => some p
  | .dd p _ _ => some p
  | .ll p _ => some p
  | .ho p _ => some p
  | _ => none
theorem OwC.root {x : Option V} {F : List Addr} {p : Addr} (c : OwC K A H x o F) (h : o.root = some p) : x = some (.ref p) ∧ p ∈ F := by
  cases c <;> first | (cases h; done) | (injection h with h; subst h; exact ⟨rfl, by simp⟩)
/-- an entry changes hands: out of place i into hand, q left in its place -/
theorem Ok.take {i : Nat} {q : O} (k : Ok K Y vs os H) (h : os[i]? = some o) (hq : ∀ A x F, OwC K A H x o F → OwC K A H x q []) : ∃ x, vs[i]? = some x ∧ Ok K Y (x :: vs) (o :: os.set i q) H := by
  obtain ⟨F, w, nd, b⟩ := k.ex
  obtain ⟨x, F1, F2, F3, e1, e2, c, up⟩ := w.at_ h
  subst e2
  refine ⟨x, e1, ⟨⟨F2 ++ (F1 ++ F3), ?_, ?_, fun p hp => b p ?_⟩, k.st, k.al, k.ba⟩⟩
  · have e3 : vs.set i x = vs := set_self e1
    have t := up (A' := Y.A ++ (F1 ++ F2 ++ F3)) (H' := H) (fun _ z => z) (hq _ _ _ c)
    rw [e3, List.append_nil] at t
    refine (OwA.cons c t).avoid fun a ha n => absurd ?_ n
    simp only [List.mem_append] at ha ⊢
    rcases ha with z | z | z | z
    · exact .inl z
    · exact .inr (.inl (.inr z))
    · exact .inr (.inl (.inl z))
    · exact .inr (.inr z)
  · have pm : (F2 ++ (F1 ++ F3)).Perm (F1 ++ F2 ++ F3) := by
      rw [← List.append_assoc]
      exact (List.perm_append_comm).append_right _
    exact pm.nodup_iff.mpr nd
  · simp only [List.mem_append] at hp ⊢
    rcases hp with z | z | z
    · exact .inl (.inr z)
    · exact .inl (.inl z)
    · exact .inr z
/-- .. and back -/
theorem Ok.put {i : Nat} {q : O} {x : Option V} (k : Ok K Y (x :: vs) (o :: os) H) (h : os[i]? = some q) (hv : ∀ A F, OwC K A H x o F → ∀ z G, OwC K A H z q G → z = x) : Ok K Y vs (os.set i o) H := by
  obtain ⟨F, w, nd, b⟩ := k.ex
  cases w with
  | @cons _ _ _ _ G1 G2 c t =>
    obtain ⟨z, F1, F2, F3, e1, e2, c2, up⟩ := t.at_ h
    subst e2
    have e := hv _ _ c _ _ c2
    subst e
    refine ⟨⟨F1 ++ G1 ++ F3, ?_, ?_, fun p hp => b p ?_⟩, k.st, k.al, k.ba⟩
    · have e3 : vs.set i z = vs := set_self e1
      have t2 := up (A' := Y.A ++ (G1 ++ (F1 ++ F2 ++ F3))) (H' := H) (fun _ z => z) c
      rw [e3] at t2
      refine t2.avoid fun a ha n => absurd ?_ n
      simp only [List.mem_append] at ha ⊢
      rcases ha with z | (z | z) | z
      · exact .inl z
      · exact .inr (.inr (.inl (.inl z)))
      · exact .inr (.inl z)
      · exact .inr (.inr (.inr z))
    · have pm : (G1 ++ (F1 ++ F3)).Perm (F1 ++ G1 ++ F3) := by
        rw [← List.append_assoc]
        exact (List.perm_append_comm).append_right _
      refine pm.nodup_iff.mp (nd.sublist ?_)
      refine (List.Sublist.refl G1).append ?_
      rw [List.append_assoc]
      exact (List.Sublist.refl F1).append (List.sublist_append_right _ _)
    · simp only [List.mem_append] at hp ⊢
      rcases hp with (z | z) | z
      · exact .inr (.inl (.inl z))
      · exact .inl z
      · exact .inr (.inr z)
theorem Ok.back {i : Nat} {p : Addr} {x : Option V} (k : Ok K Y (x :: vs) (o :: os) H) (h : os[i]? = some (.lent p)) (r : o.root = some p) : Ok K Y vs (os.set i o) H :=
  k.put h fun A F c z G l => by
    cases l
    exact ((c.root r).1).symm
theorem Ok.lend {i : Nat} {p : Addr} (k : Ok K Y vs os H) (h : os[i]? = some o) (r : o.root = some p) : vs[i]? = some (some (.ref p)) ∧ Ok K Y (some (.ref p) :: vs) (o :: os.set i (.lent p)) H := by
  obtain ⟨x, e, q⟩ := k.take (q := .lent p) h fun A x F c => by
    obtain ⟨rfl, _⟩ := c.root r
    exact .lent p
  obtain ⟨F, w, _⟩ := q.ex
  cases w with
  | cons c t =>
    obtain ⟨rfl, _⟩ := c.root r
    exact ⟨e, q⟩
/-- a shared value is read -/
theorem Ok.read {i : Nat} (k : Ok K Y vs os H) (h : os[i]? = some (.sh d)) : ∃ v, vs[i]? = some (some v) ∧ Ok K Y (some v :: vs) (.sh d :: os) H := by
  obtain ⟨x, e, q⟩ := k.take (q := .sh d) h fun A x F c => by
    cases c with
    | sh r => exact .sh r
  rw [set_self h] at q
  obtain ⟨F, w, _⟩ := q.ex
  cases w with
  | cons c t =>
    cases c with
    | sh r => exact ⟨_, e, q⟩
mutual
/-- what a cell is, as data -/
def O.toD : O → Option D
  | .sh d => some d
  | .ol _ ds => some (.lst ds)
  | .od _ t kvs => some (.dic t kvs)
  | .oo p c fs => (toDF fs).map (D.obj p c)
  | .dd _ t kvs => (toDK kvs).map (D.dic t)
  | .ll _ os => (toDL os).map D.lst
  | .un => none
  | .lent _ => none
  | .src _ => none
  | .ho _ _ => none
def toDL : List O → Option (List D)
  | [] => some []
  | o :: os => match o.toD, toDL os with
    | some d, some ds => some (d :: ds)
    | _, _ => none
def toDF : List (Str × O) → Option (List (Str × D))
  | [] => some []
  | (f, o) :: os => match o.toD, toDF os with
    | some d, some ds => some ((f, d) :: ds)
    | _, _ => none
def toDK : List (D × O) → Option (List (D × D))
  | [] => some []
  | (f, o) :: os => match o.toD, toDK os with
    | some d, some ds => some ((f, d) :: ds)
    | _, _ => none
end
theorem toDF_L : ∀ {fs : List (Str × O)} {ds : List (Str × D)}, toDF fs = some ds → toDL (fs.map (·.2)) = some (ds.map (·.2)) ∧ ds.map (·.1) = fs.map (·.1)
  | [], ds, h => by
    have h : some [] = some ds := h
    injection h with h; subst h; exact ⟨rfl, rfl⟩
  | (f, o) :: fs, ds, h => by
    unfold toDF at h
    cases e1 : o.toD with
    | none => rw [e1] at h; cases h
    | some d =>
      cases e2 : toDF fs with
      | none => rw [e1, e2] at h; cases h
      | some r =>
        rw [e1, e2] at h
        injection h with h
        subst h
        obtain ⟨h1, h2⟩ := toDF_L e2
        refine ⟨?_, by simp [h2]⟩
        show toDL (o :: fs.map (·.2)) = _
        unfold toDL
        rw [e1, h1]; rfl
theorem toDK_L : ∀ {fs : List (D × O)} {ds : List (D × D)}, toDK fs = some ds → toDL (fs.map (·.2)) = some (ds.map (·.2)) ∧ ds.map (·.1) = fs.map (·.1)
  | [], ds, h => by
    have h : some [] = some ds := h
    injection h with h; subst h; exact ⟨rfl, rfl⟩
  | (f, o) :: fs, ds, h => by
    unfold toDK at h
    cases e1 : o.toD with
    | none => rw [e1] at h; cases h
    | some d =>
      cases e2 : toDK fs with
      | none => rw [e1, e2] at h; cases h
      | some r =>
        rw [e1, e2] at h
        injection h with h
        subst h
        obtain ⟨h1, h2⟩ := toDK_L e2
        refine ⟨?_, by simp [h2]⟩
        show toDL (o :: fs.map (·.2)) = _
        unfold toDL
        rw [e1, h1]; rfl
theorem some_map {α : Type} {f : α → V} {vs : List V} {l : List α} (h : l.map (fun x => some (f x)) = vs.map some) : vs = l.map f := by
  have := congrArg (List.map fun x : Option V => x.getD .non) h
  simpa [Function.comp_def] using this.symm
mutual
/-- an owned cell, shared from now on -/
theorem OwC.toRp (sub : ∀ a ∈ B, a ∈ A) : ∀ {x : Option V} {o : O} {F : List Addr} {d : D}, OwC K A H x o F → o.toD = some d → (∀ p ∈ F, p ∉ B) → ∃ v, x = some v ∧ Rp K B H v d
  | _, _, _, _, .un v, h, _ => by simp [O.toD] at h
  | _, _, _, _, .sh r, h, _ => by
    simp only [O.toD, Option.some.injEq] at h; subst h
    exact ⟨_, rfl, r.sub sub⟩
  | _, _, _, _, .lent p, h, _ => by simp [O.toD] at h
  | _, _, _, _, .src q, h, _ => by simp [O.toD] at h
  | _, _, _, _, .ho q _, h, _ => by simp [O.toD] at h
  | _, _, _, _, .ol q z r, h, n => by
    simp only [O.toD, Option.some.injEq] at h; subst h
    exact ⟨_, rfl, .lst (.of q (n _ (by simp))) z (r.sub sub)⟩
  | _, _, _, _, .od q z r e, h, n => by
    simp only [O.toD, Option.some.injEq] at h; subst h
    exact ⟨_, rfl, .dic (.inl q) z (n _ (by simp)) (r.sub sub) e⟩
  | _, _, _, _, .odT q z r e, h, n => by
    simp only [O.toD, Option.some.injEq] at h; subst h
    exact ⟨_, rfl, .dicT (.inl q) z (n _ (by simp)) (r.sub sub) e⟩
  | _, _, _, _, .oo q t e, h, n => by
    simp only [O.toD, Option.map_eq_some_iff] at h
    obtain ⟨ds, h0, rfl⟩ := h
    obtain ⟨h1, h2⟩ := toDF_L h0
    obtain ⟨vs, ev, r⟩ := OwA.toRpA sub t h1 fun p hp => n p (List.mem_cons_of_mem _ hp)
    rw [some_map ev] at r
    exact ⟨_, rfl, .obj q (n _ (by simp)) r (h2.trans e)⟩
  | _, _, _, _, .dd q z t e, h, n => by
    simp only [O.toD, Option.map_eq_some_iff] at h
    obtain ⟨ds, h0, rfl⟩ := h
    obtain ⟨h1, h2⟩ := toDK_L h0
    obtain ⟨vs, ev, r⟩ := OwA.toRpA sub t h1 fun p hp => n p (List.mem_cons_of_mem _ hp)
    rw [some_map ev] at r
    exact ⟨_, rfl, .dic (.inl q) z (n _ (by simp)) r (h2.trans e)⟩
  | _, _, _, _, .ddT q z t e, h, n => by
    simp only [O.toD, Option.map_eq_some_iff] at h
    obtain ⟨ds, h0, rfl⟩ := h
    obtain ⟨h1, h2⟩ := toDK_L h0
    obtain ⟨vs, ev, r⟩ := OwA.toRpA sub t h1 fun p hp => n p (List.mem_cons_of_mem _ hp)
    rw [some_map ev] at r
    exact ⟨_, rfl, .dicT (.inl q) z (n _ (by simp)) r (h2.trans e)⟩
  | _, _, _, _, .ll q z t, h, n => by
    simp only [O.toD, Option.map_eq_some_iff] at h
    obtain ⟨ds, h0, rfl⟩ := h
    obtain ⟨vs, ev, r⟩ := OwA.toRpA sub t h0 fun p hp => n p (List.mem_cons_of_mem _ hp)
    have e3 := some_map (f := fun x : V => x) ev
    rw [List.map_id'] at e3
    rw [e3] at r
    exact ⟨_, rfl, .lst (.of q (n _ (by simp))) z r⟩
theorem OwA.toRpA (sub : ∀ a ∈ B, a ∈ A) : ∀ {xs : List (Option V)} {os : List O} {F : List Addr} {ds : List D}, OwA K A H xs os F → toDL os = some ds → (∀ p ∈ F, p ∉ B) → ∃ vs : List V, xs = vs.map some ∧ RpA K B H vs ds
  | _, _, _, _, .nil, h, _ => by
    simp only [toDL, Option.some.injEq] at h; subst h
    exact ⟨[], rfl, .nil⟩
  | _, _, _, _, .cons (o := o) (os := os) c t, h, n => by
    unfold toDL at h
    cases e1 : o.toD with
    | none => rw [e1] at h; cases h
    | some d =>
      cases e2 : toDL os with
      | none => rw [e1, e2] at h; cases h
      | some r =>
        rw [e1, e2] at h
        injection h with h; subst h
        obtain ⟨v, ev, q⟩ := OwC.toRp sub c e1 fun p hp => n p (List.mem_append_left _ hp)
        obtain ⟨vs, evs, qs⟩ := OwA.toRpA sub t e2 fun p hp => n p (List.mem_append_right _ hp)
        exact ⟨v :: vs, by rw [ev, evs]; rfl, .cons q qs⟩
end
/-- what is owned in hand is shared from now on -/
theorem Ok.freeze {x : Option V} {d : D} (k : Ok K Y (x :: vs) (o :: os) H) (hf : o.toD = some d) : Ok K Y (x :: vs) (.sh d :: os) H := by
  obtain ⟨F, w, nd, b⟩ := k.ex
  cases w with
  | @cons _ _ _ _ F1 F2 c t =>
    have nd2 := List.nodup_append.mp nd
    have sub : ∀ a ∈ Y.A ++ F2, a ∈ Y.A ++ (F1 ++ F2) := fun a ha => by
      simp only [List.mem_append] at ha ⊢
      rcases ha with z | z
      · exact .inl z
      · exact .inr (.inr z)
    have t2 : OwA K (Y.A ++ F2) H vs os F2 := t.avoid fun a ha n => absurd (sub a ha) n
    obtain ⟨v, rfl, r⟩ := c.toRp sub hf fun p hp z => by
      rcases List.mem_append.mp z with z | z
      · rcases b p (List.mem_append_left _ hp) with q | q
        · exact k.ba p q z
        · exact mut_ne (k.al p z) q
      · exact nd2.2.2 p hp p z rfl
    exact ⟨⟨F2, OwA.cons (F := []) (.sh r) t2, nd2.2.1, fun p hp => b p (List.mem_append_right _ hp)⟩, k.st, k.al, k.ba⟩
/-- a new object is laid; what it holds was in hand -/
theorem Ok.nw {p : Addr} {u : HO} (k : Ok K Y vs os H) (n : Nw H H' p u) : Ok K Y vs os H' := by
  obtain ⟨F, w, nd, b⟩ := k.ex
  refine ⟨⟨F, w.mono (n.s []) (by simp) (by simp), nd, b⟩, k.st.trans (n.s _), k.al, k.ba⟩
theorem Ok.fr {p : Addr} (k : Ok K Y vs os H) (h : H p = none) : Y.H0 p = none ∧ p ∉ Y.A := by
  have e := k.st.f p h
  exact ⟨e, fun z => mut_ne (k.al p z) e⟩
theorem OwA.all_sh : ∀ {xs : List V} {ds : List D} {F : List Addr}, OwA K A H (xs.map some) (ds.map O.sh) F → F = [] ∧ RpA K A H xs ds
  | [], [], _, h => by cases h; exact ⟨rfl, .nil⟩
  | [], _ :: _, _, h => by cases h
  | _ :: _, [], _, h => by cases h
  | x :: xs, d :: ds, _, h => by
    cases h with
    | cons c t =>
      cases c with
      | sh r =>
        obtain ⟨e, q⟩ := OwA.all_sh t
        exact ⟨by rw [e]; rfl, .cons r q⟩
/-- a new tuple of shared values -/
theorem Ok.tup {p : Addr} {xs : List V} {ds : List D} (k : Ok K Y (xs.map some ++ vs) (ds.map O.sh ++ os) H) (l : xs.length = ds.length) (z : xs.length ≤ sizeLine) (n : Nw H H' p (.tup xs)) : Ok K Y (some (.ref p) :: vs) (.sh (.tup ds) :: os) H' := by
  have k2 := k.nw n
  obtain ⟨F, w, nd, b⟩ := k2.ex
  obtain ⟨F1, F2, e, w1, w2⟩ := w.split (by simpa using l)
  obtain ⟨rfl, r⟩ := w1.all_sh
  subst e
  exact ⟨⟨F, OwA.cons (F := []) (.sh (.tup (.inl n.a) z r)) w2, nd, b⟩, k2.st, k2.al, k2.ba⟩
/-- a new list, owned -/
theorem Ok.own {p : Addr} {u : HO} {F0 : List Addr} (k : Ok K Y vs os H) (n : Nw H H' p u) (hc : ∀ A, (∀ F, OwA K (Y.A ++ F) H vs os F → (∀ a, a ∈ A → a ∉ Y.A ++ F → H a = none) → OwC K A H' (some (.ref p)) o [p])) : Ok K Y (some (.ref p) :: vs) (o :: os) H' := by
  have k2 := k.nw n
  obtain ⟨F, w0, nd, b⟩ := k.ex
  have w := w0.mono (n.s []) (by simp) (by simp)
  have np : p ∉ F := fun z => w0.has p z n.n
  have nx : ∀ a, a ∈ Y.A ++ ([p] ++ F) → a ∉ Y.A ++ F → H a = none := fun a ha q => by
    simp only [List.mem_append] at ha q
    rcases ha with z | z | z
    · exact absurd (.inl z) q
    · have e : a = p := by simpa using z
      rw [e]; exact n.n
    · exact absurd (.inr z) q
  have w2 : OwA K (Y.A ++ ([p] ++ F)) H' vs os F := (w0.avoid nx).mono (n.s []) (by simp) (by simp)
  refine ⟨⟨[p] ++ F, OwA.cons (hc _ F w0 nx) w2, ?_, fun a ha => ?_⟩, k2.st, k2.al, k2.ba⟩
  · exact List.nodup_cons.mpr ⟨np, nd⟩
  · rcases List.mem_append.mp ha with z | z
    · have e : a = p := by simpa using z
      rw [e]; exact .inr (k.fr n.n).1
    · exact b a z
theorem Ok.lst {p : Addr} {xs : List V} {ds : List D} (k : Ok K Y (xs.map some ++ vs) (ds.map O.sh ++ os) H) (l : xs.length = ds.length) (z : xs.length ≤ sizeLine) (n : Nw H H' p (.lst xs)) : Ok K Y (some (.ref p) :: vs) (.ol p ds :: os) H' := by
  have k3 : Ok K Y (some (.ref p) :: (xs.map some ++ vs)) (.ol p ds :: (ds.map O.sh ++ os)) H' := k.own (F0 := []) n fun A F w nx => by
    obtain ⟨F1, F2, e, w1, w2⟩ := w.split (by simpa using l)
    obtain ⟨rfl, r⟩ := w1.all_sh
    exact .ol n.a z ((r.avoid nx).mono (n.s _))
  have k4 := Ok.unrot (xs := xs.map some) (ys := ds.map O.sh) (by simpa using l) k3
  exact Ok.popn (by simpa using l) k4
end
end Hd
namespace Hd
/-! ### the value layer: readings by data -/
section
open PySem PySem.Spec PyProof.Rows L2
abbrev DE := List O
/-- what is raised: the class, its field, the field's data; the cells -/
abbrev XD := Str → Str → D → DE → Prop
abbrev VT := DE → (O → DE → Prop) → XD → Prop
abbrev VTT := DE → (Bool → DE → Prop) → XD → Prop
abbrev VTO := DE → (List O → DE → Prop) → XD → Prop
abbrev VTA := DE → (List D → DE → Prop) → XD → Prop
structure VX where
  nx : DE → Prop
  rt : O → DE → Prop
  bk : DE → Prop
  ct : DE → Prop
  xx : XD
abbrev VTS := DE → VX → Prop
/-- in hand, seen as data (what is owned is shared from then on) -/
def O.fz (o : O) (k : D → Prop) : Prop := match o.toD with
  | some d => k d
  | none => False
variable {K : PySem.W.Frag} {W : WX} {H H' : Hp} {Y : Fx} {vs tv : List (Option V)} {os to env : List O} {v : V} {d : D} {o : O} {σ : L2.St} {X : Cx}
theorem Ok.fz {x : Option V} {k : D → Prop} (h : o.fz k) (q : Ok K Y (x :: vs) (o :: os) H) : ∃ d, k d ∧ Ok K Y (x :: vs) (.sh d :: os) H := by
  unfold O.fz at h
  cases e : o.toD with
  | none => rw [e] at h; exact h.elim
  | some d =>
    rw [e] at h
    exact ⟨d, h, q.freeze e⟩
theorem Ok.drop1 {x y : Option V} {o' : O} (k : Ok K Y (x :: y :: vs) (o :: o' :: os) H) : Ok K Y (x :: vs) (o :: os) H := (Ok.rot (xs := [x]) (ys := [o]) rfl k).pop
def xOk (K : PySem.W.Frag) (W : WX) (Y : Fx) (tv : List (Option V)) (to : List O) (σ : L2.St) (xd : XD) : Prop :=
  ∀ c f d env v a H', xd c f d env → Ok K Y (some v :: (tv ++ σ)) (.sh d :: (to ++ env)) H' → H' a = some (.xd [(f, v)]) → W (.ref (He.ga K c)) (some a) σ H'
theorem xOk.push {xd : XD} {x : Option V} (h : xOk K W Y tv to σ xd) : xOk K W Y (x :: tv) (o :: to) σ xd := fun c f d env v a H' q k e => h c f d env v a H' q k.drop1 e
theorem xOk.pushn {xd : XD} : ∀ {xs : List (Option V)} {ys : List O}, xs.length = ys.length → xOk K W Y tv to σ xd → xOk K W Y (xs ++ tv) (ys ++ to) σ xd
  | [], [], _, h => h
  | [], _ :: _, l, _ => by cases l
  | _ :: _, [], l, _ => by cases l
  | _ :: _, _ :: _, l, h => (xOk.pushn (Nat.succ.inj l) h).push
def lE (K : PySem.W.Frag) (W : WX) (t : VT) : TE := fun σ H Q => ∃ Y tv to env Qd xd, tv.length = to.length ∧ Ok K Y (tv ++ σ) (to ++ env) H ∧ t env Qd xd ∧
  (∀ o env v H', Qd o env → Ok K Y (some v :: (tv ++ σ)) (o :: (to ++ env)) H' → Q v H') ∧ xOk K W Y tv to σ xd
def lT (K : PySem.W.Frag) (W : WX) (t : VTT) : TT := fun σ H Q => ∃ Y tv to env Qd xd, tv.length = to.length ∧ Ok K Y (tv ++ σ) (to ++ env) H ∧ t env Qd xd ∧
  (∀ b env H', Qd b env → Ok K Y (tv ++ σ) (to ++ env) H' → Q b H') ∧ xOk K W Y tv to σ xd
def lA (K : PySem.W.Frag) (W : WX) (n : Nat) (t : VTA) : TA := fun σ H Q => ∃ Y tv to env Qd xd, tv.length = to.length ∧ Ok K Y (tv ++ σ) (to ++ env) H ∧ t env Qd xd ∧
  (∀ ds env vs H', Qd ds env → vs.length = n → ds.length = n → Ok K Y (vs.map some ++ (tv ++ σ)) (ds.map O.sh ++ (to ++ env)) H' → Q vs H') ∧ xOk K W Y tv to σ xd
def lO (K : PySem.W.Frag) (W : WX) (n : Nat) (t : VTO) : TA := fun σ H Q => ∃ Y tv to env Qd xd, tv.length = to.length ∧ Ok K Y (tv ++ σ) (to ++ env) H ∧ t env Qd xd ∧
  (∀ os env vs H', Qd os env → vs.length = n → os.length = n → Ok K Y (vs.map some ++ (tv ++ σ)) (os ++ (to ++ env)) H' → Q vs H') ∧ xOk K W Y tv to σ xd
def VE (X : Cx) (W : WX) (e : Expr) (t : VT) : Prop := PE X e (lE X.K W t)
def VB (X : Cx) (W : WX) (e : Expr) (t : VTT) : Prop := PT X e (lT X.K W t)
def VW (X : Cx) (W : WX) (e : Expr) (t : VTT) : Prop := PW X e (lT X.K W t)
def VA (X : Cx) (W : WX) (es : List Expr) (n : Nat) (t : VTA) : Prop := PA X es (lA X.K W n t)
def VO (X : Cx) (W : WX) (es : List Expr) (n : Nat) (t : VTO) : Prop := PA X es (lO X.K W n t)
theorem PE.imp {e : Expr} {r r' : TE} (h : PE X e r) (i : ∀ σ H Q, r' σ H Q → r σ H Q) : PE X e r' := ⟨fun pins s σ H Q I q => h.run pins s σ H Q I (i σ H Q q)⟩
theorem PT.imp {e : Expr} {r r' : TT} (h : PT X e r) (i : ∀ σ H Q, r' σ H Q → r σ H Q) : PT X e r' := ⟨fun pins s σ H Q I q => h.run pins s σ H Q I (i σ H Q q)⟩
theorem PW.imp {e : Expr} {r r' : TT} (h : PW X e r) (i : ∀ σ H Q, r' σ H Q → r σ H Q) : PW X e r' := ⟨fun w pins s σ H Q I q => h.run w pins s σ H Q I (i σ H Q q)⟩
theorem PA.imp {es : List Expr} {r r' : TA} (h : PA X es r) (i : ∀ σ H Q, r' σ H Q → r σ H Q) : PA X es r' := ⟨fun pos pins s σ H Q I q => h.run pos pins s σ H Q I (i σ H Q q)⟩
theorem PS.imp {st : Stmt} {r r' : TS} (h : PS X st r) (i : ∀ D σ H, r' D σ H → r D σ H) : PS X st r' := ⟨fun pins s σ H D I q => h.run pins s σ H D I (i D σ H q)⟩
theorem PSs.imp {st : List Stmt} {r r' : TS} (h : PSs X st r) (i : ∀ D σ H, r' D σ H → r D σ H) : PSs X st r' := ⟨fun pins s σ H D I q => h.run pins s σ H D I (i D σ H q)⟩
theorem ix_app {α : Type} {a b : List α} {i : Nat} : (a ++ b)[a.length + i]? = b[i]? := by rw [List.getElem?_append_right (Nat.le_add_right _ _), Nat.add_sub_cancel_left]
theorem set_app {α : Type} {a b : List α} {i : Nat} {x : α} : (a ++ b).set (a.length + i) x = a ++ b.set i x := by rw [List.set_append_right _ _ (Nat.le_add_right _ _), Nat.add_sub_cancel_left]
/-! ### names and constants -/
def vVar (i : Nat) : VT := fun env Q _ => match env[i]? with
  | some (.sh d) => Q (.sh d) env
  | some o => o.fz fun d => Q (.sh d) (env.set i (.sh d))
  | none => False
def vMove (i : Nat) : VT := fun env Q _ => match env[i]? with
  | some (.un) => False
  | some o => Q o (env.set i .un)
  | none => False
def vLend (i : Nat) : VT := fun env Q _ => match env[i]? with
  | some o => (match o.root with
    | some p => Q o (env.set i (.lent p))
    | none => False)
  | none => False
theorem OwC.some_ {x : Option V} {A F : List Addr} (c : OwC K A H x o F) (h : o ≠ .un) : ∃ v, x = some v := by
  cases c <;> first | exact ⟨_, rfl⟩ | exact absurd rfl h
theorem ve_vmove {i : Nat} {e : Expr} (h : PE X e (tVar i)) : VE X W e (vMove i) := by
  refine PE.imp h fun σ H Q ⟨Y, tv, to, env, Qd, xd, l, k, t, hq, hx⟩ => ?_
  unfold vMove at t
  cases e1 : env[i]? with
  | none => rw [e1] at t; exact t.elim
  | some o =>
    have t2 : o ≠ .un ∧ Qd o (env.set i .un) := by
      rw [e1] at t
      cases o <;> first | exact t.elim | exact ⟨by simp, t⟩
    obtain ⟨x, e2, k2⟩ := k.take (i := to.length + i) (q := .un) (ix_app.trans e1) fun A x F c => .un x
    rw [set_app] at k2
    rw [← l, ix_app] at e2
    obtain ⟨F, w, _⟩ := k2.ex
    cases w with
    | cons c _ =>
      obtain ⟨v, rfl⟩ := c.some_ t2.1
      exact ⟨v, e2, hq _ _ _ _ t2.2 k2⟩
theorem ve_vlend {i : Nat} {e : Expr} (h : PE X e (tVar i)) : VE X W e (vLend i) := by
  refine PE.imp h fun σ H Q ⟨Y, tv, to, env, Qd, xd, l, k, t, hq, hx⟩ => ?_
  unfold vLend at t
  cases e1 : env[i]? with
  | none => rw [e1] at t; exact t.elim
  | some o =>
    rw [e1] at t
    cases e3 : o.root with
    | none => rw [show (match some o with | some o => (match o.root with | some p => Qd o (env.set i (.lent p)) | none => False) | none => False) = False by simp [e3]] at t; exact t.elim
    | some p =>
      have t2 : Qd o (env.set i (.lent p)) := by simpa [e3] using t
      obtain ⟨e2, k2⟩ := k.lend (i := to.length + i) (ix_app.trans e1) e3
      rw [set_app] at k2
      rw [← l, ix_app] at e2
      exact ⟨_, e2, hq _ _ _ _ t2 k2⟩
theorem ve_vread {i : Nat} {e : Expr} (h : PE X e (tVar i)) : VE X W e (vVar i) := by
  refine PE.imp h fun σ H Q ⟨Y, tv, to, env, Qd, xd, l, k, t, hq, hx⟩ => ?_
  unfold vVar at t
  have own : ∀ {o : O}, env[i]? = some o → (o.fz fun d => Qd (.sh d) (env.set i (.sh d))) → tVar i σ H Q := fun {o} e1 t => by
    obtain ⟨x, e2, k2⟩ := k.take (i := to.length + i) (q := .un) (ix_app.trans e1) fun A x F c => .un x
    obtain ⟨d, t, k3⟩ := k2.fz t
    have lt : to.length + i < (to ++ env).length := (List.getElem?_eq_some_iff.mp (ix_app.trans e1)).1
    have k4 : Ok X.K Y (tv ++ σ) (((to ++ env).set (to.length + i) .un).set (to.length + i) (.sh d)) H := by
      obtain ⟨F, w, nd, b⟩ := k3.ex
      cases w with
      | @cons _ _ _ _ G1 G2 c w2 =>
        cases c with
        | sh r =>
          obtain ⟨z, F1, F2, F3, f1, f2, c2, up⟩ := w2.at_ (i := to.length + i) (o := .un) (by rw [List.getElem?_set_self lt])
          cases c2
          rw [e2] at f1
          injection f1 with f1
          have w3 := up (A' := Y.A ++ ([] ++ G2)) (H' := H) (fun _ z => z) (.sh r)
          rw [set_self e2] at w3
          refine ⟨⟨G2, ?_, nd, b⟩, k3.st, k3.al, k3.ba⟩
          rw [f2] at w3 ⊢
          exact w3
    rw [List.set_set, set_app] at k4
    obtain ⟨v, e5, k5⟩ := k4.read (i := to.length + i) (d := d) (by rw [ix_app]; simp [(List.getElem?_eq_some_iff.mp e1).1])
    rw [← l, ix_app] at e5
    exact ⟨v, e5, hq _ _ _ _ t k5⟩
  cases e1 : env[i]? with
  | none => rw [e1] at t; exact t.elim
  | some o =>
    rw [e1] at t
    cases o with
    | sh d =>
      obtain ⟨v, e2, k2⟩ := k.read (i := to.length + i) (ix_app.trans e1)
      rw [← l, ix_app] at e2
      exact ⟨v, e2, hq _ _ _ _ t k2⟩
    | _ => exact own e1 t
theorem ve_var (i : Nat) {x : Str} {pos : Pos} (hN : X.N[i]? = some x := by rfl) (hv : Vis X.env.scope x := by first | exact Or.inl rfl | exact Or.inr (Or.inl rfl) | exact Or.inr (Or.inr rfl)) (hd : (x == ("__debug__" : Str)) = false := by decide) (hcd : (x == ("__classdict__" : Str)) = false := by decide) :
    VE X W (.Name x pos) (vVar i) := ve_vread (pe_var hN hv hd hcd)
theorem ve_mv (i : Nat) {x : Str} {pos : Pos} (hN : X.N[i]? = some x := by rfl) (hv : Vis X.env.scope x := by first | exact Or.inl rfl | exact Or.inr (Or.inl rfl) | exact Or.inr (Or.inr rfl)) (hd : (x == ("__debug__" : Str)) = false := by decide) (hcd : (x == ("__classdict__" : Str)) = false := by decide) :
    VE X W (.Name x pos) (vMove i) := ve_vmove (pe_var hN hv hd hcd)
theorem ve_ld (i : Nat) {x : Str} {pos : Pos} (hN : X.N[i]? = some x := by rfl) (hv : Vis X.env.scope x := by first | exact Or.inl rfl | exact Or.inr (Or.inl rfl) | exact Or.inr (Or.inr rfl)) (hd : (x == ("__debug__" : Str)) = false := by decide) (hcd : (x == ("__classdict__" : Str)) = false := by decide) :
    VE X W (.Name x pos) (vLend i) := ve_vlend (pe_var hN hv hd hcd)
def vC (d : D) : VT := fun env Q _ => Q (.sh d) env
theorem ve_c {e : Expr} (h : PE X e (tC v)) (r : ∀ A H, Rp X.K A H v d) : VE X W e (vC d) :=
  PE.imp h fun σ H Q ⟨Y, tv, to, env, Qd, xd, l, k, t, hq, hx⟩ => hq _ _ _ _ t (k.push (F := []) (r · H))
theorem ve_int {i j pos} : VE X W (.Constant (.int i) j pos) (vC (.int i)) := ve_c pe_int fun _ _ => .int i
theorem ve_bl {i j pos} : VE X W (.Constant (.bool i) j pos) (vC (.bl i)) := ve_c pe_bl fun _ _ => .bl i
theorem ve_non {j pos} : VE X W (.Constant .none j pos) (vC .non) := ve_c pe_non fun _ _ => .non
theorem ve_str {i j pos} : VE X W (.Constant (.str i) j pos) (vC (.str i)) := ve_c pe_str fun _ _ => .str i
theorem ve_gint {i : Int} {x : Str} {pos : Pos} (hg : Gl X x) (h : ∃ t, X.mg x = some (.int i t)) (hdb : (x == ("__debug__" : Str)) = false := by decide) : VE X W (.Name x pos) (vC (.int i)) := ve_c (pe_gint hg h hdb) fun _ _ => .int i
theorem ve_gstr {i : Str} {x : Str} {pos : Pos} (hg : Gl X x) (h : ∃ t, X.mg x = some (.str i t)) (hdb : (x == ("__debug__" : Str)) = false := by decide) : VE X W (.Name x pos) (vC (.str i)) := ve_c (pe_gstr hg h hdb) fun _ _ => .str i
/-! ### operators -/
abbrev G2 := D → D → (O → Prop) → Prop
def rV (K : PySem.W.Frag) (g : G2) : R2 := fun x y H Q => ∃ Y vs os d1 d2 Qd, Ok K Y (some y :: some x :: vs) (.sh d2 :: .sh d1 :: os) H ∧ g d1 d2 Qd ∧ ∀ o v H', Qd o → Ok K Y (some v :: vs) (o :: os) H' → Q v H'
def vOp (g : G2) (ta tb : VT) : VT := fun env Q x => ta env (fun o1 e1 => o1.fz fun d1 => tb e1 (fun o2 e2 => o2.fz fun d2 => g d1 d2 fun o => Q o e2) x) x
theorem op_lift {g : G2} {ta tb : VT} {σ : L2.St} {H : Hp} {Q : VK} (h : lE K W (vOp g ta tb) σ H Q) : tOp (rV K g) (lE K W ta) (lE K W tb) σ H Q := by
  obtain ⟨Y, tv, to, env, Qd, xd, l, k, t, hq, hx⟩ := h
  refine ⟨Y, tv, to, env, _, xd, l, k, t, fun o1 e1 v1 H1 h1 k1 => ?_, hx⟩
  obtain ⟨d1, t1, k1⟩ := k1.fz h1
  refine ⟨Y, some v1 :: tv, .sh d1 :: to, e1, _, xd, by simp [l], k1, t1, fun o2 e2 v2 H2 h2 k2 => ?_, hx.push⟩
  obtain ⟨d2, t2, k2⟩ := k2.fz h2
  exact ⟨Y, tv ++ σ, to ++ e2, d1, d2, _, k2, t2, fun o v H' q k3 => hq o e2 v H' q k3⟩
section
variable {a b c : Expr} {ta tb tc : VT} {pos : Pos} {g g' : G2}
theorem ve_op {op : Operator} (ho : OpR X (binaryOp op) (rV X.K g)) (ha : VE X W a ta) (hb : VE X W b tb) : VE X W (.BinOp a op b pos) (vOp g ta tb) := PE.imp (pe_op ho ha hb) fun _ _ _ h => op_lift h
theorem ve_cmp {op : CmpOp} (ho : OpR X (compareOp op) (rV X.K g)) (ha : VE X W a ta) (hb : VE X W b tb) (hm : behindInMarks op b = false) : VE X W (.Compare a [op] [b] pos) (vOp g ta tb) := PE.imp (pe_cmpR ho ha hb hm) fun _ _ _ h => op_lift h
theorem ve_ix (ho : IxR X (rV X.K g)) (ha : VE X W a ta) (hb : VE X W b tb) (hs : PlainIx b) : VE X W (.Subscript a b pos) (vOp g ta tb) := PE.imp (pe_ix ho ha hb hs) fun _ _ _ h => op_lift h
/-- a value, as a test -/
def vBl (t : VT) : VTT := fun env Q x => t env (fun o e => match o with
  | .sh (.bl b) => Q b e
  | _ => False) x
theorem bl_lift {t : VT} {σ : L2.St} {H : Hp} {Q : Bool → Hp → Prop} (h : lT K W (vBl t) σ H Q) : lE K W t σ H fun x H1 => ∃ c, x = .bl c ∧ Q c H1 := by
  obtain ⟨Y, tv, to, env, Qd, xd, l, k, t, hq, hx⟩ := h
  refine ⟨Y, tv, to, env, _, xd, l, k, t, fun o1 e1 v1 H1 h1 k1 => ?_, hx⟩
  cases o1 with
  | sh d =>
    cases d with
    | bl b =>
      obtain ⟨v, ev, F, r, _⟩ := k1.top
      injection ev with ev
      subst ev
      cases r
      exact ⟨b, rfl, hq _ _ _ h1 k1.pop⟩
    | _ => exact h1.elim
  | _ => exact h1.elim
theorem vb_val (ha : VE X W a ta) (he : ∀ whole, isTrue a X.env whole = (do let v ← whole; standAt a.pos; holding [v] (truthy v)) := by intro _; rfl) : VB X W a (vBl ta) := PT.imp (pt_val ha he) fun _ _ _ h => bl_lift h
theorem vb_cmp {op : CmpOp} (ho : OpR X (compareOp op) (rV X.K g)) (ha : VE X W a ta) (hb : VE X W b tb) (hm : behindInMarks op b = false) : VB X W (.Compare a [op] [b] pos) (vBl (vOp g ta tb)) :=
  PT.imp (pt_cmpR ho ha hb hm) fun σ H Q h => op_lift (Q := fun x H' => ∃ k, x = .bl k ∧ Q k H') (bl_lift h)
def vNot (t : VTT) : VTT := fun env Q x => t env (fun b e => Q (!b) e) x
theorem vb_not {t : VTT} (h : VB X W a t) : VB X W (.UnaryOp .Not a pos) (vNot t) := PT.imp (pt_not h) fun σ H Q ⟨Y, tv, to, env, Qd, xd, l, k, t, hq, hx⟩ =>
  ⟨Y, tv, to, env, _, xd, l, k, t, fun b e H' q k => hq _ e H' q k, hx⟩
def vAnd (t u : VTT) : VTT := fun env Q x => t env (fun b e => if b = true then u e Q x else Q false e) x
def vOr (t u : VTT) : VTT := fun env Q x => t env (fun b e => if b = true then Q true e else u e Q x) x
theorem and_lift {t u : VTT} {σ : L2.St} {H : Hp} {Q : Bool → Hp → Prop} (h : lT K W (vAnd t u) σ H Q) : tAnd (lT K W t) (lT K W u) σ H Q := by
  obtain ⟨Y, tv, to, env, Qd, xd, l, k, t, hq, hx⟩ := h
  refine ⟨Y, tv, to, env, _, xd, l, k, t, fun b e H' q k => ?_, hx⟩
  cases b with
  | true => exact ⟨Y, tv, to, e, Qd, xd, l, k, q, hq, hx⟩
  | false => exact hq _ _ _ q k
theorem or_lift {t u : VTT} {σ : L2.St} {H : Hp} {Q : Bool → Hp → Prop} (h : lT K W (vOr t u) σ H Q) : tOr (lT K W t) (lT K W u) σ H Q := by
  obtain ⟨Y, tv, to, env, Qd, xd, l, k, t, hq, hx⟩ := h
  refine ⟨Y, tv, to, env, _, xd, l, k, t, fun b e H' q k => ?_, hx⟩
  cases b with
  | false => exact ⟨Y, tv, to, e, Qd, xd, l, k, q, hq, hx⟩
  | true => exact hq _ _ _ q k
variable {tA tB : VTT} {rest : List Expr}
theorem vw_and1 (ha : VB X W a tA) : VW X W (.BoolOp .And [a] pos) tA := pw_and1 ha
theorem vw_or1 (ha : VB X W a tA) : VW X W (.BoolOp .Or [a] pos) tA := pw_or1 ha
theorem vw_and (ha : VB X W a tA) (hb : VW X W (.BoolOp .And (b :: rest) pos) tB) : VW X W (.BoolOp .And (a :: b :: rest) pos) (vAnd tA tB) := PW.imp (pw_and ha hb) fun _ _ _ h => and_lift h
theorem vw_or (ha : VB X W a tA) (hb : VW X W (.BoolOp .Or (b :: rest) pos) tB) : VW X W (.BoolOp .Or (a :: b :: rest) pos) (vOr tA tB) := PW.imp (pw_or ha hb) fun _ _ _ h => or_lift h
theorem VW.vb {t : VTT} (h : VW X W a t) : VB X W a t := PW.pt h
/-- and, or, not, as values -/
def vAndV (ta tb : VT) : VT := fun env Q x => ta env (fun o e => match o with
  | .sh (.bl b) => if b = true then tb e Q x else Q (.sh (.bl false)) e
  | _ => False) x
def vOrV (ta tb : VT) : VT := fun env Q x => ta env (fun o e => match o with
  | .sh (.bl b) => if b = true then Q (.sh (.bl true)) e else tb e Q x
  | _ => False) x
theorem ve_and (ha : VE X W a ta) (hb : VE X W (.BoolOp .And (b :: rest) pos) tb) : VE X W (.BoolOp .And (a :: b :: rest) pos) (vAndV ta tb) := by
  refine PE.imp (pe_and ha hb) fun σ H Q ⟨Y, tv, to, env, Qd, xd, l, k, t, hq, hx⟩ => ?_
  refine ⟨Y, tv, to, env, _, xd, l, k, t, fun o e v H' q k => ?_, hx⟩
  cases o with
  | sh d =>
    cases d with
    | bl b =>
      obtain ⟨v', ev, F, r, _⟩ := k.top
      injection ev with ev
      subst ev
      cases r
      refine ⟨b, rfl, ?_⟩
      cases b with
      | true => exact ⟨Y, tv, to, e, Qd, xd, l, k.pop, q, hq, hx⟩
      | false => exact hq _ _ _ _ q k
    | _ => exact q.elim
  | _ => exact q.elim
theorem ve_or (ha : VE X W a ta) (hb : VE X W (.BoolOp .Or (b :: rest) pos) tb) : VE X W (.BoolOp .Or (a :: b :: rest) pos) (vOrV ta tb) := by
  refine PE.imp (pe_or ha hb) fun σ H Q ⟨Y, tv, to, env, Qd, xd, l, k, t, hq, hx⟩ => ?_
  refine ⟨Y, tv, to, env, _, xd, l, k, t, fun o e v H' q k => ?_, hx⟩
  cases o with
  | sh d =>
    cases d with
    | bl b =>
      obtain ⟨v', ev, F, r, _⟩ := k.top
      injection ev with ev
      subst ev
      cases r
      refine ⟨b, rfl, ?_⟩
      cases b with
      | false => exact ⟨Y, tv, to, e, Qd, xd, l, k.pop, q, hq, hx⟩
      | true => exact hq _ _ _ _ q k
    | _ => exact q.elim
  | _ => exact q.elim
theorem ve_one {op} (h : VE X W a ta) : VE X W (.BoolOp op [a] pos) ta := pe_one h
/-- not, as a value -/
def vNotV (t : VT) : VT := fun env Q x => t env (fun o e => match o with
  | .sh (.bl b) => Q (.sh (.bl (!b))) e
  | _ => False) x
theorem ve_not (ha : VE X W a ta) : VE X W (.UnaryOp .Not a pos) (vNotV ta) := by
  refine PE.imp (pe_not ha) fun σ H Q ⟨Y, tv, to, env, Qd, xd, l, k, t, hq, hx⟩ => ?_
  refine ⟨Y, tv, to, env, _, xd, l, k, t, fun o e v H' q k => ?_, hx⟩
  cases o with
  | sh d =>
    cases d with
    | bl b =>
      obtain ⟨v', ev, F, r, _⟩ := k.top
      injection ev with ev
      subst ev
      cases r
      exact ⟨b, rfl, hq _ _ _ _ q (k.pop.push (F := []) fun _ => .bl _)⟩
    | _ => exact q.elim
  | _ => exact q.elim
def vIf (c : VTT) (t u : VT) : VT := fun env Q x => c env (fun b e => if b = true then t e Q x else u e Q x) x
theorem ve_if {tc : VTT} (hc : VB X W c tc) (ha : VE X W a ta) (hb : VE X W b tb) : VE X W (.IfExp c a b pos) (vIf tc ta tb) := by
  refine PE.imp (pe_ifExp hc ha hb) fun σ H Q ⟨Y, tv, to, env, Qd, xd, l, k, t, hq, hx⟩ => ?_
  refine ⟨Y, tv, to, env, _, xd, l, k, t, fun b e H' q k => ?_, hx⟩
  cases b with
  | true => exact ⟨Y, tv, to, e, Qd, xd, l, k, q, hq, hx⟩
  | false => exact ⟨Y, tv, to, e, Qd, xd, l, k, q, hq, hx⟩
end
/-! ### arguments -/
def vANil : VTA := fun env Q _ => Q [] env
def vACons (te : VT) (t : VTA) : VTA := fun env Q x => te env (fun o e => o.fz fun d => t e (fun ds e2 => Q (d :: ds) e2) x) x
theorem va_nil : VA X W [] 0 vANil := PA.imp pa_nil fun σ H Q ⟨Y, tv, to, env, Qd, xd, l, k, t, hq, hx⟩ => hq [] env [] H t rfl rfl k
theorem va_cons {e : Expr} {es : List Expr} {n : Nat} {te : VT} {t : VTA} (h : VE X W e te) (hr : VA X W es n t) (hs : starEach (e :: es) X.env = (false, eval e X.env) :: starEach es X.env := by rfl) : VA X W (e :: es) (n + 1) (vACons te t) := by
  refine PA.imp (pa_cons h hr hs) fun σ H Q ⟨Y, tv, to, env, Qd, xd, l, k, t, hq, hx⟩ => ?_
  refine ⟨Y, tv, to, env, _, xd, l, k, t, fun o e v H' q k => ?_, hx⟩
  obtain ⟨d, t2, k⟩ := k.fz q
  refine ⟨Y, some v :: tv, .sh d :: to, e, _, xd, by simp [l], k, t2, fun ds e2 vs H2 q2 l1 l2 k2 => ?_, hx.push⟩
  refine hq (d :: ds) e2 (v :: vs) H2 q2 (by simp [l1]) (by simp [l2]) ?_
  exact Ok.rot (xs := vs.map some) (ys := ds.map O.sh) (by simp [l1, l2]) k2
/-- .. as they are, cells -/
def vONil : VTO := fun env Q _ => Q [] env
def vOCons (te : VT) (t : VTO) : VTO := fun env Q x => te env (fun o e => t e (fun os e2 => Q (o :: os) e2) x) x
theorem vo_nil : VO X W [] 0 vONil := PA.imp pa_nil fun σ H Q ⟨Y, tv, to, env, Qd, xd, l, k, t, hq, hx⟩ => hq [] env [] H t rfl rfl k
theorem vo_cons {e : Expr} {es : List Expr} {n : Nat} {te : VT} {t : VTO} (h : VE X W e te) (hr : VO X W es n t) (hs : starEach (e :: es) X.env = (false, eval e X.env) :: starEach es X.env := by rfl) : VO X W (e :: es) (n + 1) (vOCons te t) := by
  refine PA.imp (pa_cons h hr hs) fun σ H Q ⟨Y, tv, to, env, Qd, xd, l, k, t, hq, hx⟩ => ?_
  refine ⟨Y, tv, to, env, _, xd, l, k, t, fun o e v H' q k => ?_, hx⟩
  refine ⟨Y, some v :: tv, o :: to, e, _, xd, by simp [l], k, q, fun os e2 vs H2 q2 l1 l2 k2 => ?_, hx.push⟩
  refine hq (o :: os) e2 (v :: vs) H2 q2 (by simp [l1]) (by simp [l2]) ?_
  exact Ok.rot (xs := vs.map some) (ys := os) (by simp [l1, l2]) k2
def vTup (ta : VTA) : VT := fun env Q x => ta env (fun ds e => Q (.sh (.tup ds)) e) x
def vLst (ta : VTA) : VT := fun env Q x => ta env (fun ds e => ∀ p, Q (.ol p ds) e) x
theorem ve_tup {es : List Expr} {n : Nat} {ta : VTA} {pos : Pos} {x1} (h : VA X W es n ta) (hn : n ≤ 1000 := by decide) : VE X W (.Tuple es x1 pos) (vTup ta) := by
  refine PE.imp (pe_tupN h) fun σ H Q ⟨Y, tv, to, env, Qd, xd, l, k, t, hq, hx⟩ => ?_
  refine ⟨Y, tv, to, env, _, xd, l, k, t, fun ds e vs H' q l1 l2 k => ⟨by rw [sizeLine_eq]; omega, fun p H2 n2 => ?_⟩, hx⟩
  exact hq _ _ _ _ q (k.tup (by omega) (by rw [sizeLine_eq]; omega) n2)
theorem ve_lst {es : List Expr} {n : Nat} {ta : VTA} {pos : Pos} (h : VA X W es n ta) (hn : n ≤ 1000 := by decide) : VE X W (.List es pos) (vLst ta) := by
  refine PE.imp (pe_lstN h) fun σ H Q ⟨Y, tv, to, env, Qd, xd, l, k, t, hq, hx⟩ => ?_
  refine ⟨Y, tv, to, env, _, xd, l, k, t, fun ds e vs H' q l1 l2 k => ⟨by rw [sizeLine_eq]; omega, fun p H2 n2 => ?_⟩, hx⟩
  exact hq _ _ _ _ (q p) (k.lst (by omega) (by rw [sizeLine_eq]; omega) n2)
end
end Hd
namespace Hd
/-! ### the value layer: statements, loops, calls, defs -/
section
open PySem PySem.Spec PyProof.Rows L2
variable {K : PySem.W.Frag} {W : WX} {H H' : Hp} {Y : Fx} {vs tv : List (Option V)} {os to env : List O} {v : V} {d : D} {o : O} {σ : L2.St} {X : Cx}
theorem Ok.setTop {i : Nat} {x : Option V} (k : Ok K Y (x :: vs) (o :: os) H) : Ok K Y (vs.set i x) (os.set i o) H := by
  by_cases hi : i < os.length
  · obtain ⟨F, w, nd, b⟩ := k.ex
    cases w with
    | @cons _ _ _ _ G1 G2 c t =>
      obtain ⟨z, F1, F2, F3, e1, e2, c2, up⟩ := t.at_ (List.getElem?_eq_getElem hi)
      subst e2
      refine ⟨⟨F1 ++ G1 ++ F3, ?_, ?_, fun p hp => b p ?_⟩, k.st, k.al, k.ba⟩
      · refine (up (A' := Y.A ++ (G1 ++ (F1 ++ F2 ++ F3))) (H' := H) (fun _ z => z) c).avoid fun a ha n => absurd ?_ n
        simp only [List.mem_append] at ha ⊢
        rcases ha with z | (z | z) | z
        · exact .inl z
        · exact .inr (.inr (.inl (.inl z)))
        · exact .inr (.inl z)
        · exact .inr (.inr (.inr z))
      · have pm : (G1 ++ (F1 ++ F3)).Perm (F1 ++ G1 ++ F3) := by
          rw [← List.append_assoc]
          exact (List.perm_append_comm).append_right _
        refine pm.nodup_iff.mp (nd.sublist ?_)
        refine (List.Sublist.refl G1).append ?_
        rw [List.append_assoc]
        exact (List.Sublist.refl F1).append (List.sublist_append_right _ _)
      · simp only [List.mem_append] at hp ⊢
        rcases hp with (z | z) | z
        · exact .inr (.inl (.inl z))
        · exact .inl z
        · exact .inr (.inr z)
  · have l := k.pop.len
    rw [List.set_eq_of_length_le (by omega), List.set_eq_of_length_le (by omega)]
    exact k.pop
theorem Ok.setSlot {i : Nat} {x : Option V} (l : tv.length = to.length) (k : Ok K Y (x :: (tv ++ σ)) (o :: (to ++ env)) H) : Ok K Y (tv ++ σ.set i x) (to ++ env.set i o) H := by
  have k2 := k.setTop (i := to.length + i)
  rw [set_app] at k2
  rw [← l, set_app] at k2
  exact k2
theorem Ok.dropn {x : Option V} : ∀ {xs : List (Option V)} {ys : List O}, xs.length = ys.length → Ok K Y (x :: (xs ++ vs)) (o :: (ys ++ os)) H → Ok K Y (x :: vs) (o :: os) H
  | [], [], _, k => k
  | [], _ :: _, l, _ => by cases l
  | _ :: _, [], l, _ => by cases l
  | _ :: _, _ :: _, l, k => Ok.dropn (Nat.succ.inj l) k.drop1
structure sOk (K : PySem.W.Frag) (W : WX) (Y : Fx) (tv : List (Option V)) (to : List O) (D : Ends) (E : VX) : Prop where
  nx : ∀ env σ H, E.nx env → Ok K Y (tv ++ σ) (to ++ env) H → D.nx σ H
  rt : ∀ o env v σ H, E.rt o env → Ok K Y (some v :: (tv ++ σ)) (o :: (to ++ env)) H → D.rt v H
  bk : ∀ env σ H, E.bk env → Ok K Y (tv ++ σ) (to ++ env) H → D.bk σ H
  ct : ∀ env σ H, E.ct env → Ok K Y (tv ++ σ) (to ++ env) H → D.ct σ H
  xx : ∀ σ, xOk K W Y tv to σ E.xx
def lS (K : PySem.W.Frag) (W : WX) (t : VTS) : TS := fun D σ H => ∃ Y tv to env E, tv.length = to.length ∧ Ok K Y (tv ++ σ) (to ++ env) H ∧ t env E ∧ sOk K W Y tv to D E
def VS (X : Cx) (W : WX) (st : Stmt) (t : VTS) : Prop := PS X st (lS X.K W t)
def VSs (X : Cx) (W : WX) (st : List Stmt) (t : VTS) : Prop := PSs X st (lS X.K W t)
section
variable {st : Stmt} {rest : List Stmt} {t u : VTS} {e : Expr} {te : VT} {pos : Pos}
def vNext : VTS := fun env E => E.nx env
def vSeq (t u : VTS) : VTS := fun env E => t env { E with nx := fun e => u e E }
theorem vss_nil : VSs X W [] vNext := PSs.imp pss_nil fun D σ H ⟨Y, tv, to, env, E, l, k, t, s⟩ => s.nx _ _ _ t k
theorem vss_cons (h1 : VS X W st t) (h2 : VSs X W rest u) : VSs X W (st :: rest) (vSeq t u) :=
  PSs.imp (pss_cons h1 h2) fun D σ H ⟨Y, tv, to, env, E, l, k, t, s⟩ => ⟨Y, tv, to, env, _, l, k, t, ⟨fun e σ' H' q k' => ⟨Y, tv, to, e, E, l, k', q, s⟩, s.rt, s.bk, s.ct, s.xx⟩⟩
theorem vss_one (h1 : VS X W st t) : VSs X W [st] t := pss_one h1
theorem vs_pass : VS X W (.Pass pos) vNext := PS.imp ps_pass fun D σ H ⟨Y, tv, to, env, E, l, k, t, s⟩ => s.nx _ _ _ t k
theorem vs_break : VS X W (.Break pos) (fun env E => E.bk env) := PS.imp ps_break fun D σ H ⟨Y, tv, to, env, E, l, k, t, s⟩ => s.bk _ _ _ t k
theorem vs_continue : VS X W (.Continue pos) (fun env E => E.ct env) := PS.imp ps_continue fun D σ H ⟨Y, tv, to, env, E, l, k, t, s⟩ => s.ct _ _ _ t k
theorem vs_doc {x j pos pos'} : VS X W (.Expr (.Constant (.str x) j pos) pos') vNext := PS.imp ps_doc fun D σ H ⟨Y, tv, to, env, E, l, k, t, s⟩ => s.nx _ _ _ t k
def vDrop (te : VT) : VTS := fun env E => te env (fun _ e => E.nx e) E.xx
theorem vs_expr (h : VE X W e te) (hs : swapsWith e none pos.line X.env = pure false := by rfl) : VS X W (.Expr e pos) (vDrop te) :=
  PS.imp (ps_expr h hs) fun D σ H ⟨Y, tv, to, env, E, l, k, t, s⟩ => ⟨Y, tv, to, env, _, _, l, k, t, fun o e v H' q k' => s.nx _ _ _ q k'.pop, s.xx σ⟩
def vRet (te : VT) : VTS := fun env E => te env (fun o e => E.rt o e) E.xx
theorem vs_ret (h : VE X W e te) : VS X W (.Return (some e) pos) (vRet te) :=
  PS.imp (ps_ret h) fun D σ H ⟨Y, tv, to, env, E, l, k, t, s⟩ => ⟨Y, tv, to, env, _, _, l, k, t, fun o e v H' q k' => s.rt _ _ _ σ _ q k', s.xx σ⟩
theorem vs_retN : VS X W (.Return none pos) (fun env E => E.rt (.sh .non) env) :=
  PS.imp ps_retN fun D σ H ⟨Y, tv, to, env, E, l, k, t, s⟩ => s.rt _ _ _ σ _ t (k.push (F := []) fun _ => .non)
def vIfS (c : VTT) (t u : VTS) : VTS := fun env E => c env (fun b e => if b = true then t e E else u e E) E.xx
theorem vs_if {c : Expr} {a b : List Stmt} {tc : VTT} (hc : VB X W c tc) (ha : VSs X W a t) (hb : VSs X W b u) : VS X W (.If c a b pos) (vIfS tc t u) :=
  PS.imp (ps_if hc ha hb) fun D σ H ⟨Y, tv, to, env, E, l, k, t, s⟩ => ⟨Y, tv, to, env, _, _, l, k, t, fun b e H' q k' => by
    cases b with
    | true => exact ⟨Y, tv, to, e, E, l, k', q, s⟩
    | false => exact ⟨Y, tv, to, e, E, l, k', q, s⟩, s.xx σ⟩
def vSet (i : Nat) (te : VT) : VTS := fun env E => te env (fun o e => E.nx (e.set i o)) E.xx
theorem vs_set {i : Nat} {x : Str} {pos' : Pos} (hN : X.N.Nodup) (hi : X.N[i]? = some x) (hx : Loc X.env.scope x) (he : VE X W e te) (hs : swapsWith e (some (.Name x pos')) pos.line X.env = pure false := by rfl) (hf : X.fn x = true ∨ X.env.scope.names.lookup x = some .local := by first | exact .inl rfl | exact .inr rfl | assumption) :
    VS X W (.Assign [.Name x pos'] e pos) (vSet i te) :=
  PS.imp (ps_set hN hi hx he hs hf) fun D σ H ⟨Y, tv, to, env, E, l, k, t, s⟩ => ⟨Y, tv, to, env, _, _, l, k, t, fun o e v H' q k' => s.nx _ _ _ q (Ok.setSlot l k'), s.xx σ⟩
/-- code that is never come to -/
theorem vss_never {sts : List Stmt} : VSs X W sts (fun _ _ => False) := PSs.imp pss_never fun D σ H ⟨Y, tv, to, env, E, l, k, t, s⟩ => t
end
/-! ### targets -/
abbrev VTG := O → DE → (DE → Prop) → XD → Prop
abbrev VTGs := List D → DE → (DE → Prop) → XD → Prop
/-- nothing but the slots ts was stored -/
def SlotsBut (ts : List Nat) (σ σ' : L2.St) : Prop := σ'.length = σ.length ∧ ∀ i, i ∉ ts → σ'[i]? = σ[i]?
theorem SlotsBut.trans {ts us : List Nat} {a b c : L2.St} (h : SlotsBut ts a b) (q : SlotsBut us b c) : SlotsBut (ts ++ us) a c :=
  ⟨q.1.trans h.1, fun i hi => (q.2 i fun z => hi (List.mem_append_right _ z)).trans (h.2 i fun z => hi (List.mem_append_left _ z))⟩
def lG (K : PySem.W.Frag) (W : WX) (ts : List Nat) (g : VTG) : TG := fun v σ H Q => ∃ Y tv to env o Qd xd, tv.length = to.length ∧ Ok K Y (some v :: (tv ++ σ)) (o :: (to ++ env)) H ∧ g o env Qd xd ∧
  (∀ env σ' H', Qd env → SlotsBut ts σ σ' → Ok K Y (tv ++ σ') (to ++ env) H' → Q σ' H') ∧ ∀ σ', xOk K W Y tv to σ' xd
def lGs (K : PySem.W.Frag) (W : WX) (ts : List Nat) (n : Nat) (g : VTGs) : TGs := fun vs σ H Q => ∃ Y tv to env ds Qd xd, tv.length = to.length ∧ vs.length = n ∧ ds.length = n ∧ Ok K Y (vs.map some ++ (tv ++ σ)) (ds.map O.sh ++ (to ++ env)) H ∧ g ds env Qd xd ∧
  (∀ env σ' H', Qd env → SlotsBut ts σ σ' → Ok K Y (tv ++ σ') (to ++ env) H' → Q σ' H') ∧ ∀ σ', xOk K W Y tv to σ' xd
def VG (X : Cx) (W : WX) (tg : Expr) (ts : List Nat) (g : VTG) : Prop := PG X tg (lG X.K W ts g)
def VGs (X : Cx) (W : WX) (es : List Expr) (ts : List Nat) (n : Nat) (g : VTGs) : Prop := PGs X es (lGs X.K W ts n g)
theorem PG.imp {e : Expr} {r r' : TG} (h : PG X e r) (i : ∀ v σ H Q, r' v σ H Q → r v σ H Q) : PG X e r' := ⟨fun pins s σ H v u Q I a q => h.run pins s σ H v u Q I a (i v σ H Q q)⟩
theorem PGs.imp {e : List Expr} {r r' : TGs} (h : PGs X e r) (i : ∀ v σ H Q, r' v σ H Q → r v σ H Q) : PGs X e r' := ⟨fun pins s σ H v u Q I a q => h.run pins s σ H v u Q I a (i v σ H Q q)⟩
section
variable {pos : Pos}
def vgSet (i : Nat) : VTG := fun o env Q _ => Q (env.set i o)
theorem vg_name {i : Nat} {x : Str} (hN : X.N.Nodup) (hi : X.N[i]? = some x) (hx : Loc X.env.scope x) (hf : X.fn x = true ∨ X.env.scope.names.lookup x = some .local := by first | exact .inl rfl | exact .inr rfl | assumption) : VG X W (.Name x pos) [i] (vgSet i) :=
  PG.imp (pg_name hN hi hx hf) fun v σ H Q ⟨Y, tv, to, env, o, Qd, xd, l, k, t, hq, hx⟩ => hq _ _ _ t ⟨by simp, fun j hj => List.getElem?_set_ne fun z => hj (by simp [z])⟩ (Ok.setSlot l k)
def vgNil : VTGs := fun ds env Q _ => match ds with
  | [] => Q env
  | _ :: _ => False
def vgCons (t : VTG) (u : VTGs) : VTGs := fun ds env Q x => match ds with
  | [] => False
  | d :: ds => t (.sh d) env (fun e => u ds e Q x) x
theorem vgs_nil : VGs X W [] [] 0 vgNil := PGs.imp pgs_nil fun vs σ H Q ⟨Y, tv, to, env, ds, Qd, xd, l, l1, l2, k, t, hq, hx⟩ => by
  obtain rfl : vs = [] := List.eq_nil_of_length_eq_zero l1
  obtain rfl : ds = [] := List.eq_nil_of_length_eq_zero l2
  exact ⟨rfl, hq _ _ _ t ⟨rfl, fun _ _ => rfl⟩ k⟩
theorem vgs_cons {e : Expr} {es : List Expr} {n : Nat} {t : VTG} {u : VTGs} {ts us : List Nat} (h1 : VG X W e ts t) (h2 : VGs X W es us n u)
    (hs : (assignEach (e :: es) X.env).map (·.2) = assign e X.env :: (assignEach es X.env).map (·.2) := by rfl) : VGs X W (e :: es) (ts ++ us) (n + 1) (vgCons t u) := by
  refine PGs.imp (pgs_cons h1 h2 hs) fun vs σ H Q ⟨Y, tv, to, env, ds, Qd, xd, l, l1, l2, k, t, hq, hx⟩ => ?_
  match vs, ds, l1, l2 with
  | v :: vs, d :: ds, l1, l2 =>
    have m1 : vs.length = n := Nat.succ.inj l1
    have m2 : ds.length = n := Nat.succ.inj l2
    refine ⟨v, vs, rfl, Y, vs.map some ++ tv, ds.map O.sh ++ to, env, .sh d, _, xd, by simp [l, m1, m2], ?_, t, fun e σ' H' q sb k' => ?_, fun σ' => xOk.pushn (by simp [m1, m2]) (hx σ')⟩
    · simpa using k
    · refine ⟨Y, tv, to, e, ds, Qd, xd, l, m1, m2, ?_, q, fun env σ2 H2 q2 sb2 k2 => hq _ _ _ q2 (sb.trans sb2) k2, hx⟩
      simpa using k'
def vgTup (n : Nat) (t : VTGs) : VTG := fun o env Q x => o.fz fun d => match d with
  | .tup ds => ds.length = n ∧ t ds env Q x
  | _ => False
theorem Ok.tup_open {x : Option V} {ds : List D} (k : Ok K Y (x :: vs) (.sh (.tup ds) :: os) H) : ∃ a xs, x = some (.ref a) ∧ SqT K H a xs ∧ xs.length ≤ sizeLine ∧ xs.length = ds.length ∧ Ok K Y (xs.map some ++ vs) (ds.map O.sh ++ os) H := by
  obtain ⟨v, rfl, F, r, w, nd, b⟩ := k.top
  cases r with
  | @tup a xs _ sq z ra =>
    have al : ∀ {xs : List V} {ds : List D}, RpA K (Y.A ++ F) H xs ds → OwA K (Y.A ++ F) H (xs.map some) (ds.map O.sh) [] := by
      intro xs ds h
      induction xs generalizing ds with
      | nil => cases h; exact .nil
      | cons x xs ih =>
        cases h with
        | cons r t => exact OwA.cons (F := []) (G := []) (.sh r) (ih t)
    exact ⟨a, xs, rfl, sq.sq, z, ra.len, ⟨⟨F, (al ra).app w, nd, b⟩, k.st, k.al, k.ba⟩⟩
theorem Ok.lst_open {x : Option V} {ds : List D} (k : Ok K Y (x :: vs) (.sh (.lst ds) :: os) H) : ∃ a xs, x = some (.ref a) ∧ SqL K H a xs ∧ xs.length ≤ sizeLine ∧ xs.length = ds.length ∧ Ok K Y (xs.map some ++ vs) (ds.map O.sh ++ os) H := by
  obtain ⟨v, rfl, F, r, w, nd, b⟩ := k.top
  cases r with
  | @lst a xs _ sq z ra =>
    have al : ∀ {xs : List V} {ds : List D}, RpA K (Y.A ++ F) H xs ds → OwA K (Y.A ++ F) H (xs.map some) (ds.map O.sh) [] := by
      intro xs ds h
      induction xs generalizing ds with
      | nil => cases h; exact .nil
      | cons x xs ih =>
        cases h with
        | cons r t => exact OwA.cons (F := []) (G := []) (.sh r) (ih t)
    exact ⟨a, xs, rfl, sq.sq, z, ra.len, ⟨⟨F, (al ra).app w, nd, b⟩, k.st, k.al, k.ba⟩⟩
theorem vg_tup {es : List Expr} {kk : Nat} {t : VTGs} {n : Nat} {ts : List Nat} (hc : X.calm = true) (h : VGs X W es ts n t)
    (hn : (assignEach es X.env).length = n := by rfl) (hst : (assignEach es X.env).findIdx? (·.1) = none := by rfl) : VG X W (.Tuple es kk pos) ts (vgTup n t) := by
  refine PG.imp (pg_tup (n := n) hc h hn hst) fun v σ H Q ⟨Y, tv, to, env, o, Qd, xd, l, k, t, hq, hx⟩ => ?_
  obtain ⟨d, t, k⟩ := k.fz t
  cases d with
  | tup ds =>
    obtain ⟨a, xs, e, sq, z, l1, k2⟩ := k.tup_open
    injection e with e
    obtain ⟨l2, t⟩ := t
    exact ⟨a, xs, e, sq, by omega, Y, tv, to, env, ds, Qd, xd, l, by omega, l2, k2, t, hq, hx⟩
  | _ => exact t.elim
end
/-! ### walks -/
structure ItOk (K : PySem.W.Frag) (J : It) (iv : List (Option V)) (io : List O) (ds : List D) : Prop where
  len : ds.length ≤ sizeLine
  go : ∀ {Y : Fx} {vs os H} {i : Nat}, Ok K Y (iv ++ vs) (io ++ os) H → i < ds.length → J.go i H
  yld : ∀ {Y : Fx} {vs os H} {i : Nat} {x H' d}, Ok K Y (iv ++ vs) (io ++ os) H → ds[i]? = some d → J.yld i H x H' → Ok K Y (some x :: (iv ++ vs)) (.sh d :: (io ++ os)) H'
  stop : ∀ {Y : Fx} {vs os H}, Ok K Y (iv ++ vs) (io ++ os) H → J.stop ds.length H
def lI (K : PySem.W.Frag) (W : WX) (t : VTA) : TI := fun σ H R => ∃ Y tv to env Qd xd, tv.length = to.length ∧ Ok K Y (tv ++ σ) (to ++ env) H ∧ t env Qd xd ∧
  (∀ ds env J iv io H', Qd ds env → iv.length = io.length → ItOk K J iv io ds → Ok K Y (iv ++ (tv ++ σ)) (io ++ (to ++ env)) H' → R J H') ∧ xOk K W Y tv to σ xd
def VI (X : Cx) (W : WX) (tg iter : Expr) (t : VTA) : Prop := PI X tg iter (lI X.K W t)
theorem PI.imp {tg iter : Expr} {r r' : TI} (h : PI X tg iter r) (i : ∀ σ H Q, r' σ H Q → r σ H Q) : PI X tg iter r' := ⟨fun pins s σ H R I q => h.run pins s σ H R I (i σ H R q)⟩
def vForL (g : VTG) (b : VTS) : List D → VTS
  | [], env, E => E.nx env
  | d :: ds, env, E => g (.sh d) env (fun e1 => b e1 { nx := fun e => vForL g b ds e E, rt := E.rt, bk := E.nx, ct := fun e => vForL g b ds e E, xx := E.xx }) E.xx
def vFor (ti : VTA) (g : VTG) (b : VTS) : VTS := fun env E => ti env (fun ds e => vForL g b ds e E) E.xx
theorem vs_for {tg iter : Expr} {body : List Stmt} {ti : VTA} {g : VTG} {tb : VTS} {pos : Pos} (hp : PassesOwn (model X.prog X.w) X.A X.env X.xe) (hc : X.calm = true) {ts : List Nat} (hi : VI X W tg iter ti) (hg : VG X W tg ts g) (hb : VSs X W body tb)
    (hs : ∀ x, foldedSetIterable iter X.env x = pure x := by intro _; rfl) : VS X W (.For tg iter body [] pos) (vFor ti g tb) := by
  refine PS.imp (ps_for hp hc hi hg hb hs) fun D σ H ⟨Y, tv, to, env, E, l, k, t, s⟩ => ?_
  refine ⟨Y, tv, to, env, _, _, l, k, t, fun ds e J iv io H1 q li it k1 => ?_, s.xx σ⟩
  refine ⟨fun i m σ' H' => ∃ e', i ≤ ds.length ∧ m = ds.length - i ∧ vForL g tb (ds.drop i) e' E ∧ Ok X.K Y (iv ++ (tv ++ σ')) (io ++ (to ++ e')) H', ⟨_, e, Nat.zero_le _, rfl, q, k1⟩, ?_⟩
  rintro i m σ' H' ⟨e', h1, rfl, h2, k2⟩
  by_cases hi : i < ds.length
  · obtain ⟨d, hd⟩ : ∃ d, ds[i]? = some d := ⟨_, List.getElem?_eq_getElem hi⟩
    rw [drop_at hd] at h2
    refine .inr ⟨it.go k2 hi, _, fun σ2 H2 n => ⟨ds.length - (i + 1), by omega, n⟩, fun x H2 hy => ?_⟩
    have k3 := it.yld k2 hd hy
    refine ⟨Y, iv ++ tv, io ++ to, e', .sh d, _, _, by simp [l, li], by simpa using k3, h2, fun e1 σ2 H3 q _ k4 => ?_, fun σ2 => xOk.pushn li (s.xx σ2)⟩
    refine ⟨Y, iv ++ tv, io ++ to, e1, _, by simp [l, li], k4, q, ?_⟩
    refine ⟨fun e2 σ3 H4 q k5 => ⟨e2, hi, rfl, q, by simpa using k5⟩, fun o e2 v σ3 H4 q k5 => s.rt _ _ _ _ _ q (Ok.dropn li (by simpa using k5)), fun e2 σ3 H4 q k5 => s.nx _ _ _ q (Ok.popn li (by simpa using k5)), fun e2 σ3 H4 q k5 => ⟨e2, hi, rfl, q, by simpa using k5⟩, fun σ2 => xOk.pushn li (s.xx σ2)⟩
  · have e1 : i = ds.length := by omega
    subst e1
    rw [List.drop_length] at h2
    exact .inl ⟨it.stop k2, s.nx _ _ _ h2 (Ok.popn li k2)⟩
/-- while: an invariant and a measure -/
def vWhile (c : VTT) (b : VTS) : VTS := fun env E => ∃ (P : DE → Prop) (μ : DE → Nat), P env ∧ ∀ e, P e →
  c e (fun bb e1 => if bb = true then b e1 { nx := fun e2 => P e2 ∧ μ e2 < μ e, rt := E.rt, bk := E.nx, ct := fun e2 => P e2 ∧ μ e2 < μ e, xx := E.xx } else E.nx e1) E.xx
theorem vs_while {c : Expr} {body : List Stmt} {tc : VTT} {tb : VTS} {pos : Pos} (hp : PassesOwn (model X.prog X.w) X.A X.env X.xe) (hc : VB X W c tc) (hb : VSs X W body tb) : VS X W (.While c body [] pos) (vWhile tc tb) := by
  refine PS.imp (ps_while hp hc hb) fun D σ H ⟨Y, tv, to, env, E, l, k, ⟨P, μ, p0, t⟩, s⟩ => ?_
  refine ⟨fun m σ' H' => ∃ e', P e' ∧ μ e' = m ∧ Ok X.K Y (tv ++ σ') (to ++ e') H', ⟨_, env, p0, rfl, k⟩, ?_⟩
  rintro m σ' H' ⟨e', pe, rfl, k2⟩
  refine ⟨Y, tv, to, e', _, _, l, k2, t e' pe, fun bb e1 H2 q k3 => ?_, s.xx σ'⟩
  cases bb with
  | false => exact s.nx _ _ _ q k3
  | true =>
    refine ⟨fun σ3 H3 => ∃ e2, P e2 ∧ μ e2 < μ e' ∧ Ok X.K Y (tv ++ σ3) (to ++ e2) H3, fun σ3 H3 ⟨e2, p2, m2, k4⟩ => ⟨_, m2, e2, p2, rfl, k4⟩, ?_⟩
    exact ⟨Y, tv, to, e1, _, l, k3, q, ⟨fun e2 σ3 H4 q k5 => ⟨e2, q.1, q.2, k5⟩, s.rt, s.nx, fun e2 σ3 H4 q k5 => ⟨e2, q.1, q.2, k5⟩, s.xx⟩⟩
def vAsg (te : VT) (g : VTG) : VTS := fun env E => te env (fun o e => g o e E.nx E.xx) E.xx
theorem vs_asg {tg e : Expr} {te : VT} {g : VTG} {pos : Pos} {ts : List Nat} (he : VE X W e te) (hg : VG X W tg ts g) (hs : swapsWithSole [tg] e pos.line X.env = pure false := by rfl) (hw : swappedStores [tg] e X.env = pure none := by rfl)
    (h1 : (assignEach [tg] X.env).map (·.2) = [assign tg X.env] := by rfl) : VS X W (.Assign [tg] e pos) (vAsg te g) :=
  PS.imp (ps_asg he hg hs hw h1) fun D σ H ⟨Y, tv, to, env, E, l, k, t, s⟩ => ⟨Y, tv, to, env, _, _, l, k, t, fun o e v H' q k' => ⟨Y, tv, to, e, o, _, _, l, k', q, fun env σ2 H2 q2 _ k2 => s.nx _ _ _ q2 k2, s.xx⟩, s.xx σ⟩
/-! ### calls of defs -/
abbrev VM := List O → (O → List O → Prop) → XD → Prop
def spV (K : PySem.W.Frag) (n : Nat) (m : VM) : Sp := fun vs H Q E => ∃ A F os Qd xd, vs.length = n ∧ OwA K (A ++ F) H (vs.map some) os F ∧ F.Nodup ∧ (∀ p ∈ F, p ∉ A) ∧ (∀ p ∈ A, Mut (H p)) ∧ m os Qd xd ∧
  (∀ o bk v ws H', Qd o bk → Ok K ⟨A, F, H⟩ (some v :: ws) (o :: bk) H' → Q v H') ∧
  (∀ c f d bk v a ws H', xd c f d bk → Ok K ⟨A, F, H⟩ (some v :: ws) (.sh d :: bk) H' → H' a = some (.xd [(f, v)]) → E (.ref (He.ga K c)) (some a) H')
theorem Stp.via {B F : List Addr} {H0 H1 H2 : Hp} (a : Stp B H0 H1) (b : Stp F H1 H2) (h : ∀ p ∈ F, p ∈ B ∨ H0 p = none) : Stp B H0 H2 :=
  ⟨fun c o n q => b.k c o (fun z => by
    rcases h c z with y | y
    · exact n y
    · rw [y] at q; cases q) (a.k c o n q), fun c x q => b.t c x (a.t c x q), fun c o u q => b.z c o u (a.z c o u q), fun c q => a.f c (b.f c q)⟩
/-- what a callee needs, and what it leaves -/
theorem Ok.call {xs : List (Option V)} {us : List O} (l : xs.length = us.length) (k : Ok K Y (xs ++ vs) (us ++ os) H) : ∃ A F, OwA K (A ++ F) H xs us F ∧ F.Nodup ∧ (∀ p ∈ F, p ∉ A) ∧ (∀ p ∈ A, Mut (H p)) ∧
    ∀ {ys : List (Option V)} {ws : List O} {H'}, Ok K ⟨A, F, H⟩ ys ws H' → Ok K Y (ys ++ vs) (ws ++ os) H' := by
  obtain ⟨F, w, nd, b⟩ := k.ex
  obtain ⟨F1, F2, e, w1, w2⟩ := w.split l
  subst e
  have nd' := List.nodup_append.mp nd
  refine ⟨Y.A ++ F2, F1, w1.avoid fun a ha n => absurd ?_ n, nd'.1, fun p hp z => ?_, fun p hp => ?_, fun {ys ws H'} k2 => ?_⟩
  · simp only [List.mem_append] at ha ⊢
    rcases ha with (z | z) | z
    · exact .inl z
    · exact .inr (.inr z)
    · exact .inr (.inl z)
  · rcases List.mem_append.mp z with z | z
    · rcases b p (List.mem_append_left _ hp) with y | y
      · exact k.ba p y z
      · exact mut_ne (k.al p z) y
    · exact nd'.2.2 p hp p z rfl
  · rcases List.mem_append.mp hp with z | z
    · exact k.alH p z
    · exact w2.mut p z
  · obtain ⟨G, g, ng, bg⟩ := k2.ex
    have st2 : Stp F1 H H' := k2.st
    have new : ∀ p ∈ G, p ∈ F1 ∨ H p = none := bg
    have w3 : OwA K (Y.A ++ (F1 ++ (G ++ F2))) H vs os F2 := w2.avoid fun a ha n => by
      simp only [List.mem_append] at ha n
      rcases ha with z | z | z | z
      · exact absurd (.inl z) n
      · exact absurd (.inr (.inl z)) n
      · rcases new a z with y | y
        · exact absurd (.inr (.inl y)) n
        · exact y
      · exact absurd (.inr (.inr z)) n
    have w4 := w3.mono st2 (fun a ha => by simp [ha]) fun a ha z => nd'.2.2 a ha a z rfl
    refine ⟨⟨G ++ F2, ?_, ?_, fun p hp => ?_⟩, k.st.via st2 fun p hp => b p (List.mem_append_left _ hp), k.al, k.ba⟩
    · refine OwA.app (g.avoid fun a ha n => absurd ?_ n) (w4.avoid fun a ha n => absurd ?_ n)
      · simp only [List.mem_append] at ha ⊢
        rcases ha with z | z | z
        · exact .inl (.inl z)
        · exact .inr z
        · exact .inl (.inr z)
      · simp only [List.mem_append] at ha ⊢
        rcases ha with z | z | z
        · exact .inl z
        · exact .inr (.inr (.inl z))
        · exact .inr (.inr (.inr z))
    · refine List.nodup_append.mpr ⟨ng, nd'.2.1, fun a ha c hc e => ?_⟩
      subst e
      rcases new a ha with y | y
      · exact nd'.2.2 a y a hc rfl
      · exact w2.has a hc y
    · rcases List.mem_append.mp hp with z | z
      · rcases new p z with y | y
        · exact b p (List.mem_append_left _ y)
        · exact .inr (k.st.f p y)
      · exact b p (List.mem_append_right _ z)
/-- what was lent comes back -/
def putBack : List Nat → List O → DE → (DE → Prop) → Prop
  | [], _, e, k => k e
  | _ :: _, [], _, _ => False
  | i :: is, c :: cs, e, k => match e[i]? with
    | some (.lent p) => c.root = some p ∧ putBack is cs (e.set i c) k
    | _ => False
theorem Ok.putBack {k0 : DE → Prop} (l : tv.length = to.length) : ∀ {bi : List Nat} {bk : List O} {ws : List (Option V)} {env : List O}, ws.length = bk.length → Ok K Y (ws ++ (tv ++ σ)) (bk ++ (to ++ env)) H → putBack bi bk env k0 → ∃ e, k0 e ∧ Ok K Y (tv ++ σ) (to ++ e) H
  | [], bk, ws, env, lw, k, h => ⟨env, h, Ok.popn lw k⟩
  | _ :: _, [], _, _, _, _, h => h.elim
  | i :: is, c :: cs, [], env, lw, k, h => by cases lw
  | i :: is, c :: cs, w :: ws, env, lw, k, h => by
    unfold Hd.putBack at h
    split at h
    · rename_i p e
      have k1 : Ok K Y (w :: (ws ++ (tv ++ σ))) (c :: (cs ++ (to ++ env))) H := k
      have k2 := k1.back (i := cs.length + (to.length + i)) (p := p) (by rw [ix_app, ix_app]; exact e) h.1
      rw [set_app, set_app] at k2
      exact Ok.putBack l (Nat.succ.inj lw) k2 h.2
    · exact h.elim
def vCallO (m : VM) (bi : List Nat) (ta : VTO) : VT := fun env Q x => ta env (fun os e => m os (fun o bk => putBack bi bk e fun e' => Q o e') (fun c f d bk => putBack bi bk e fun e' => x c f d e')) x
def vCall (m : VM) (ta : VTA) : VT := fun env Q x => ta env (fun ds e => m (ds.map O.sh) (fun o _ => Q o e) (fun c f d _ => x c f d e)) x
theorem call_lift {n : Nat} {m : VM} {ta : VTA} {Q : VK} (h : lE K W (vCall m ta) σ H Q) : tCallS (spV K n m) (WE W) (lA K W n ta) σ H Q := by
  obtain ⟨Y, tv, to, env, Qd, xd, l, k, t, hq, hx⟩ := h
  refine ⟨Y, tv, to, env, _, xd, l, k, t, fun ds e vs H1 q l1 l2 k1 => ?_, hx⟩
  obtain ⟨A, F, w, nd, fa, al, up⟩ := Ok.call (xs := vs.map some) (us := ds.map O.sh) (by simp [l1, l2]) k1
  refine ⟨A, F, _, _, _, l1, w, nd, fa, al, q, fun o bk v ws H' q k2 => ?_, fun c f d bk v a ws H' q k2 ea => ?_⟩
  · have k3 := up k2
    refine hq _ _ _ _ q (Ok.dropn (xs := ws) (ys := bk) ?_ (by simpa using k3))
    exact Nat.succ.inj k2.len
  · have k3 := up k2
    refine hx _ _ _ _ _ _ _ q (Ok.dropn (xs := ws) (ys := bk) (Nat.succ.inj k2.len) (by simpa using k3)) ea
theorem callO_lift {n : Nat} {m : VM} {ta : VTO} {bi : List Nat} {Q : VK} (h : lE K W (vCallO m bi ta) σ H Q) : tCallS (spV K n m) (WE W) (lO K W n ta) σ H Q := by
  obtain ⟨Y, tv, to, env, Qd, xd, l, k, t, hq, hx⟩ := h
  refine ⟨Y, tv, to, env, _, xd, l, k, t, fun ds e vs H1 q l1 l2 k1 => ?_, hx⟩
  obtain ⟨A, F, w, nd, fa, al, up⟩ := Ok.call (xs := vs.map some) (us := ds) (by simp [l1, l2]) k1
  refine ⟨A, F, _, _, _, l1, w, nd, fa, al, q, fun o bk v ws H' q k2 => ?_, fun c f d bk v a ws H' q k2 ea => ?_⟩
  · have lw : ws.length = bk.length := Nat.succ.inj k2.len
    have k3 := up k2
    have k4 : Ok K Y (ws ++ ((some v :: tv) ++ σ)) (bk ++ ((o :: to) ++ e)) H' := by
      have := Ok.unrot (xs := ws) (ys := bk) (x := some v) (o := o) (vs := tv ++ σ) (os := to ++ e) lw (by simpa using k3)
      simpa using this
    obtain ⟨e2, q2, k5⟩ := Ok.putBack (by simp [l]) lw k4 q
    exact hq _ _ _ _ q2 (by simpa using k5)
  · have lw : ws.length = bk.length := Nat.succ.inj k2.len
    have k3 := up k2
    have k4 : Ok K Y (ws ++ ((some v :: tv) ++ σ)) (bk ++ ((.sh d :: to) ++ e)) H' := by
      have := Ok.unrot (xs := ws) (ys := bk) (x := some v) (o := .sh d) (vs := tv ++ σ) (os := to ++ e) lw (by simpa using k3)
      simpa using this
    obtain ⟨e2, q2, k5⟩ := Ok.putBack (by simp [l]) lw k4 q
    exact hx _ _ _ _ _ _ _ q2 (by simpa using k5) ea
section
variable {e : Expr} {es : List Expr} {x : Str} {p pos : Pos} {k n : Nat} {ps : List Str} {f : Addr} {m : VM}
theorem ve_call {ta : VTA} (C : Cal X.prog X.w X.K X.mg X.base k f ps (spV X.K n m)) (hr : Room k X.A) (hg : Gl X x) (hm : X.mg x = some (.ref f)) (hp : ∀ σ, PassesAt (L2.CX X.prog X.w) X σ (WE W σ)) (ha : VA X W (e :: es) n ta)
    (hdb : (x == ("__debug__" : Str)) = false := by decide) (he : starEach (e :: es) X.env = (false, eval e X.env) :: starEach es X.env := by rfl) (hpl : (backTo pos (starEach es X.env)).any (·.1) = false := by rfl) :
    VE X W (.Call (.Name x p) (e :: es) [] pos) (vCall m ta) := PE.imp (pe_cal C hr hg hm hp ha hdb he hpl) fun _ _ _ h => call_lift h
theorem ve_callO {ta : VTO} {bi : List Nat} (C : Cal X.prog X.w X.K X.mg X.base k f ps (spV X.K n m)) (hr : Room k X.A) (hg : Gl X x) (hm : X.mg x = some (.ref f)) (hp : ∀ σ, PassesAt (L2.CX X.prog X.w) X σ (WE W σ)) (ha : VO X W (e :: es) n ta)
    (hdb : (x == ("__debug__" : Str)) = false := by decide) (he : starEach (e :: es) X.env = (false, eval e X.env) :: starEach es X.env := by rfl) (hpl : (backTo pos (starEach es X.env)).any (·.1) = false := by rfl) :
    VE X W (.Call (.Name x p) (e :: es) [] pos) (vCallO m bi ta) := PE.imp (pe_cal C hr hg hm hp ha hdb he hpl) fun _ _ _ h => callO_lift h
end
/-- a raise of an own error -/
def vRaise (c f : Str) (ta : VTA) : VTS := fun env E => ta env (fun ds e => match ds with
  | [d] => E.xx c f d e
  | _ => False) E.xx
theorem vs_raise {e : Expr} {ta : VTA} {p pos pos' : Pos} {x c : Str} {f : Str} {k : Nat} (hc : X.calm = true) (tk : Takes X W) (T : ErrC X.K (He.ga X.K c) f) (F : Cal X.prog X.w X.K X.mg X.base k (He.ma X.K (He.ga X.K c) "__init__") ["self", f] (spErr (He.ga X.K c) f)) (hr : Room (k + 1) X.A) (hg : Gl X x) (hm : X.mg x = some (.ref (He.ga X.K c))) (ha : VA X W [e] 1 ta)
    (hdb : (x == ("__debug__" : Str)) = false := by decide) (he : starEach [e] X.env = (false, eval e X.env) :: starEach [] X.env := by rfl) (hpl : (backTo pos (starEach [] X.env)).any (·.1) = false := by rfl) :
    VS X W (.Raise (some (.Call (.Name x p) [e] [] pos)) none pos') (vRaise c f ta) := by
  refine PS.imp (ps_raise hc tk (pmk_err T F hr hg hm ha hdb he hpl)) fun D σ H ⟨Y, tv, to, env, E, l, k, t, s⟩ => ?_
  refine ⟨Y, tv, to, env, _, _, l, k, t, fun ds e vs H1 q l1 l2 k1 => ?_, s.xx σ⟩
  match vs, ds, l1, l2 with
  | [v], [d], _, _ => exact ⟨v, rfl, fun a ha => s.xx σ _ _ _ _ _ _ _ q (Ok.nw k1 (.mk' ha)) upd_same⟩
/-! ### a def's body -/
def mBody (N : Nat) (bi : List Nat) (t : VTS) : VM := fun os Q x => t (os ++ List.replicate (N - os.length) .un) { nx := fun e => Q (.sh .non) (bi.map fun i => e.getD i .un), rt := fun o e => Q o (bi.map fun i => e.getD i .un), bk := fun _ => False, ct := fun _ => False, xx := fun c f d e => x c f d (bi.map fun i => e.getD i .un) }
theorem OwA.uns : ∀ (n : Nat) (A : List Addr), OwA K A H (List.replicate n none) (List.replicate n .un) []
  | 0, _ => .nil
  | n + 1, A => OwA.cons (F := []) (G := []) (.un none) (OwA.uns n A)
theorem Ok.pushUn (k : Ok K Y vs os H) : Ok K Y (none :: vs) (.un :: os) H := by
  obtain ⟨F, w, nd, b⟩ := k.ex
  exact ⟨⟨F, OwA.cons (F := []) (.un none) w, nd, b⟩, k.st, k.al, k.ba⟩
theorem Ok.swap {x y : Option V} {o' : O} (k : Ok K Y (x :: y :: vs) (o :: o' :: os) H) : Ok K Y (y :: x :: vs) (o' :: o :: os) H := Ok.rot (xs := [x]) (ys := [o]) rfl k
/-- the cells at some places alone -/
theorem Ok.selA (x : Option V) : ∀ (bi : List Nat) {vs : List (Option V)} {os : List O}, bi.Nodup → Ok K Y (x :: vs) (o :: os) H → ∃ ws os', ws.length = bi.length ∧ (∀ j, j ∉ bi → os'[j]? = os[j]?) ∧ Ok K Y (x :: (ws ++ vs)) (o :: ((bi.map fun i => os.getD i .un) ++ os')) H
  | [], vs, os, _, k => ⟨[], os, rfl, fun _ _ => rfl, k⟩
  | i :: is, vs, os, nd, k => by
    have nd' := List.nodup_cons.mp nd
    obtain ⟨ws, os', l, same, k2⟩ := Ok.selA x is nd'.2 k
    by_cases hi : i < os.length
    · have e : os'[i]? = some (os.getD i .un) := by
        rw [same i nd'.1, List.getElem?_eq_getElem hi, List.getD_eq_getElem?_getD, List.getElem?_eq_getElem hi]; rfl
      obtain ⟨y, e1, k3⟩ := k2.take (i := (o :: (is.map fun i => os.getD i .un)).length + i) (o := os.getD i .un) (q := .un) (by
        show ((o :: (is.map fun i => os.getD i .un)) ++ os')[_]? = _
        rw [ix_app]; exact e) fun A x F _ => .un x
      have k4 : Ok K Y (y :: x :: (ws ++ vs)) (os.getD i .un :: o :: ((is.map fun i => os.getD i .un) ++ os'.set i .un)) H := by
        have e2 : (o :: ((is.map fun i => os.getD i .un) ++ os')).set ((o :: (is.map fun i => os.getD i .un)).length + i) .un = o :: ((is.map fun i => os.getD i .un) ++ os'.set i .un) := by
          show ((o :: (is.map fun i => os.getD i .un)) ++ os').set _ _ = _
          rw [set_app]; rfl
        rw [e2] at k3
        exact k3
      refine ⟨y :: ws, os'.set i .un, by simp [l], fun j hj => ?_, k4.swap⟩
      have hj' : j ≠ i ∧ j ∉ is := ⟨fun z => hj (by simp [z]), fun z => hj (by simp [z])⟩
      rw [List.getElem?_set_ne (Ne.symm hj'.1)]
      exact same j hj'.2
    · have e : os.getD i .un = .un := by rw [List.getD_eq_getElem?_getD, List.getElem?_eq_none (by omega)]; rfl
      refine ⟨none :: ws, os', by simp [l], fun j hj => same j fun z => hj (by simp [z]), ?_⟩
      have k4 := k2.pushUn.swap
      rw [List.map_cons, e]
      exact k4
theorem Ok.sel {x : Option V} {bi : List Nat} (nd : bi.Nodup) (k : Ok K Y (x :: vs) (o :: os) H) : ∃ ws, Ok K Y (x :: ws) (o :: bi.map fun i => os.getD i .un) H := by
  obtain ⟨ws, os', l, _, k2⟩ := Ok.selA x bi nd k
  refine ⟨ws, ?_⟩
  have lr : vs.length = os'.length := by have := k2.len; simp [l] at this; exact this
  have k3 : Ok K Y (vs ++ (x :: ws)) (os' ++ (o :: bi.map fun i => os.getD i .un)) H := by
    have k4 : Ok K Y ((x :: ws) ++ vs) ((o :: bi.map fun i => os.getD i .un) ++ os') H := k2
    clear k2
    obtain ⟨F, w, nd, b⟩ := k4.ex
    obtain ⟨F1, F2, e, w1, w2⟩ := w.split (by simp [l])
    subst e
    refine ⟨⟨F2 ++ F1, (w2.app w1).avoid fun a ha n => absurd ?_ n, ?_, fun p hp => b p ?_⟩, k4.st, k4.al, k4.ba⟩
    · simp only [List.mem_append] at ha ⊢
      rcases ha with z | z | z
      · exact .inl z
      · exact .inr (.inr z)
      · exact .inr (.inl z)
    · exact List.perm_append_comm.nodup_iff.mp nd
    · simp only [List.mem_append] at hp ⊢
      exact hp.symm
  exact Ok.popn lr k3
/-- the walk of a body gives the promise -/
theorem body_ok {N : List Str} {n : Nat} {bi : List Nat} {t : VTS} {H : Hp} {vs : List V} {Q : VK} {E : XK} (nd : bi.Nodup) (h : spV K n (mBody N.length bi t) vs H Q E) :
    lS K (fun cls d _ H => E cls d H) t { nx := fun _ H' => Q .non H', rt := Q } (L2.start N vs) H := by
  obtain ⟨A, F, os, Qd, xd, l, w, ndF, fa, al, m, hq, hx⟩ := h
  have lo : vs.length = os.length := by simpa using w.len
  have k : Ok K ⟨A, F, H⟩ (L2.start N vs) (os ++ List.replicate (N.length - os.length) .un) H := by
    refine ⟨⟨F, ?_, ndF, fun p hp => .inl hp⟩, .refl H, al, fa⟩
    have := w.app (OwA.uns (H := H) (N.length - vs.length) (A ++ F))
    rw [List.append_nil, lo] at this
    unfold L2.start
    rw [lo]
    exact this
  refine ⟨⟨A, F, H⟩, [], [], _, _, rfl, k, m, ⟨fun e σ H' q k2 => ?_, fun o e v σ H' q k2 => ?_, fun e σ H' q k2 => q.elim, fun e σ H' q k2 => q.elim, fun σ c f d e v a H' q k2 ea => ?_⟩⟩
  · obtain ⟨ws, k3⟩ := Ok.sel nd (Ok.push (F := []) (v := .non) (d := .non) k2 fun _ => .non)
    exact hq _ _ _ ws _ q k3
  · obtain ⟨ws, k3⟩ := Ok.sel nd k2
    exact hq _ _ _ ws _ q k3
  · obtain ⟨ws, k3⟩ := Ok.sel nd k2
    exact hx _ _ _ _ _ _ ws _ q k3 ea
theorem spV_len {n : Nat} {m : VM} {vs : List V} {H : Hp} {Q : VK} {E : XK} (h : spV K n m vs H Q E) : vs.length = n := by
  obtain ⟨A, F, os, Qd, xd, l, _⟩ := h
  exact l
end
end Hd
namespace Hd
/-! ### the value layer: operators and built-ins -/
section
open PySem PySem.Spec PyProof.Rows L2
variable {K : PySem.W.Frag} {W : WX} {H H' : Hp} {Y : Fx} {vs tv : List (Option V)} {os to env : List O} {v : V} {d : D} {o : O} {σ : L2.St} {X : Cx} {A : List Addr}
/-- two flat values in hand -/
theorem Rp.int_inv {v : V} {i : Int} (r : Rp K A H v (.int i)) : v = .int i := by cases r; rfl
theorem Rp.str_inv {v : V} {i : Str} (r : Rp K A H v (.str i)) : v = .str i := by cases r; rfl
theorem Rp.bl_inv {v : V} {i : Bool} (r : Rp K A H v (.bl i)) : v = .bl i := by cases r; rfl
theorem Rp.non_inv {v : V} (r : Rp K A H v .non) : v = .non := by cases r; rfl
theorem Ok.two {x y : V} {d1 d2 : D} (k : Ok K Y (some y :: some x :: vs) (.sh d2 :: .sh d1 :: os) H) : ∃ A, Rp K A H x d1 ∧ Rp K A H y d2 := by
  obtain ⟨_, e, F, r2, w, _⟩ := k.top
  injection e with e; subst e
  cases w with
  | cons c _ =>
    cases c with
    | sh r1 => exact ⟨_, r1, r2⟩
theorem Ok.two' {x y : V} {d1 d2 : D} (k : Ok K Y (some y :: some x :: vs) (.sh d2 :: .sh d1 :: os) H) : ∃ A, Rp K A H x d1 ∧ Rp K A H y d2 ∧ ∀ {v d}, Rp K A H v d → Ok K Y (some v :: vs) (.sh d :: os) H := by
  obtain ⟨_, e, F, r2, w, nd, b⟩ := k.top
  injection e with e; subst e
  cases w with
  | @cons _ _ _ _ F1 F2 c t =>
    cases c with
    | sh r1 => exact ⟨_, r1, r2, fun {v d} r => ⟨⟨_, OwA.cons (F := []) (.sh r) t, nd, b⟩, k.st, k.al, k.ba⟩⟩
theorem Ok.one' {x : V} {d1 : D} (k : Ok K Y (some x :: vs) (.sh d1 :: os) H) : ∃ A, Rp K A H x d1 ∧ ∀ {v d}, Rp K A H v d → Ok K Y (some v :: vs) (.sh d :: os) H := by
  obtain ⟨_, e, F, r2, w, nd, b⟩ := k.top
  injection e with e; subst e
  exact ⟨_, r2, fun {v d} r => ⟨⟨_, OwA.cons (F := []) (.sh r) w, nd, b⟩, k.st, k.al, k.ba⟩⟩
theorem Ok.one {x : V} {d1 : D} (k : Ok K Y (some x :: vs) (.sh d1 :: os) H) : ∃ A, Rp K A H x d1 := by
  obtain ⟨_, e, F, r2, w, _⟩ := k.top
  injection e with e; subst e
  exact ⟨_, r2⟩
def gII (f : Int → Int → D) : G2 := fun a b Q => match a, b with
  | .int i, .int j => Q (.sh (f i j))
  | _, _ => False
def gIC (C : Int → Int → Prop) (f : Int → Int → D) : G2 := fun a b Q => match a, b with
  | .int i, .int j => C i j ∧ Q (.sh (f i j))
  | _, _ => False
theorem op_ii {f : Value → Value → Sem Value} {G : Int → Int → V} {g : Int → Int → D} (h : OpR X f (rI0 G)) (r : ∀ i j A H, Rp X.K A H (G i j) (g i j)) : OpR X f (rV X.K (gII g)) :=
  OpR.imp h fun x y H Q ⟨Y, vs, os, d1, d2, Qd, k, t, hq⟩ => by
    obtain ⟨A, r1, r2⟩ := k.two
    cases d1 <;> first | exact t.elim | skip
    cases d2 <;> first | exact t.elim | skip
    rename_i i j
    rw [r1.int_inv, r2.int_inv] at *
    exact ⟨i, j, rfl, rfl, hq _ _ _ t (k.pop.pop.push (F := []) fun A => r i j A H)⟩
theorem op_ic {f : Value → Value → Sem Value} {C : Int → Int → Prop} {G : Int → Int → V} {g : Int → Int → D} (h : OpR X f (rI C G)) (r : ∀ i j A H, Rp X.K A H (G i j) (g i j)) : OpR X f (rV X.K (gIC C g)) :=
  OpR.imp h fun x y H Q ⟨Y, vs, os, d1, d2, Qd, k, t, hq⟩ => by
    obtain ⟨A, r1, r2⟩ := k.two
    cases d1 <;> first | exact t.elim | skip
    cases d2 <;> first | exact t.elim | skip
    rename_i i j
    rw [r1.int_inv, r2.int_inv] at *
    exact ⟨i, j, rfl, rfl, t.1, hq _ _ _ t.2 (k.pop.pop.push (F := []) fun A => r i j A H)⟩
theorem o_add : OpR X (binaryOp .Add) (rV X.K (gII fun i j => .int (i + j))) := op_ii op_add fun _ _ _ _ => .int _
theorem o_sub : OpR X (binaryOp .Sub) (rV X.K (gII fun i j => .int (i - j))) := op_ii op_sub fun _ _ _ _ => .int _
theorem o_mul : OpR X (binaryOp .Mult) (rV X.K (gIC CMul fun i j => .int (i * j))) := op_ic op_mul fun _ _ _ _ => .int _
theorem o_mulW : OpR X (binaryOp .Mult) (rV X.K (gIC CMulW fun i j => .int (i * j))) := op_ic op_mulW fun _ _ _ _ => .int _
theorem o_mod : OpR X (binaryOp .Mod) (rV X.K (gIC (fun _ j => 0 < j) fun i j => .int (i % j))) := op_ic op_mod fun _ _ _ _ => .int _
theorem o_fdiv : OpR X (binaryOp .FloorDiv) (rV X.K (gIC CDivW fun i j => .int (i / j))) := op_ic op_fdivW fun _ _ _ _ => .int _
theorem o_lt : OpR X (compareOp .Lt) (rV X.K (gII fun i j => .bl (decide (i < j)))) := op_ii op_lt fun _ _ _ _ => .bl _
theorem o_le : OpR X (compareOp .LtE) (rV X.K (gII fun i j => .bl (decide (i ≤ j)))) := op_ii op_le fun _ _ _ _ => .bl _
theorem o_gt : OpR X (compareOp .Gt) (rV X.K (gII fun i j => .bl (decide (j < i)))) := op_ii op_gt fun _ _ _ _ => .bl _
theorem o_ge : OpR X (compareOp .GtE) (rV X.K (gII fun i j => .bl (decide (j ≤ i)))) := op_ii op_ge fun _ _ _ _ => .bl _
/-! ### == -/
mutual
def D.py : D → PyData
  | .non => .none
  | .bl b => .bool b
  | .int i => .int i
  | .str x => .str x
  | .lst ds => .list (pys ds)
  | .tup ds => .tuple (pys ds)
  | _ => .dict []
def pys : List D → List PyData
  | [] => []
  | d :: ds => d.py :: pys ds
end
theorem pys_map : ∀ ds : List D, pys ds = ds.map D.py
  | [] => rfl
  | d :: ds => by rw [pys, pys_map ds]; rfl
mutual
/-- nothing but numbers, texts, truths, None, lists, tuples -/
def D.plain : D → Bool
  | .lst ds => plains ds
  | .tup ds => plains ds
  | .dic _ _ => false
  | .set _ => false
  | .obj _ _ _ => false
  | .ref _ => false
  | .exc _ _ _ _ => false
  | _ => true
def plains : List D → Bool
  | [] => true
  | d :: ds => d.plain && plains ds
end
mutual
theorem Rp.dp : ∀ {d : D} {v : V}, d.plain = true → Rp K A H v d → Dp K H v d.py
  | .non, _, _, h => by cases h; exact .non
  | .bl b, _, _, h => by cases h; exact .bl b
  | .int i, _, _, h => by cases h; exact .int i
  | .str x, _, _, h => by cases h; exact .str x
  | .lst ds, _, f, h => by
    cases h with
    | lst q z t => exact .lst q.sq (RpA.dp f t)
  | .tup ds, _, f, h => by
    cases h with
    | tup q z t => exact .tup q.sq (RpA.dp f t)
  | .dic _ _, _, f, _ => by cases f
  | .set _, _, f, _ => by cases f
  | .obj _ _ _, _, f, _ => by cases f
  | .ref _, _, f, _ => by cases f
  | .exc _ _ _ _, _, f, _ => by cases f
theorem RpA.dp : ∀ {ds : List D} {vs : List V}, plains ds = true → RpA K A H vs ds → DpAll K H vs (pys ds)
  | [], _, _, h => by cases h; exact .nil
  | d :: ds, _, f, h => by
    obtain ⟨f1, f2⟩ := Bool.and_eq_true_iff.mp (show (d.plain && plains ds) = true from f)
    cases h with
    | cons q t => exact .cons (Rp.dp f1 q) (RpA.dp f2 t)
end
/-- Python's == of plain data -/
def eqD (a b : D) : Bool := PyData.eqv a.py b.py
def lay (d : D) : Bool := d.plain && SeqAt.shaped d.py
def flat4 : D → Bool
  | .non => true
  | .bl _ => true
  | .int _ => true
  | .str _ => true
  | _ => false
def sameK : D → D → Bool
  | .bl _, .int _ => false
  | .int _, .bl _ => false
  | _, _ => true
def eqOk (a b : D) : Bool := (flat4 a && flat4 b && sameK a b) || (lay a && lay b)
def gEq : G2 := fun a b Q => eqOk a b = true ∧ Q (.sh (.bl (eqD a b)))
def gNe : G2 := fun a b Q => eqOk a b = true ∧ Q (.sh (.bl (!eqD a b)))
theorem eqOk_flat {a b : D} {x y : V} (h : (flat4 a && flat4 b && sameK a b) = true) (r1 : Rp K A H x a) (r2 : Rp K A H y b) : scal x y = true ∧ decide (x = y) = eqD a b := by
  cases a <;> first | (cases h; done) | skip
  all_goals cases b <;> first | (cases h; done) | skip
  all_goals cases r1
  all_goals cases r2
  all_goals refine ⟨rfl, ?_⟩
  all_goals simp [eqD, D.py, PyData.eqv]
  all_goals rw [Bool.beq_eq_decide_eq]
theorem o_eq (hu : X.A.units + 64 < cLine) : OpR X (compareOp .Eq) (rV X.K gEq) :=
  OpR.imp (OpR.or op_eq (op_eqD hu)) fun x y H Q ⟨Y, vs, os, d1, d2, Qd, k, t, hq⟩ => by
    obtain ⟨A, r1, r2⟩ := k.two
    obtain ⟨h, t⟩ := t
    have fin := hq _ (.bl (eqD d1 d2)) H t (k.pop.pop.push (F := []) fun A => .bl _)
    rcases Bool.or_eq_true_iff.mp h with h | h
    · obtain ⟨s, e⟩ := eqOk_flat h r1 r2
      exact .inl ⟨s, by rw [e]; exact fin⟩
    · obtain ⟨h1, h2⟩ := Bool.and_eq_true_iff.mp h
      obtain ⟨a1, a2⟩ := Bool.and_eq_true_iff.mp h1
      obtain ⟨b1, b2⟩ := Bool.and_eq_true_iff.mp h2
      exact .inr ⟨_, _, r1.dp a1, r2.dp b1, a2, b2, fin⟩
theorem o_ne (hu : X.A.units + 64 < cLine) : OpR X (compareOp .NotEq) (rV X.K gNe) :=
  OpR.imp (OpR.or op_ne (op_neD hu)) fun x y H Q ⟨Y, vs, os, d1, d2, Qd, k, t, hq⟩ => by
    obtain ⟨A, r1, r2⟩ := k.two
    obtain ⟨h, t⟩ := t
    have fin := hq _ (.bl (!eqD d1 d2)) H t (k.pop.pop.push (F := []) fun A => .bl _)
    rcases Bool.or_eq_true_iff.mp h with h | h
    · obtain ⟨s, e⟩ := eqOk_flat h r1 r2
      exact .inl ⟨s, by rw [e]; exact fin⟩
    · obtain ⟨h1, h2⟩ := Bool.and_eq_true_iff.mp h
      obtain ⟨a1, a2⟩ := Bool.and_eq_true_iff.mp h1
      obtain ⟨b1, b2⟩ := Bool.and_eq_true_iff.mp h2
      exact .inr ⟨_, _, r1.dp a1, r2.dp b1, a2, b2, fin⟩
def isNonD : D → Bool
  | .non => true
  | _ => false
theorem Rp.isNon {x : V} {d : D} (r : Rp K A H x d) : decide (x = .non) = isNonD d := by cases r <;> simp [isNonD]
def gIsN : G2 := fun a b Q => match b with
  | .non => Q (.sh (.bl (isNonD a)))
  | _ => False
def gNotN : G2 := fun a b Q => match b with
  | .non => Q (.sh (.bl (!isNonD a)))
  | _ => False
theorem o_isN : OpR X (compareOp .Is) (rV X.K gIsN) := OpR.imp op_isN fun x y H Q ⟨Y, vs, os, d1, d2, Qd, k, t, hq⟩ => by
  obtain ⟨A, r1, r2⟩ := k.two
  cases d2 <;> first | exact t.elim | skip
  exact ⟨r2.non_inv, by rw [r1.isNon]; exact hq _ _ _ t (k.pop.pop.push (F := []) fun A => .bl _)⟩
theorem o_notN : OpR X (compareOp .IsNot) (rV X.K gNotN) := OpR.imp op_notN fun x y H Q ⟨Y, vs, os, d1, d2, Qd, k, t, hq⟩ => by
  obtain ⟨A, r1, r2⟩ := k.two
  cases d2 <;> first | exact t.elim | skip
  exact ⟨r2.non_inv, by rw [r1.isNon]; exact hq _ _ _ t (k.pop.pop.push (F := []) fun A => .bl _)⟩
/-! ### in -/
def inD (a : D) (ds : List D) : Bool := ds.any fun z => eqD z a
def flats (ds : List D) : Bool := ds.all flat4
theorem flat_rp {a : D} {x : V} (h : flat4 a = true) (r : Rp K A H x a) : L2.flatV x = true := by cases a <;> first | (cases h; done) | (cases r; rfl)
theorem flats_rp : ∀ {ds : List D} {xs : List V}, ds.all flat4 = true → RpA K A H xs ds → xs.all L2.flatV = true
  | [], _, _, h => by cases h; rfl
  | d :: ds, _, f, h => by
    obtain ⟨f1, f2⟩ := Bool.and_eq_true_iff.mp (show (flat4 d && ds.all flat4) = true from f)
    cases h with
    | cons r t =>
      rw [List.all_cons, flat_rp f1 r, flats_rp f2 t]; rfl
theorem eqV_rp {a b : D} {x y : V} (h1 : flat4 a = true) (h2 : flat4 b = true) (r1 : Rp K A H x a) (r2 : Rp K A H y b) : eqV x y = eqD a b := by
  cases a <;> first | (cases h1; done) | skip
  all_goals cases b <;> first | (cases h2; done) | skip
  all_goals cases r1
  all_goals cases r2
  all_goals simp [eqD, D.py, PyData.eqv, eqV]
theorem inV_rp {a : D} {x : V} (h : flat4 a = true) (r : Rp K A H x a) : ∀ {ds : List D} {xs : List V}, ds.all flat4 = true → RpA K A H xs ds → inV x xs = inD a ds
  | [], _, _, t => by cases t; rfl
  | d :: ds, _, f, t => by
    obtain ⟨f1, f2⟩ := Bool.and_eq_true_iff.mp (show (flat4 d && ds.all flat4) = true from f)
    cases t with
    | cons q t =>
      have e := inV_rp h r f2 t
      unfold inV inD at e ⊢
      rw [List.any_cons, List.any_cons, e, eqV_rp f1 h q r]
def gIn (neg : Bool) : G2 := fun a b Q => match b with
  | .lst ds => ((flat4 a && flats ds) || (lay a && lay (.lst ds))) = true ∧ Q (.sh (.bl (if neg then !inD a ds else inD a ds)))
  | .tup ds => (flat4 a && flats ds) = true ∧ Q (.sh (.bl (if neg then !inD a ds else inD a ds)))
  | _ => False
theorem o_inG {op : CmpOp} {neg : Bool} {rD : R2} (h1 : OpR X (compareOp op) (rIn X.K neg)) (h2 : OpR X (compareOp op) rD)
    (hD : ∀ x y H Q d ds, Dp X.K H x d → Dp X.K H y (.list ds) → SeqAt.shaped d = true → SeqAt.shaped (.list ds) = true → Q (.bl (if neg then !(ds.any fun z => PyData.eqv z d) else ds.any fun z => PyData.eqv z d)) H → rD x y H Q) : OpR X (compareOp op) (rV X.K (gIn neg)) :=
  OpR.imp (OpR.or h1 h2) fun x y H Q ⟨Y, vs, os, d1, d2, Qd, k, t, hq⟩ => by
    obtain ⟨A, r1, r2⟩ := k.two
    cases d2 <;> first | exact t.elim | skip
    · rename_i ds
      obtain ⟨h, t⟩ := t
      have fin := hq _ (.bl (if neg then !inD d1 ds else inD d1 ds)) H t (k.pop.pop.push (F := []) fun A => .bl _)
      cases r2 with
      | @lst a xs _ q z ra =>
        rcases Bool.or_eq_true_iff.mp h with h | h
        · obtain ⟨f1, f2⟩ := Bool.and_eq_true_iff.mp h
          refine .inl ⟨a, xs, rfl, .inl (q.sq), flat_rp f1 r1, flats_rp f2 ra, ?_⟩
          rw [inV_rp f1 r1 f2 ra]
          exact fin
        · obtain ⟨f1, f2⟩ := Bool.and_eq_true_iff.mp h
          obtain ⟨a1, a2⟩ := Bool.and_eq_true_iff.mp f1
          obtain ⟨b1, b2⟩ := Bool.and_eq_true_iff.mp f2
          refine .inr (hD _ _ _ _ _ _ (r1.dp a1) ((Rp.lst q z ra).dp b1) a2 b2 ?_)
          have e : (pys ds).any (fun z => PyData.eqv z d1.py) = inD d1 ds := by
            rw [pys_map, List.any_map]; rfl
          rw [e]
          exact fin
    · rename_i ds
      obtain ⟨h, t⟩ := t
      obtain ⟨f1, f2⟩ := Bool.and_eq_true_iff.mp h
      have fin := hq _ (.bl (if neg then !inD d1 ds else inD d1 ds)) H t (k.pop.pop.push (F := []) fun A => .bl _)
      cases r2 with
      | @tup a xs _ q z ra =>
        refine .inl ⟨a, xs, rfl, .inr q.sq, flat_rp f1 r1, flats_rp f2 ra, ?_⟩
        rw [inV_rp f1 r1 f2 ra]
        exact fin
theorem o_in (hu : X.A.units + 65 < cLine) : OpR X (compareOp .In) (rV X.K (gIn false)) := o_inG op_in_seq (op_inD hu) fun x y H Q d ds h1 h2 h3 h4 q => ⟨d, ds, h1, h2, h3, h4, q⟩
theorem o_notIn (hu : X.A.units + 65 < cLine) : OpR X (compareOp .NotIn) (rV X.K (gIn true)) := o_inG op_notIn_seq (op_notInD hu) fun x y H Q d ds h1 h2 h3 h4 q => ⟨d, ds, h1, h2, h3, h4, q⟩
/-- a sign in a text -/
def gInS (neg : Bool) : G2 := fun a b Q => match a, b with
  | .str c, .str z => ∃ n, c = ⟨#[n]⟩ ∧ Q (.sh (.bl (if neg then !decide (n ∈ z.cps.toList) else decide (n ∈ z.cps.toList))))
  | _, _ => False
theorem o_inS : OpR X (compareOp .In) (rV X.K (gInS false)) := OpR.imp op_in_sign fun x y H Q ⟨Y, vs, os, d1, d2, Qd, k, t, hq⟩ => by
  obtain ⟨A, r1, r2⟩ := k.two
  cases d1 <;> first | exact t.elim | skip
  cases d2 <;> first | exact t.elim | skip
  obtain ⟨n, e, t⟩ := t
  subst e
  exact ⟨n, _, r1.str_inv, r2.str_inv, hq _ _ _ t (k.pop.pop.push (F := []) fun A => .bl _)⟩
theorem o_notInS : OpR X (compareOp .NotIn) (rV X.K (gInS true)) := OpR.imp op_notIn_sign fun x y H Q ⟨Y, vs, os, d1, d2, Qd, k, t, hq⟩ => by
  obtain ⟨A, r1, r2⟩ := k.two
  cases d1 <;> first | exact t.elim | skip
  cases d2 <;> first | exact t.elim | skip
  obtain ⟨n, e, t⟩ := t
  subst e
  exact ⟨n, _, r1.str_inv, r2.str_inv, hq _ _ _ t (k.pop.pop.push (F := []) fun A => .bl _)⟩
/-! ### texts, lists, tuples put together -/
def gAddS : G2 := fun a b Q => match a, b with
  | .str i, .str j => i.length + j.length ≤ sizeLine ∧ Q (.sh (.str (i ++ j)))
  | _, _ => False
theorem o_addS : OpR X (binaryOp .Add) (rV X.K gAddS) := OpR.imp op_add_str fun x y H Q ⟨Y, vs, os, d1, d2, Qd, k, t, hq⟩ => by
  obtain ⟨A, r1, r2⟩ := k.two
  cases d1 <;> first | exact t.elim | skip
  cases d2 <;> first | exact t.elim | skip
  exact ⟨_, _, r1.str_inv, r2.str_inv, t.1, hq _ _ _ t.2 (k.pop.pop.push (F := []) fun A => .str _)⟩
theorem Ok.mono {H' : Hp} (k : Ok K Y vs os H) (s : ∀ A, Stp A H H') : Ok K Y vs os H' := by
  obtain ⟨F, w, nd, b⟩ := k.ex
  exact ⟨⟨F, w.mono (s []) (by simp) (by simp), nd, b⟩, k.st.trans (s _), k.al, k.ba⟩
/-- a shared value, known outside what we own -/
theorem Ok.pushR (k : Ok K Y vs os H) (h : ∀ F, OwA K (Y.A ++ F) H vs os F → Rp K (Y.A ++ F) H v d) : Ok K Y (some v :: vs) (.sh d :: os) H := by
  obtain ⟨F, q, nd, b⟩ := k.ex
  exact ⟨⟨F, .cons (F := []) (.sh (h _ q)) q, nd, b⟩, k.st, k.al, k.ba⟩
def gCatL : G2 := fun a b Q => match a, b with
  | .lst xs, .lst ys => xs.length + ys.length ≤ sizeLine ∧ ∀ p, Q (.ol p (xs ++ ys))
  | _, _ => False
theorem o_catL : OpR X (binaryOp .Add) (rV X.K gCatL) := OpR.imp op_catN fun x y H Q ⟨Y, vs, os, d1, d2, Qd, k, t, hq⟩ => by
  cases d1 <;> first | exact t.elim | skip
  cases d2 <;> first | exact t.elim | skip
  rename_i xs ys
  obtain ⟨b, zs, e1, rb, z1, l1, k1⟩ := k.lst_open
  have k2 : Ok X.K Y (some x :: (zs.map some ++ vs)) (.sh (.lst xs) :: (ys.map O.sh ++ os)) H := Ok.rot (xs := zs.map some) (ys := ys.map O.sh) (by simp [l1]) k1
  obtain ⟨a, ws, e2, ra, z2, l2, k3⟩ := k2.lst_open
  injection e1 with e1; subst e1
  injection e2 with e2; subst e2
  refine ⟨a, b, ws, zs, rfl, rfl, ra, rb, by rw [l2, l1]; exact t.1, fun p H' n => hq _ _ _ (t.2 p) ?_⟩
  refine Ok.lst (xs := ws ++ zs) (ds := xs ++ ys) ?_ (by simp [l1, l2]) (by rw [List.length_append, l1, l2]; exact t.1) n
  simpa using k3
def gCatT : G2 := fun a b Q => match a, b with
  | .tup xs, .tup ys => xs.length + ys.length ≤ sizeLine ∧ mixed xs = false ∧ mixed ys = false ∧ Q (.sh (.tup (xs ++ ys)))
  | _, _ => False
/-! ### subscripts -/
def gIx : G2 := fun a b Q => match a, b with
  | .lst xs, .int i => (match atI xs i with
    | some d => Q (.sh d)
    | none => False)
  | .tup xs, .int i => (match atI xs i with
    | some d => Q (.sh d)
    | none => False)
  | .str z, .int i => (match atI z.cps.toList i with
    | some c => z.length ≤ sizeLine ∧ Q (.sh (.str ⟨#[c]⟩))
    | none => False)
  | _, _ => False
theorem RpA.atI {xs : List V} {ds : List D} {i : Int} {d : D} (r : RpA K A H xs ds) (h : L2.atI ds i = some d) : ∃ v, L2.atI xs i = some v ∧ Rp K A H v d := by
  unfold L2.atI at h ⊢
  rw [r.len]
  cases e : ixN ds.length i with
  | none => rw [e] at h; cases h
  | some j =>
    rw [e] at h
    obtain ⟨v, h1, h2⟩ := r.getD (show ds[j]? = some d from h)
    exact ⟨v, h1, h2⟩
theorem o_ix : IxR X (rV X.K gIx) := by
  intro value slice pins s σ H x y v u Q I rx ry ⟨Y, vs, os, d1, d2, Qd, k, t, hq⟩ hs
  cases d2 <;> first | (cases d1 <;> exact t.elim) | skip
  rename_i i
  obtain ⟨A, r1, r2, up⟩ := k.two'
  have ey := r2.int_inv
  subst ey
  cases d1 <;> first | exact t.elim | skip
  · rename_i z
    have ex := r1.str_inv
    subst ex
    simp only [gIx] at t
    split at t
    · rename_i c e
      exact ix_str value slice pins s σ H _ _ v u Q I rx ry ⟨z, i, c, rfl, rfl, t.1, e, hq _ _ _ t.2 (up (.str _))⟩ hs
    · exact t.elim
  · rename_i ds
    simp only [gIx] at t
    split at t
    · rename_i d e
      cases r1 with
      | @lst a xs _ q z ra =>
        obtain ⟨z, e1, rz⟩ := ra.atI e
        exact ix_list value slice pins s σ H _ _ v u Q I rx ry ⟨a, xs, i, z, rfl, rfl, q.sq, e1, hq _ _ _ t (up rz)⟩ hs
    · exact t.elim
  · rename_i ds
    simp only [gIx] at t
    split at t
    · rename_i d e
      cases r1 with
      | @tup a xs _ q z ra =>
        obtain ⟨z, e1, rz⟩ := ra.atI e
        exact ix_tup value slice pins s σ H _ _ v u Q I rx ry ⟨a, xs, i, z, rfl, rfl, q.sq, e1, hq _ _ _ t (up rz)⟩ hs
    · exact t.elim
/-! ### slices -/
def vPNone : VTA := fun env Q _ => Q [] env
def cutL {α : Type} (xs : List α) (lo hi : Option Int) : List α := (xs.drop (HT.sIx xs.length 0 lo)).take (HT.sIx xs.length xs.length hi - HT.sIx xs.length 0 lo)
theorem RpA.cut {xs : List V} {ds : List D} {lo hi : Option Int} (r : RpA K A H xs ds) : RpA K A H (cutV xs lo hi) (cutL ds lo hi) := by
  unfold cutV cutL
  rw [r.len]
  exact (r.drop _).take _
/-! ### built-ins by name -/
abbrev GC := List D → (O → Prop) → Prop
def rC (K : PySem.W.Frag) (g : GC) : List V → Hp → VK → Prop := fun xs H Q => ∃ Y vs os ds Qd, xs.length = ds.length ∧ Ok K Y (xs.map some ++ vs) (ds.map O.sh ++ os) H ∧ g ds Qd ∧ ∀ o v H', Qd o → Ok K Y (some v :: vs) (o :: os) H' → Q v H'
def vFn (g : GC) (ta : VTA) : VT := fun env Q x => ta env (fun ds e => g ds fun o => Q o e) x
theorem fn_lift {g : GC} {n : Nat} {ta : VTA} {Q : VK} (h : lE K W (vFn g ta) σ H Q) : tCB (rC K g) (lA K W n ta) σ H Q := by
  obtain ⟨Y, tv, to, env, Qd, xd, l, k, t, hq, hx⟩ := h
  exact ⟨Y, tv, to, env, _, xd, l, k, t, fun ds e vs H1 q l1 l2 k1 => ⟨Y, tv ++ σ, to ++ e, ds, _, by omega, k1, q, fun o v H' q k2 => hq _ _ _ _ q k2⟩, hx⟩
section
variable {e : Expr} {es : List Expr} {x : Str} {p pos : Pos} {n : Nat} {g : GC} {ta : VTA} {id T : String}
theorem ve_fnB (hc : CallR X (.builtin id) (rC X.K g)) (hg : Gl X x) (hm : X.mg x = none) (hv : bootBuiltins x = some (.builtin id)) (ha : VA X W (e :: es) n ta) (hn : x ≠ "__name__" := by decide) (hdb : (x == ("__debug__" : Str)) = false := by decide)
    (he : starEach (e :: es) X.env = (false, eval e X.env) :: starEach es X.env := by rfl) (hpl : (backTo pos (starEach es X.env)).any (·.1) = false := by rfl) : VE X W (.Call (.Name x p) (e :: es) [] pos) (vFn g ta) := PE.imp (pe_callB hc hg hm hv ha hn hdb he hpl) fun _ _ _ h => fn_lift h
theorem ve_fnT (hc : CallR X (.type T) (rC X.K g)) (hg : Gl X x) (hm : X.mg x = none) (hv : bootBuiltins x = some (.type T)) (ha : VA X W (e :: es) n ta) (hn : x ≠ "__name__" := by decide) (hdb : (x == ("__debug__" : Str)) = false := by decide)
    (he : starEach (e :: es) X.env = (false, eval e X.env) :: starEach es X.env := by rfl) (hpl : (backTo pos (starEach es X.env)).any (·.1) = false := by rfl) : VE X W (.Call (.Name x p) (e :: es) [] pos) (vFn g ta) := PE.imp (pe_callTy hc hg hm hv ha hn hdb he hpl) fun _ _ _ h => fn_lift h
end
theorem CallR.or {f : Value} {r r' : List V → Hp → VK → Prop} (h : CallR X f r) (h' : CallR X f r') : CallR X f (fun x H Q => r x H Q ∨ r' x H Q) := fun pins s σ H x u Q I a q => by
  rcases q with q | q
  · exact h pins s σ H x u Q I a q
  · exact h' pins s σ H x u Q I a q
/-- one argument -/
theorem rC1 {g : GC} {r : List V → Hp → VK → Prop} {f : Value} (hr : CallR X f r) (hl : ∀ ds Qd, g ds Qd → ∃ d, ds = [d])
    (h : ∀ (x : V) (d : D) (H : Hp) (Q : VK) (Y : Fx) (vs : List (Option V)) (os : List O) (Qd : O → Prop), Ok X.K Y (some x :: vs) (.sh d :: os) H → g [d] Qd → (∀ o v H', Qd o → Ok X.K Y (some v :: vs) (o :: os) H' → Q v H') → r [x] H Q) : CallR X f (rC X.K g) :=
  CallR.imp hr fun xs H Q ⟨Y, vs, os, ds, Qd, l, k, t, hq⟩ => by
    obtain ⟨d, rfl⟩ := hl _ _ t
    match xs, l with
    | [x], _ => exact h x d H Q Y vs os Qd k t hq
def gLen : GC := fun ds Q => match ds with
  | [.lst xs] => Q (.sh (.int xs.length))
  | [.tup xs] => Q (.sh (.int xs.length))
  | [.str z] => z.length ≤ sizeLine ∧ Q (.sh (.int z.length))
  | _ => False
theorem one_of {g : GC} {P : D → (O → Prop) → Prop} (h : ∀ ds Q, g ds Q → match ds with | [d] => P d Q | _ => False) : ∀ ds Q, g ds Q → ∃ d, ds = [d] := fun ds Q q => by
  have := h ds Q q
  match ds, this with
  | [d], _ => exact ⟨d, rfl⟩
theorem c_len : CallR X (.builtin "len") (rC X.K gLen) := rC1 (CallR.or call_len_seq call_len_str) (fun ds Q h => by
    unfold gLen at h
    split at h <;> first | exact ⟨_, rfl⟩ | exact h.elim) fun x d H Q Y vs os Qd k t hq => by
  obtain ⟨A, r, up⟩ := k.one'
  cases d <;> first | exact t.elim | skip
  · have e := r.str_inv
    subst e
    exact .inr ⟨_, rfl, t.1, hq _ _ _ t.2 (up (.int _))⟩
  · cases r with
    | @lst a xs _ q z ra => exact .inl ⟨a, xs, rfl, .inl (q.sq), by rw [ra.len]; exact hq _ _ _ t (up (.int _))⟩
  · cases r with
    | @tup a xs _ q z ra => exact .inl ⟨a, xs, rfl, .inr q.sq, by rw [ra.len]; exact hq _ _ _ t (up (.int _))⟩
def gStr : GC := fun ds Q => match ds with
  | [.int i] => i.natAbs.log2 < 1920 ∧ Q (.sh (.str (toString i)))
  | _ => False
theorem c_str : CallR X (.type "str") (rC X.K gStr) := rC1 call_str_int (fun ds Q h => by
    unfold gStr at h
    split at h <;> first | exact ⟨_, rfl⟩ | exact h.elim) fun x d H Q Y vs os Qd k t hq => by
  obtain ⟨A, r, up⟩ := k.one'
  cases d <;> first | exact t.elim | skip
  have e := r.int_inv
  subst e
  exact ⟨_, rfl, t.1, hq _ _ _ t.2 (up (.str _))⟩
def gInt : GC := fun ds Q => match ds with
  | [.int i] => Q (.sh (.int i))
  | [.bl b] => Q (.sh (.int (if b then 1 else 0)))
  | _ => False
theorem c_int : CallR X (.type "int") (rC X.K gInt) := rC1 call_int1 (fun ds Q h => by
    unfold gInt at h
    split at h <;> first | exact ⟨_, rfl⟩ | exact h.elim) fun x d H Q Y vs os Qd k t hq => by
  obtain ⟨A, r, up⟩ := k.one'
  cases d <;> first | exact t.elim | skip
  · have e := r.bl_inv
    subst e
    exact .inr ⟨_, rfl, hq _ _ _ t (up (.int _))⟩
  · have e := r.int_inv
    subst e
    exact .inl ⟨_, rfl, hq _ _ _ t (up (.int _))⟩
def gList : GC := fun ds Q => match ds with
  | [.lst xs] => ∀ p, Q (.ol p xs)
  | [.tup xs] => ∀ p, Q (.ol p xs)
  | _ => False
theorem c_list : CallR X (.type "list") (rC X.K gList) := rC1 call_listN (fun ds Q h => by
    unfold gList at h
    split at h <;> first | exact ⟨_, rfl⟩ | exact h.elim) fun x d H Q Y vs os Qd k t hq => by
  cases d <;> first | exact t.elim | skip
  · obtain ⟨a, xs, e, q, z, l, k2⟩ := k.lst_open
    injection e with e; subst e
    exact ⟨a, xs, rfl, .inl q, fun p H' n => hq _ _ _ (t p) (k2.lst l z n)⟩
  · obtain ⟨a, xs, e, q, z, l, k2⟩ := k.tup_open
    injection e with e; subst e
    exact ⟨a, xs, rfl, .inr q, fun p H' n => hq _ _ _ (t p) (k2.lst l z n)⟩
def gSum : GC := fun ds Q => match ds with
  | [.lst xs] => ∃ ns : List Int, xs = ns.map D.int ∧ Q (.sh (.int ns.sum))
  | _ => False
theorem RpA.ints {xs : List V} : ∀ {ns : List Int} {xs : List V}, RpA K A H xs (ns.map D.int) → xs = ns.map V.int
  | [], _, h => by cases h; rfl
  | n :: ns, _, h => by
    cases h with
    | cons r t => rw [r.int_inv, RpA.ints (xs := xs) t]; rfl
theorem RpA.bls {xs : List V} : ∀ {ns : List Bool} {xs : List V}, RpA K A H xs (ns.map D.bl) → xs = ns.map V.bl
  | [], _, h => by cases h; rfl
  | n :: ns, _, h => by
    cases h with
    | cons r t => rw [r.bl_inv, RpA.bls (xs := xs) t]; rfl
theorem c_sum (hc : X.calm = true) : CallR X (.builtin "sum") (rC X.K gSum) := rC1 (cr_sum hc) (fun ds Q h => by
    unfold gSum at h
    split at h <;> first | exact ⟨_, rfl⟩ | exact h.elim) fun x d H Q Y vs os Qd k t hq => by
  obtain ⟨A, r, up⟩ := k.one'
  cases d <;> first | exact t.elim | skip
  obtain ⟨ns, rfl, t⟩ := t
  cases r with
  | @lst a xs _ q z ra =>
    have e := RpA.ints (xs := []) ra
    subst e
    exact ⟨a, ns, rfl, q.sq, hq _ _ _ t (up (.int _))⟩
def gAll (any : Bool) : GC := fun ds Q => match ds with
  | [.lst xs] => ∃ bs : List Bool, xs = bs.map D.bl ∧ Q (.sh (.bl (if any then bs.any id else bs.all id)))
  | _ => False
theorem c_all (hc : X.calm = true) : CallR X (.builtin "all") (rC X.K (gAll false)) := rC1 (cr_all hc) (fun ds Q h => by
    unfold gAll at h
    split at h <;> first | exact ⟨_, rfl⟩ | exact h.elim) fun x d H Q Y vs os Qd k t hq => by
  obtain ⟨A, r, up⟩ := k.one'
  cases d <;> first | exact t.elim | skip
  obtain ⟨ns, rfl, t⟩ := t
  cases r with
  | @lst a xs _ q z ra =>
    have e := RpA.bls (xs := []) ra
    subst e
    exact ⟨a, ns, rfl, q.sq, hq _ _ _ t (up (.bl _))⟩
theorem c_any (hc : X.calm = true) : CallR X (.builtin "any") (rC X.K (gAll true)) := rC1 (cr_any hc) (fun ds Q h => by
    unfold gAll at h
    split at h <;> first | exact ⟨_, rfl⟩ | exact h.elim) fun x d H Q Y vs os Qd k t hq => by
  obtain ⟨A, r, up⟩ := k.one'
  cases d <;> first | exact t.elim | skip
  obtain ⟨ns, rfl, t⟩ := t
  cases r with
  | @lst a xs _ q z ra =>
    have e := RpA.bls (xs := []) ra
    subst e
    exact ⟨a, ns, rfl, q.sq, hq _ _ _ t (up (.bl _))⟩
def gMax2 (mx : Bool) : GC := fun ds Q => match ds with
  | [.int i, .int j] => Q (.sh (.int (if mx then (if j > i then j else i) else (if j < i then j else i))))
  | _ => False
theorem c_max2 (hc : X.calm = true) : CallR X (.builtin "max") (rC X.K (gMax2 true)) := CallR.imp (call_max2 hc) fun xs H Q ⟨Y, vs, os, ds, Qd, l, k, t, hq⟩ => by
  unfold gMax2 at t
  split at t
  · match xs, l with
    | [x, y], _ =>
      have k2 : Ok X.K Y (some x :: some y :: vs) (.sh (.int _) :: .sh (.int _) :: os) H := k
      obtain ⟨A, r1, r2, up⟩ := k2.two'
      rw [r1.int_inv, r2.int_inv]
      exact ⟨_, _, rfl, hq _ _ _ t (up (.int _))⟩
  · exact t.elim
theorem c_min2 (hc : X.calm = true) : CallR X (.builtin "min") (rC X.K (gMax2 false)) := CallR.imp (call_min2 hc) fun xs H Q ⟨Y, vs, os, ds, Qd, l, k, t, hq⟩ => by
  unfold gMax2 at t
  split at t
  · match xs, l with
    | [x, y], _ =>
      have k2 : Ok X.K Y (some x :: some y :: vs) (.sh (.int _) :: .sh (.int _) :: os) H := k
      obtain ⟨A, r1, r2, up⟩ := k2.two'
      rw [r1.int_inv, r2.int_inv]
      exact ⟨_, _, rfl, hq _ _ _ t (up (.int _))⟩
  · exact t.elim
def gMaxL (mx : Bool) : GC := fun ds Q => match ds with
  | [.lst xs] => ∃ ns : List Int, xs = ns.map D.int ∧ 0 < ns.length ∧ ∀ m, m ∈ ns → (∀ y ∈ ns, if mx then y ≤ m else m ≤ y) → Q (.sh (.int m))
  | _ => False
theorem c_maxL (hc : X.calm = true) : CallR X (.builtin "max") (rC X.K (gMaxL true)) := rC1 (cr_max hc) (fun ds Q h => by
    unfold gMaxL at h
    split at h <;> first | exact ⟨_, rfl⟩ | exact h.elim) fun x d H Q Y vs os Qd k t hq => by
  obtain ⟨A, r, up⟩ := k.one'
  cases d <;> first | exact t.elim | skip
  obtain ⟨ns, rfl, l0, t⟩ := t
  cases r with
  | @lst a xs _ q z ra =>
    have e := RpA.ints (xs := []) ra
    subst e
    exact ⟨a, ns, rfl, q.sq, l0, fun m hm h => hq _ _ _ (t m hm h) (up (.int _))⟩
theorem c_minL (hc : X.calm = true) : CallR X (.builtin "min") (rC X.K (gMaxL false)) := rC1 (cr_min hc) (fun ds Q h => by
    unfold gMaxL at h
    split at h <;> first | exact ⟨_, rfl⟩ | exact h.elim) fun x d H Q Y vs os Qd k t hq => by
  obtain ⟨A, r, up⟩ := k.one'
  cases d <;> first | exact t.elim | skip
  obtain ⟨ns, rfl, l0, t⟩ := t
  cases r with
  | @lst a xs _ q z ra =>
    have e := RpA.ints (xs := []) ra
    subst e
    exact ⟨a, ns, rfl, q.sq, l0, fun m hm h => hq _ _ _ (t m hm h) (up (.int _))⟩
end
end Hd
namespace Hd
/-! ### the value layer: chains, slices, kinds, fields, methods, walks, comprehensions, owned lists -/
section
open PySem PySem.Spec PyProof.Rows L2
variable {K : PySem.W.Frag} {W : WX} {H H' : Hp} {Y : Fx} {vs tv : List (Option V)} {os to env : List O} {v : V} {d : D} {o : O} {σ : L2.St} {X : Cx} {A : List Addr}
/-! ### a < b < c -/
section
variable {a b c : Expr} {ta tb tc : VT} {pos : Pos} {g g' : G2}
/-- the first comparison tells a truth and leaves b in hand -/
def gTru (g : G2) (a b : D) (Q : Bool → Prop) : Prop := g a b fun o => match o with
  | .sh (.bl k) => Q k
  | _ => False
def vChain (g g' : G2) (ta tb tc : VT) : VT := fun env Q x => ta env (fun o1 e1 => o1.fz fun d1 => tb e1 (fun o2 e2 => o2.fz fun d2 => gTru g d1 d2 fun k =>
  if k = true then tc e2 (fun o3 e3 => o3.fz fun d3 => g' d2 d3 fun o => Q o e3) x else Q (.sh (.bl false)) e2) x) x
/-- y stays in hand: the comparison changes nothing -/
def rVk (K : PySem.W.Frag) (g : G2) : R2 := fun x y H Q => ∃ Y vs os d1 d2 Qd, Ok K Y (some y :: some x :: vs) (.sh d2 :: .sh d1 :: os) H ∧ gTru g d1 d2 Qd ∧ ∀ k H', Qd k → Ok K Y (some y :: vs) (.sh d2 :: os) H' → Q (.bl k) H'
theorem chain_lift (h : lE K W (vChain g g' ta tb tc) σ H Q) : tChain (rVk K g) (rV K g') (lE K W ta) (lE K W tb) (lE K W tc) σ H Q := by
  obtain ⟨Y, tv, to, env, Qd, xd, l, k, t, hq, hx⟩ := h
  refine ⟨Y, tv, to, env, _, xd, l, k, t, fun o1 e1 v1 H1 h1 k1 => ?_, hx⟩
  obtain ⟨d1, t1, k1⟩ := k1.fz h1
  refine ⟨Y, some v1 :: tv, .sh d1 :: to, e1, _, xd, by simp [l], k1, t1, fun o2 e2 v2 H2 h2 k2 => ?_, hx.push⟩
  obtain ⟨d2, t2, k2⟩ := k2.fz h2
  refine ⟨Y, tv ++ σ, to ++ e2, d1, d2, _, k2, t2, fun b H3 q k3 => ⟨b, rfl, ?_⟩⟩
  cases b with
  | false => exact hq _ _ _ _ q (k3.pop.push (F := []) fun _ => .bl _)
  | true =>
    refine ⟨Y, some v2 :: tv, .sh d2 :: to, e2, _, xd, by simp [l], k3, q, fun o3 e3 v3 H4 h3 k4 => ?_, hx.push⟩
    obtain ⟨d3, t3, k4⟩ := k4.fz h3
    exact ⟨Y, tv ++ σ, to ++ e3, d2, d3, _, k4, t3, fun o v H' q k5 => hq o e3 v H' q k5⟩
/-- an int comparison keeps what is in hand -/
theorem op_iik {f : Value → Value → Sem Value} {G : Int → Int → Bool} (h : OpR X f (rI0 fun i j => .bl (G i j))) : OpR X f (rVk X.K (gII fun i j => .bl (G i j))) :=
  OpR.imp h fun x y H Q ⟨Y, vs, os, d1, d2, Qd, k, t, hq⟩ => by
    obtain ⟨A, r1, r2⟩ := k.two
    cases d1 <;> first | exact t.elim | skip
    cases d2 <;> first | exact t.elim | skip
    rename_i i j
    exact ⟨i, j, r1.int_inv, r2.int_inv, hq _ _ t (Ok.drop1 k)⟩
theorem k_lt : OpR X (compareOp .Lt) (rVk X.K (gII fun i j => .bl (decide (i < j)))) := op_iik op_lt
theorem k_le : OpR X (compareOp .LtE) (rVk X.K (gII fun i j => .bl (decide (i ≤ j)))) := op_iik op_le
theorem ve_chain {op op' : CmpOp} (ho : OpR X (compareOp op) (rVk X.K g)) (ho' : OpR X (compareOp op') (rV X.K g')) (ha : VE X W a ta) (hb : VE X W b tb) (hc : VE X W c tc)
    (hm : lastMarks [op, op'] [b, c] = false := by with_unfolding_all rfl) : VE X W (.Compare a [op, op'] [b, c] pos) (vChain g g' ta tb tc) := PE.imp (pe_chain ho ho' ha hb hc hm) fun _ _ _ h => chain_lift h
theorem vb_chain {op op' : CmpOp} (ho : OpR X (compareOp op) (rVk X.K g)) (ho' : OpR X (compareOp op') (rV X.K g')) (ha : VE X W a ta) (hb : VE X W b tb) (hc : VE X W c tc)
    (hm : lastMarks [op, op'] [b, c] = false := by with_unfolding_all rfl) : VB X W (.Compare a [op, op'] [b, c] pos) (vBl (vChain g g' ta tb tc)) :=
  PT.imp (pt_chain ho ho' ha hb hc hm) fun σ H Q h => chain_lift (Q := fun x H' => ∃ k, x = .bl k ∧ Q k H') (bl_lift h)
end
/-! ### slices -/
abbrev VTP := DE → (Option Int → DE → Prop) → XD → Prop
def lP (K : PySem.W.Frag) (W : WX) (t : VTP) : TO := fun σ H Q => ∃ Y tv to env Qd xd, tv.length = to.length ∧ Ok K Y (tv ++ σ) (to ++ env) H ∧ t env Qd xd ∧
  (∀ b env H', Qd b env → Ok K Y (tv ++ σ) (to ++ env) H' → Q b H') ∧ xOk K W Y tv to σ xd
def VP (X : Cx) (W : WX) (e : Option Expr) (t : VTP) : Prop := PO X e (lP X.K W t)
theorem PO.imp {e : Option Expr} {r r' : TO} (h : PO X e r) (i : ∀ σ H Q, r' σ H Q → r σ H Q) : PO X e r' := ⟨fun pins s σ H Q I q => h.run pins s σ H Q I (i σ H Q q)⟩
def vpNone : VTP := fun env Q _ => Q none env
def vpSome (t : VT) : VTP := fun env Q x => t env (fun o e => match o with
  | .sh (.int i) => Q (some i) e
  | _ => False) x
theorem vp_none : VP X W none vpNone := PO.imp po_none fun σ H Q ⟨Y, tv, to, env, Qd, xd, l, k, t, hq, hx⟩ => hq _ _ _ t k
theorem vp_some {e : Expr} {te : VT} (h : VE X W e te) : VP X W (some e) (vpSome te) := by
  refine PO.imp (po_some h) fun σ H Q ⟨Y, tv, to, env, Qd, xd, l, k, t, hq, hx⟩ => ?_
  refine ⟨Y, tv, to, env, _, xd, l, k, t, fun o e v H' q k' => ?_, hx⟩
  cases o with
  | sh d =>
    cases d with
    | int i =>
      obtain ⟨A, r⟩ := k'.one
      exact ⟨i, r.int_inv, hq _ _ _ q k'.pop⟩
    | _ => exact q.elim
  | _ => exact q.elim
abbrev GS := D → Option Int → Option Int → (O → Prop) → Prop
def rS (K : PySem.W.Frag) (g : GS) : V → Option Int → Option Int → Hp → VK → Prop := fun x lo hi H Q => ∃ Y vs os d Qd, Ok K Y (some x :: vs) (.sh d :: os) H ∧ g d lo hi Qd ∧ ∀ o v H', Qd o → Ok K Y (some v :: vs) (o :: os) H' → Q v H'
def vSl (g : GS) (te : VT) (tl th : VTP) : VT := fun env Q x => te env (fun o e => o.fz fun d => tl e (fun lo e1 => th e1 (fun hi e2 => g d lo hi fun o => Q o e2) x) x) x
theorem ve_slice {g : GS} {e : Expr} {lo hi : Option Expr} {te : VT} {tl th : VTP} {pos p2 : Pos} (hr : SlR X (rS X.K g)) (he : VE X W e te) (hl : VP X W lo tl) (hu : VP X W hi th) : VE X W (.Subscript e (.Slice lo hi none p2) pos) (vSl g te tl th) := by
  refine PE.imp (pe_slice hr he hl hu) fun σ H Q ⟨Y, tv, to, env, Qd, xd, l, k, t, hq, hx⟩ => ?_
  refine ⟨Y, tv, to, env, _, xd, l, k, t, fun o e v H' q k' => ?_, hx⟩
  obtain ⟨d, t, k'⟩ := k'.fz q
  refine ⟨Y, some v :: tv, .sh d :: to, e, _, xd, by simp [l], k', t, fun b e1 H1 q1 k1 => ?_, hx.push⟩
  refine ⟨Y, some v :: tv, .sh d :: to, e1, _, xd, by simp [l], k1, q1, fun b e2 H2 q2 k2 => ?_, hx.push⟩
  exact ⟨Y, tv ++ σ, to ++ e2, d, _, k2, q2, fun o v H' q k => hq _ _ _ _ q k⟩
def gSlL : GS := fun d lo hi Q => match d with
  | .lst xs => ∀ p, Q (.ol p (cutL xs lo hi))
  | _ => False
def gSlT : GS := fun d lo hi Q => match d with
  | .tup xs => mixed xs = true → True
  | _ => False
theorem cutL_len {α : Type} {xs : List α} {lo hi : Option Int} : (cutL xs lo hi).length ≤ xs.length := by
  unfold cutL
  rw [List.length_take, List.length_drop]; omega
theorem cutV_L {xs : List V} {lo hi : Option Int} : cutV xs lo hi = cutL xs lo hi := rfl
theorem s_list : SlR X (rS X.K gSlL) := SlR.imp sl_listN fun x lo hi H Q ⟨Y, vs, os, d, Qd, k, t, hq⟩ => by
  cases d <;> first | exact t.elim | skip
  rename_i ds
  obtain ⟨A, r, _⟩ := k.one'
  obtain ⟨a, xs, e, q, z, l, k2⟩ := k.lst_open
  injection e with e; subst e
  refine ⟨a, xs, rfl, q, fun p H' n => hq _ _ _ (t p) ?_⟩
  have al : ∀ F, OwA X.K (Y.A ++ F) H (xs.map some ++ vs) (ds.map O.sh ++ os) F → ∃ F2, F = F2 ∧ RpA X.K (Y.A ++ F) H xs ds ∧ OwA X.K (Y.A ++ F) H vs os F := fun F w => by
    obtain ⟨F1, F2, e, w1, w2⟩ := w.split (by simpa using l)
    obtain ⟨rfl, r⟩ := w1.all_sh
    subst e
    exact ⟨_, rfl, r, w2⟩
  obtain ⟨F, w, nd, b⟩ := k2.ex
  obtain ⟨_, _, ra, w2⟩ := al F w
  have k3 : Ok X.K Y ((cutV xs lo hi).map some ++ vs) ((cutL ds lo hi).map O.sh ++ os) H := by
    have al2 : ∀ {xs : List V} {ds : List D}, RpA X.K (Y.A ++ F) H xs ds → OwA X.K (Y.A ++ F) H (xs.map some) (ds.map O.sh) [] := by
      intro xs ds h
      induction xs generalizing ds with
      | nil => cases h; exact .nil
      | cons x xs ih =>
        cases h with
        | cons r t => exact OwA.cons (F := []) (G := []) (.sh r) (ih t)
    exact ⟨⟨F, (al2 ra.cut).app w2, nd, b⟩, k2.st, k2.al, k2.ba⟩
  exact k3.lst (by rw [cutV_L]; exact (by unfold cutL; simp [l])) (Nat.le_trans (by rw [cutV_L]; exact cutL_len) z) n
def gSlS : GS := fun d lo hi Q => match d with
  | .str z => z.length ≤ sizeLine ∧ Q (.sh (.str (cutS z lo hi)))
  | _ => False
theorem s_str : SlR X (rS X.K gSlS) := SlR.imp sl_str fun x lo hi H Q ⟨Y, vs, os, d, Qd, k, t, hq⟩ => by
  cases d <;> first | exact t.elim | skip
  obtain ⟨A, r, up⟩ := k.one'
  have e := r.str_inv
  subst e
  exact ⟨_, rfl, t.1, hq _ _ _ t.2 (up (.str _))⟩
/-! ### what kind a thing is -/
def D.kind : D → String
  | .non => "NoneType"
  | .bl _ => "bool"
  | .int _ => "int"
  | .str _ => "str"
  | .lst _ => "list"
  | .tup _ => "tuple"
  | .dic _ _ => "dict"
  | _ => ""
def isTD (T : String) : D → Bool
  | .non => false
  | .bl _ => T == "bool" || T == "int"
  | .int _ => T == "int"
  | .str _ => T == "str"
  | .lst _ => T == "list"
  | .tup _ => T == "tuple"
  | .dic _ _ => T == "dict"
  | _ => false
def known7 : D → Bool
  | .set _ => false
  | .obj _ _ _ => false
  | .ref _ => false
  | .exc _ _ _ _ => false
  | _ => true
theorem dic_ty {a : Addr} {kvs : List (Key × V)} (h : Rd H a (.dK kvs)) : TyX K H (.ref a) (.type "dict") := by
  rcases h with h | ⟨o, h⟩
  · exact .base (.dK h)
  · exact .fDict h
theorem Rp.ty (h : Rp K A H v d) (hk : known7 d = true) (hd : ∀ kvs, d = .dic true kvs → ∀ a kvs, Rd H a (.dT kvs) → v = .ref a → H a = some (.dT kvs)) : TyX K H v (.type d.kind) := by
  cases h with
  | non => exact .base .non
  | bl b => exact .base (.bl b)
  | int i => exact .base (.int i)
  | str x => exact .base (.str x)
  | lst q _ _ => exact sqL_ty q.sq
  | tup q _ _ => exact sqT_ty q.sq
  | dic q _ _ _ _ => exact dic_ty q
  | dicT q _ _ _ _ => exact .base (.dT (hd _ rfl _ _ q rfl))
  | obj _ _ _ _ => cases hk
  | ref _ => cases hk
  | exc _ _ _ => cases hk
theorem kit_isTD {T : String} (hT : T ∈ kinds6) (d : D) (hk : known7 d = true) : kitB d.kind T = some (isTD T d) := by
  have e : isK T d.kind = isTD T d := by
    have e : T = "int" ∨ T = "bool" ∨ T = "str" ∨ T = "list" ∨ T = "tuple" ∨ T = "dict" := by simpa [kinds6] using hT
    rcases e with rfl | rfl | rfl | rfl | rfl | rfl <;> cases d <;> first | (cases hk; done) | rfl
  rw [← e]
  exact kit_tab T hT _ (by cases d <;> first | (cases hk; done) | simp [D.kind])
def noTD : D → Bool
  | .dic t _ => !t
  | _ => true
/-- isinstance(x, T): T a built-in kind, x no dict with tuple keys that is locked -/
def vIs (T : String) (ta : VT) : VT := fun env Q x => ta env (fun o e => o.fz fun d => known7 d = true ∧ noTD d = true ∧ Q (.sh (.bl (isTD T d))) e) x
theorem ve_is {T : String} {e c : Expr} {ta : VT} {p pos : Pos} (hT : T ∈ kinds6) (hg : Gl X "isinstance") (hm : X.mg "isinstance" = none) (ha : VE X W e ta) (hc : PE X c (tC (.ty T)))
    (he : starEach [e, c] X.env = (false, eval e X.env) :: starEach [c] X.env := by rfl) (hs2 : starEach [c] X.env = (false, eval c X.env) :: starEach [] X.env := by rfl) (hpl : (backTo pos (starEach [c] X.env)).any (·.1) = false := by rfl) :
    VE X W (.Call (.Name "isinstance" p) [e, c] [] pos) (vIs T ta) := by
  refine PE.imp (pe_callB call_isi hg hm (by decide +kernel) (pa_cons ha (pa_cons hc pa_nil hs2) he) (by decide) (by decide) he hpl) fun σ H Q ⟨Y, tv, to, env, Qd, xd, l, k, t, hq, hx⟩ => ?_
  refine ⟨Y, tv, to, env, _, xd, l, k, t, fun o e v H' q k' => ?_, hx⟩
  obtain ⟨d, ⟨t1, t2, t3⟩, k'⟩ := k'.fz q
  obtain ⟨A, r, up⟩ := k'.one'
  refine ⟨v, .ty T, .type d.kind, .type T, isTD T d, rfl, .ty T, r.ty t1 (fun kvs e => by subst e; cases t2), kit_ty (kit_isTD hT d t1), hq _ _ _ _ t3 (up (.bl _))⟩
/-! ### fields and methods of shared things -/
def keysOf (fs : List (Str × D)) (f : Str) : Bool := (fs.map (·.1)).contains f
def vFld (c f : Str) (ta : VT) : VT := fun env Q x => ta env (fun o e => match o with
  | .sh (.obj _ c' fs) => c' = c ∧ (match fs.lookup f with
    | some d => Q (.sh d) e
    | none => False)
  | _ => False) x
theorem RpA.look {f : Str} : ∀ {es : List (Str × D)} {fs : List (Str × V)} {d : D}, RpA K A H (fs.map (·.2)) (es.map (·.2)) → es.map (·.1) = fs.map (·.1) → es.lookup f = some d → ∃ v, fs.lookup f = some v ∧ Rp K A H v d
  | [], _, _, _, _, h => by cases h
  | (g, d0) :: es, [], _, _, e, _ => by cases e
  | (g, d0) :: es, (g', v0) :: fs, d, r, e, h => by
    obtain ⟨e1, e2⟩ := List.cons.inj (show g :: es.map (·.1) = g' :: fs.map (·.1) from e)
    subst e1
    cases r with
    | cons r t =>
      rw [List.lookup_cons] at h ⊢
      cases q : f == g with
      | true =>
        rw [q] at h
        injection h with h
        subst h
        exact ⟨v0, rfl, r⟩
      | false =>
        rw [q] at h
        exact RpA.look t e2 h
theorem look_none {f : Str} : ∀ {es : List (Str × D)} {fs : List (Str × V)}, es.map (·.1) = fs.map (·.1) → es.lookup f = none → fs.lookup f = none
  | [], [], _, _ => rfl
  | [], _ :: _, e, _ => by cases e
  | _ :: _, [], e, _ => by cases e
  | (g, d0) :: es, (g', v0) :: fs, e, h => by
    obtain ⟨e1, e2⟩ := List.cons.inj (show g :: es.map (·.1) = g' :: fs.map (·.1) from e)
    subst e1
    rw [List.lookup_cons] at h ⊢
    cases q : f == g with
    | true => rw [q] at h; cases h
    | false =>
      rw [q] at h
      exact look_none e2 h
theorem ve_fld {c f : Str} {e : Expr} {ta : VT} {pos : Pos} (hcl : Cls X.K (He.ga X.K c)) (hna : NoAttr X.K (He.ga X.K c) f) (he : VE X W e ta) (hb : attributeBase e f X.env (eval e X.env) = eval e X.env) : VE X W (.Attribute e f pos) (vFld c f ta) := by
  refine PE.imp (pe_fld he hb) fun σ H Q ⟨Y, tv, to, env, Qd, xd, l, k, t, hq, hx⟩ => ?_
  refine ⟨Y, tv, to, env, _, xd, l, k, t, fun o e v H' q k' => ?_, hx⟩
  cases o with
  | sh d =>
    cases d with
    | obj a c' fs =>
      obtain ⟨rfl, q⟩ := q
      cases e1 : fs.lookup f with
      | none => rw [e1] at q; exact q.elim
      | some d =>
        rw [e1] at q
        obtain ⟨A, r, up⟩ := k'.one'
        cases r with
        | @obj _ _ dx gs _ h n ra ek =>
          obtain ⟨z, e2, rz⟩ := ra.look ek e1
          exact ⟨a, _, dx, gs, z, rfl, h, hcl, hna, e2, hq _ _ _ _ q (up rz)⟩
    | _ => exact q.elim
  | _ => exact q.elim
/-- o.m(..) of a shared thing -/
def vMet (c mn : Str) (m : VM) (ta : VT) (t : VTA) : VT := fun env Q x => ta env (fun o e => match o with
  | .sh (.obj a c' fs) => c' = c ∧ fs.lookup mn = none ∧ t e (fun ds e2 => m (.sh (.obj a c' fs) :: ds.map O.sh) (fun o _ => Q o e2) (fun c f d _ => x c f d e2)) x
  | _ => False) x
theorem met_lift {c mn : Str} {n : Nat} {m : VM} {ta : VT} {t : VTA} {Q : VK} (h : lE K W (vMet c mn m ta t) σ H Q) : tMetS (He.ga K c) mn (spV K (n + 1) m) (WE W) (lE K W ta) (lA K W n t) σ H Q := by
  obtain ⟨Y, tv, to, env, Qd, xd, l, k, t, hq, hx⟩ := h
  refine ⟨Y, tv, to, env, _, xd, l, k, t, fun o e v H' q k' => ?_, hx⟩
  cases o with
  | sh d =>
    cases d with
    | obj a c' fs =>
      obtain ⟨rfl, q1, q⟩ := q
      obtain ⟨A, r, up⟩ := k'.one'
      cases r with
      | @obj _ _ dx gs _ h n ra ek =>
        refine ⟨a, dx, gs, rfl, h, look_none ek q1, ?_⟩
        refine ⟨Y, some (.ref a) :: tv, .sh (.obj a c' fs) :: to, e, _, xd, by simp [l], k', q, fun ds e2 vs H2 q2 l1 l2 k2 => ?_, hx.push⟩
        have k3 : Ok K Y ((some (.ref a) :: vs.map some) ++ (tv ++ σ)) ((.sh (.obj a c' fs) :: ds.map O.sh) ++ (to ++ e2)) H2 := Ok.rot (xs := vs.map some) (ys := ds.map O.sh) (by simp [l1, l2]) k2
        obtain ⟨A, F, w, nd, fa, al, up⟩ := Ok.call (by simp [l1, l2]) k3
        refine ⟨A, F, _, _, _, by simp [l1], w, nd, fa, al, q2, fun o bk v ws H' q k2 => ?_, fun c f d bk v a ws H' q k2 ea => ?_⟩
        · have k3 := up k2
          exact hq _ _ _ _ q (Ok.dropn (xs := ws) (ys := bk) (Nat.succ.inj k2.len) (by simpa using k3))
        · have k3 := up k2
          exact hx _ _ _ _ _ _ _ q (Ok.dropn (xs := ws) (ys := bk) (Nat.succ.inj k2.len) (by simpa using k3)) ea
    | _ => exact q.elim
  | _ => exact q.elim
section
variable {e ob : Expr} {es : List Expr} {apos pos : Pos} {k n : Nat} {ps : List Str} {f : Addr} {c mn : Str} {m : VM} {ta : VT} {t : VTA}
theorem ve_met {pl : Sem Bool} (he : VE X W ob ta) (hcl : Cls X.K (He.ga X.K c)) (hm : Meth X.K (He.ga X.K c) mn f) (C : Cal X.prog X.w X.K X.mg X.base k f ps (spV X.K (n + 1) m)) (hr : Room k X.A) (hp : ∀ σ, PassesAt (L2.CX X.prog X.w) X σ (WE W σ)) (ha : VA X W (e :: es) n t)
    (hst : starEach (e :: es) X.env = (false, eval e X.env) :: starEach es X.env := by rfl) (hpl : (backTo pos (starEach es X.env)).any (·.1) = false := by rfl)
    (ht : eval (.Call (.Attribute ob mn apos) (e :: es) [] pos) X.env = (do
      let ov ← eval ob X.env
      standAt apos.atName
      let (f, first) ← holding [ov] (getMethod ov mn pl)
      callWith pos f first (backTo pos (starEach (e :: es) X.env)) (backToKw pos (keywordEach [] X.env))) := by rfl) :
    VE X W (.Call (.Attribute ob mn apos) (e :: es) [] pos) (vMet c mn m ta t) := PE.imp (pe_met he hcl hm C hr hp ha hst hpl ht) fun _ _ _ h => met_lift h
end
/-! ### walks -/
def vITup (te : VT) : VTA := fun env Q x => te env (fun o e => o.fz fun d => match d with
  | .tup ds => Q ds e
  | _ => False) x
def vILst (te : VT) : VTA := fun env Q x => te env (fun o e => o.fz fun d => match d with
  | .lst ds => Q ds e
  | _ => False) x
variable {tg : Expr}
theorem vi_list {l : Expr} {tl : VT} (hl : VE X W l tl) : VI X W tg l (vILst tl) := by
  refine PI.imp (pi_list hl) fun σ H R ⟨Y, tv, to, env, Qd, xd, l, k, t, hq, hx⟩ => ?_
  refine ⟨Y, tv, to, env, _, xd, l, k, t, fun o e v H' q k' => ?_, hx⟩
  obtain ⟨d, t, k'⟩ := k'.fz q
  cases d with
  | lst ds =>
    obtain ⟨A0, r0, _⟩ := k'.one'
    cases r0 with
    | @lst a xs _ q0 z0 ra0 =>
      refine ⟨a, rfl, ⟨xs, q0.sq⟩, hq ds e (Itl X.K a) [some (.ref a)] [.sh (.lst ds)] H' t rfl ⟨by rw [← ra0.len]; exact z0, ?_, ?_, ?_⟩ k'⟩
      · intro Y vs os H i k1 hi
        obtain ⟨A, r, _⟩ := k1.one'
        cases r with
        | @lst _ xs _ q z ra =>
          exact ⟨xs, xs[i]'(by rw [ra.len]; exact hi), q.sq, List.getElem?_eq_getElem _⟩
      · intro Y vs os H1 i x H d k1 hi hy
        obtain ⟨rfl, hy⟩ := hy
        have k2 : Ok X.K Y (some (.ref a) :: vs) (.sh (.lst ds) :: os) H := k1
        obtain ⟨v', ev, F, r, w, nd, b⟩ := k2.top
        injection ev with ev; subst ev
        cases r with
        | @lst _ xs _ q z ra =>
          obtain ⟨y, e1, ry⟩ := ra.getD hi
          have e2 := hy xs (q.sq)
          rw [e1] at e2
          injection e2 with e2
          subst e2
          exact ⟨⟨F, OwA.cons (F := []) (.sh ry) (OwA.cons (F := []) (.sh (.lst q z ra)) w), nd, b⟩, k2.st, k2.al, k2.ba⟩
      · intro Y vs os H k1
        obtain ⟨A, r, _⟩ := k1.one'
        cases r with
        | @lst _ xs _ q z ra => exact ⟨xs, q.sq, by rw [ra.len]; exact Nat.le_refl _⟩
  | _ => exact t.elim
theorem vi_tup {l : Expr} {tl : VT} (hl : VE X W l tl) : VI X W tg l (vITup tl) := by
  refine PI.imp (pi_tup hl) fun σ H R ⟨Y, tv, to, env, Qd, xd, l, k, t, hq, hx⟩ => ?_
  refine ⟨Y, tv, to, env, _, xd, l, k, t, fun o e v H' q k' => ?_, hx⟩
  obtain ⟨d, t, k'⟩ := k'.fz q
  cases d with
  | tup ds =>
    obtain ⟨A0, r0, _⟩ := k'.one'
    cases r0 with
    | @tup a xs _ q0 z0 ra0 =>
      refine ⟨a, rfl, ⟨xs, q0.sq⟩, hq ds e (Itt X.K a) [some (.ref a)] [.sh (.tup ds)] H' t rfl ⟨by rw [← ra0.len]; exact z0, ?_, ?_, ?_⟩ k'⟩
      · intro Y vs os H i k1 hi
        obtain ⟨A, r, _⟩ := k1.one'
        cases r with
        | @tup _ xs _ q z ra =>
          exact ⟨xs, xs[i]'(by rw [ra.len]; exact hi), q.sq, List.getElem?_eq_getElem _⟩
      · intro Y vs os H1 i x H d k1 hi hy
        obtain ⟨rfl, hy⟩ := hy
        have k2 : Ok X.K Y (some (.ref a) :: vs) (.sh (.tup ds) :: os) H := k1
        obtain ⟨v', ev, F, r, w, nd, b⟩ := k2.top
        injection ev with ev; subst ev
        cases r with
        | @tup _ xs _ q z ra =>
          obtain ⟨y, e1, ry⟩ := ra.getD hi
          have e2 := hy xs q.sq
          rw [e1] at e2
          injection e2 with e2
          subst e2
          exact ⟨⟨F, OwA.cons (F := []) (.sh ry) (OwA.cons (F := []) (.sh (.tup q z ra)) w), nd, b⟩, k2.st, k2.al, k2.ba⟩
      · intro Y vs os H k1
        obtain ⟨A, r, _⟩ := k1.one'
        cases r with
        | @tup _ xs _ q z ra => exact ⟨xs, q.sq, by rw [ra.len]; exact Nat.le_refl _⟩
  | _ => exact t.elim
end
end Hd
namespace Hd
/-! ### the value layer: owned lists, comprehensions, more walks -/
section
open PySem PySem.Spec PyProof.Rows L2
variable {K : PySem.W.Frag} {W : WX} {H H' : Hp} {Y : Fx} {vs tv : List (Option V)} {os to env : List O} {v : V} {d : D} {o : O} {σ : L2.St} {X : Cx} {A : List Addr}
/-- the owned list at place i, and how it may be changed -/
theorem Ok.putL {i : Nat} {p : Addr} {ds : List D} (k : Ok K Y vs os H) (h : os[i]? = some (.ol p ds)) : ∃ F xs, OwA K (Y.A ++ F) H vs os F ∧ vs[i]? = some (some (.ref p)) ∧ H p = some (.lst xs) ∧ xs.length ≤ sizeLine ∧ RpA K (Y.A ++ F) H xs ds ∧
    ∀ ys es, ys.length ≤ sizeLine → RpA K (Y.A ++ F) H ys es → Ok K Y vs (os.set i (.ol p es)) (upd H p (.lst ys)) := by
  obtain ⟨F, w, nd, b⟩ := k.ex
  obtain ⟨x, F1, F2, F3, e1, e2, c, up⟩ := w.at_ h
  cases c with
  | @ol _ xs _ hp z r =>
    refine ⟨F, xs, w, e1, hp, z, r, fun ys es hz ry => ?_⟩
    have pF : p ∈ F := by rw [e2]; simp
    have st : Stp [p] H (upd H p (.lst ys)) := .put hp
    have nd2 : ∀ q ∈ F1 ++ F3, q ≠ p := fun q hq e => by
      subst e
      rw [e2, List.append_assoc, List.nodup_append] at nd
      obtain ⟨_, n2, n3⟩ := nd
      rcases List.mem_append.mp hq with z | z
      · exact n3 q z q (by simp) rfl
      · exact (List.nodup_cons.mp (show (q :: F3).Nodup from n2)).1 z
    have t := up (A' := Y.A ++ F) (H' := upd H p (.lst ys)) (fun {v o E} hE q => q.mono st (fun a ha => by
        have e : a = p := by simpa using ha
        rw [e]; exact List.mem_append_right _ pF) fun a ha hE2 => by
        have e : a = p := by simpa using ha
        rw [e] at hE2
        exact nd2 p (hE p hE2) rfl) (v' := some (.ref p)) (.ol upd_same hz (ry.mono (st.mono fun a ha => by
        have e : a = p := by simpa using ha
        rw [e]; exact List.mem_append_right _ pF)))
    rw [set_self e1] at t
    refine ⟨⟨F, by rw [e2] at t ⊢; exact t, nd, b⟩, k.st.via st fun a ha => ?_, k.al, k.ba⟩
    have e : a = p := by simpa using ha
    rw [e]; exact b p pF
/-- a method of the owned list in slot i -/
def vMtL (i : Nat) (g : List D → List D → (O → List D → Prop) → Prop) (ta : VTA) : VT := fun env Q x => match env[i]? with
  | some (.ol _ _) => ta env (fun ds e => match e[i]? with
    | some (.ol p l) => g l ds fun o l' => Q o (e.set i (.ol p l'))
    | _ => False) x
  | _ => False
theorem Ok.olAt {i : Nat} {p : Addr} {ds : List D} (k : Ok K Y vs os H) (h : os[i]? = some (.ol p ds)) : vs[i]? = some (some (.ref p)) ∧ ∃ xs, H p = some (.lst xs) ∧ xs.length = ds.length := by
  obtain ⟨F, xs, w, e, hp, z, r, _⟩ := k.putL h
  exact ⟨e, xs, hp, r.len⟩
/-- from the method's rule over values to the owned list -/
theorem mtL_lift {i n : Nat} {g : List D → List D → (O → List D → Prop) → Prop} {ta : VTA} {r : V → List V → Hp → VK → Prop} {Q : VK}
    (hr : ∀ (Y : Fx) (vs : List (Option V)) (os : List O) (j : Nat) (p : Addr) (l ds : List D) (xs : List V) (H : Hp) (Q : VK) (Qd : O → List D → Prop), Ok K Y (xs.map some ++ vs) (ds.map O.sh ++ os) H → xs.length = n → ds.length = n → os[j]? = some (.ol p l) → vs[j]? = some (some (.ref p)) → g l ds Qd →
      (∀ o l' v H', Qd o l' → Ok K Y (some v :: vs) (o :: os.set j (.ol p l')) H' → Q v H') → r (.ref p) xs H Q)
    (h : lE K W (vMtL i g ta) σ H Q) : tBM K "list" r (tVar i) (lA K W n ta) σ H Q := by
  obtain ⟨Y, tv, to, env, Qd, xd, l, k, t, hq, hx⟩ := h
  unfold vMtL at t
  split at t
  · rename_i p0 l0 e0
    obtain ⟨e1, xs0, h0, _⟩ := k.olAt (i := to.length + i) (ix_app.trans e0)
    rw [← l, ix_app] at e1
    refine ⟨_, e1, .inl ⟨rfl, xs0, SqL.of h0⟩, ?_⟩
    refine ⟨Y, tv, to, env, _, xd, l, k, t, fun ds e vs H1 q l1 l2 k1 => ?_, hx⟩
    split at q
    · rename_i p l' e2
      have e3 : (to ++ e)[to.length + i]? = some (.ol p l') := ix_app.trans e2
      have e4 := ((Ok.popn (xs := vs.map some) (ys := ds.map O.sh) (by simp [l1, l2]) k1).olAt e3).1
      have e5 : p = p0 := by
        rw [← l, ix_app, e1] at e4
        injection e4 with e4
        injection e4 with e4
        injection e4 with e4
        exact e4.symm
      subst e5
      exact hr Y (tv ++ σ) (to ++ e) (to.length + i) p l' ds vs H1 Q _ k1 l1 l2 e3 e4 q fun o l2 v H' q k2 => by
        rw [set_app] at k2
        exact hq _ _ _ _ q k2
    · exact q.elim
  · exact t.elim
def gAppend : List D → List D → (O → List D → Prop) → Prop := fun l ds Q => match ds with
  | [d] => l.length < sizeLine ∧ Q (.sh .non) (l ++ [d])
  | _ => False
section
variable {e : Expr} {x : Str} {pv' apos cpos : Pos} {ta : VTA}
theorem ve_append {i : Nat} {o : Expr} (ho : PE X o (tVar i)) (ha : VA X W [e] 1 ta) (hbase : attributeBase o "append" X.env (eval o X.env) = eval o X.env := by rfl) (hline : (apos.endLine == cpos.line) = true := by rfl) (hs : starEach [e] X.env = (false, eval e X.env) :: starEach [] X.env := by rfl)
    (hfew : ((backTo cpos (starEach [e] X.env)).all (fun x => !x.1) && (backToKw cpos (keywordEach [] X.env)).all (fun x => x.1.isSome) && decide ([e].length + ([] : List Keyword).length + (if ([] : List Keyword).isEmpty then 0 else 1) < 30)) = true := by rfl) (hplain : (backTo cpos (starEach [] X.env)).any (·.1) = false := by rfl) :
    VE X W (.Call (.Attribute o "append" apos) [e] [] cpos) (vMtL i gAppend ta) := by
  refine PE.imp (pe_bm PySem.F.plainAttrs_list PySem.F.slot_list_append PySem.F.type_list_append mt_append ho ha hbase hfew hline hs hplain) fun σ H Q h => mtL_lift (n := 1) (fun Y vs os j p l ds xs H Q Qd k l1 l2 e1 e2 t hq => ?_) h
  match ds, l2, xs, l1 with
  | [d], _, [y], _ =>
    have k2 : Ok X.K Y (some y :: vs) (.sh d :: os) H := k
    obtain ⟨F, zs, w, e3, hp, z, r, up⟩ := k2.putL (i := j + 1) (by simpa using e1)
    cases w with
    | cons c _ =>
      cases c with
      | sh ry =>
        refine ⟨p, zs, y, rfl, rfl, hp, by rw [r.len]; exact t.1, hq _ _ _ _ t.2 ?_⟩
        have k3 := up (zs ++ [y]) (l ++ [d]) (by rw [List.length_append, r.len]; exact t.1) (r.app (.cons ry .nil))
        exact (show Ok X.K Y (some y :: vs) (.sh d :: os.set j (.ol p (l ++ [d]))) _ from k3).pop.push (F := []) fun _ => .non
end
/-! ### the slots of a comprehension -/
def wipeE (env : DE) : List Nat → DE
  | [] => env
  | v :: vs => (wipeE env vs).set v .un
theorem Ok.un1 {i : Nat} (k : Ok K Y vs os H) (x : Option V) : Ok K Y (vs.set i x) (os.set i .un) H := by
  obtain ⟨F, w, nd, b⟩ := k.ex
  have k2 : Ok K Y (x :: vs) (.un :: os) H := ⟨⟨F, OwA.cons (F := []) (.un x) w, nd, b⟩, k.st, k.al, k.ba⟩
  exact k2.setTop
theorem Ok.wipe (l : tv.length = to.length) : ∀ (ns : List Nat) {σ : L2.St} {env : DE}, Ok K Y (tv ++ σ) (to ++ env) H → Ok K Y (tv ++ L2.wipe σ ns) (to ++ wipeE env ns) H
  | [], _, _, k => k
  | n :: ns, σ, env, k => by
    have k2 := (Ok.wipe l ns k).un1 (i := to.length + n) none
    rw [set_app] at k2
    rw [← l, set_app] at k2
    exact k2
/-- a cell that is not known may stand for any value -/
theorem Ok.unset {i : Nat} {x : Option V} (k : Ok K Y (vs.set i x) os H) (h : os[i]? = some .un) : Ok K Y vs os H := by
  by_cases hi : i < vs.length
  · have k2 := k.un1 (i := i) (vs[i])
    rw [List.set_set, set_self h] at k2
    have e : vs.set i vs[i] = vs := set_self (List.getElem?_eq_getElem hi)
    rw [e] at k2
    exact k2
  · rw [List.set_eq_of_length_le (by omega)] at k
    exact k
theorem wipeE_get {n : Nat} : ∀ (ns : List Nat) {env : DE}, n ∈ ns → n < env.length → (wipeE env ns)[n]? = some .un
  | [], _, h, _ => by cases h
  | m :: ns, env, h, hl => by
    have ll : ∀ ns : List Nat, (wipeE env ns).length = env.length := fun ns => by
      induction ns with
      | nil => rfl
      | cons a as ih => unfold wipeE; rw [List.length_set, ih]
    unfold wipeE
    by_cases e : n = m
    · subst e
      rw [List.getElem?_set_self (by rw [ll]; exact hl)]
    · rw [List.getElem?_set_ne (Ne.symm e)]
      exact wipeE_get ns ((List.mem_cons.mp h).resolve_left e) hl
theorem wipeE_len (env : DE) : ∀ ns : List Nat, (wipeE env ns).length = env.length
  | [] => rfl
  | a :: as => by unfold wipeE; rw [List.length_set, wipeE_len env as]
/-- behind it, the slots as they were -/
theorem Ok.unwipe (l : tv.length = to.length) {ns : List Nat} {env : DE} : ∀ (ms : List Nat), (∀ m ∈ ms, m ∈ ns) → Ok K Y (tv ++ L2.wipe σ ms) (to ++ wipeE env ns) H → Ok K Y (tv ++ σ) (to ++ wipeE env ns) H
  | [], _, k => k
  | m :: ms, hm, k => by
    refine Ok.unwipe l ms (fun x hx => hm x (by simp [hx])) ?_
    by_cases hl : m < env.length
    · have k2 : Ok K Y ((tv ++ L2.wipe σ ms).set (tv.length + m) none) (to ++ wipeE env ns) H := by
        rw [set_app]
        exact k
      refine k2.unset ?_
      rw [l, ix_app]
      exact wipeE_get ns (hm m (by simp)) hl
    · have e : (L2.wipe σ (m :: ms)) = L2.wipe σ ms := by
        show (L2.wipe σ ms).set m none = _
        rw [List.set_eq_of_length_le]
        have := k.len
        rw [List.length_append, List.length_append, wipeE_len, L2.wipe_length] at this
        rw [L2.wipe_length]
        omega
      rw [e] at k
      exact k
theorem wipe_get {σ : L2.St} {i : Nat} : ∀ (ns : List Nat), (L2.wipe σ ns)[i]? = if i ∈ ns ∧ i < σ.length then some none else σ[i]?
  | [] => by simp [L2.wipe]
  | n :: ns => by
    show ((L2.wipe σ ns).set n none)[i]? = _
    by_cases e : i = n
    · subst e
      by_cases hl : i < σ.length
      · rw [List.getElem?_set_self (by rw [L2.wipe_length]; exact hl), if_pos ⟨by simp, hl⟩]
      · rw [List.getElem?_eq_none (by rw [List.length_set, L2.wipe_length]; omega), if_neg (by omega), List.getElem?_eq_none (by omega)]
    · rw [List.getElem?_set_ne (Ne.symm e), wipe_get ns]
      have : (i ∈ n :: ns ∧ i < σ.length) ↔ (i ∈ ns ∧ i < σ.length) := by simp [e]
      simp only [this]
theorem wipe_same {σ σ' : L2.St} {ns ts : List Nat} (h : SlotsBut ts (L2.wipe σ ns) σ') (hs : ∀ i ∈ ts, i ∈ ns) : L2.wipe σ' ns = L2.wipe σ ns := by
  refine List.ext_getElem? fun i => ?_
  rw [wipe_get, wipe_get]
  have e1 : σ'.length = σ.length := by rw [h.1, L2.wipe_length]
  rw [e1]
  by_cases q : i ∈ ns ∧ i < σ.length
  · rw [if_pos q, if_pos q]
  · rw [if_neg q, if_neg q]
    by_cases hi : i ∈ ns
    · have : ¬ i < σ.length := fun z => q ⟨hi, z⟩
      rw [List.getElem?_eq_none (by omega), List.getElem?_eq_none (by omega)]
    · rw [h.2 i fun z => hi (hs i z), wipe_get, if_neg q]
def W0 : WX := fun _ _ _ _ => False
def x0 : XD := fun _ _ _ _ => False
theorem xOk0 : xOk K W0 Y tv to σ x0 := fun _ _ _ _ _ _ _ h => h.elim
def VBs (X : Cx) (W : WX) (es : List Expr) (t : VTT) : Prop := PTs X es (lT X.K W t)
def vYes : VTT := fun env Q _ => Q true env
theorem PTs.imp {e : List Expr} {r r' : TT} (h : PTs X e r) (i : ∀ σ H Q, r' σ H Q → r σ H Q) : PTs X e r' := ⟨fun pins s σ H Q I q => h.run pins s σ H Q I (i σ H Q q)⟩
theorem vts_nil : VBs X W [] vYes := PTs.imp pts_nil fun σ H Q ⟨Y, tv, to, env, Qd, xd, l, k, t, hq, hx⟩ => hq _ _ _ t k
theorem vts_one {c : Expr} {t : VTT} (h : VB X W c t) : VBs X W [c] t := pts_one h
def vLcL (ns : List Nat) (g : VTG) (tt : VTT) (te : VT) : List D → List D → DE → (List D → DE → Prop) → Prop
  | [], acc, e, Q => Q acc e
  | d :: ds, acc, e, Q => g (.sh d) e (fun e1 => tt e1 (fun b e2 => if b = true then te e2 (fun o e3 => o.fz fun d' => vLcL ns g tt te ds (acc ++ [d']) (wipeE e3 ns) Q) x0 else vLcL ns g tt te ds acc (wipeE e2 ns) Q) x0) x0
def vLc (ns : List Nat) (ti : VTA) (g : VTG) (tt : VTT) (te : VT) : VT := fun env Q x => ti env (fun ds e => vLcL ns g tt te ds [] (wipeE e ns) fun acc e' => ∀ p, Q (.ol p acc) (wipeE e' ns)) x
theorem lc_lift {ns ts : List Nat} {ti : VTA} {g : VTG} {tt : VTT} {te : VT} {Q : VK} (hts : ∀ i ∈ ts, i ∈ ns) (h : lE K W (vLc ns ti g tt te) σ H Q) : tLc (lI K W ti) (lG K W0 ts g) (lT K W0 tt) (lE K W0 te) ns σ H Q := by
  obtain ⟨Y, tv, to, env, Qd, xd, l, k, t, hq, hx⟩ := h
  refine ⟨Y, tv, to, env, _, xd, l, k, t, fun ds e J iv io H1 q li it k1 p hp => ?_, hx⟩
  have k2 : Ok K Y (some (.ref p) :: (iv ++ (tv ++ σ))) (.ol p [] :: (io ++ (to ++ e))) (upd H1 p (.lst [])) := Ok.lst (xs := []) (ds := []) k1 rfl (Nat.zero_le _) (.mk' hp)
  have k3 : Ok K Y (iv ++ ((some (.ref p) :: tv) ++ L2.wipe σ ns)) (io ++ ((.ol p [] :: to) ++ wipeE e ns)) (upd H1 p (.lst [])) := by
    have k4 := Ok.unrot (xs := iv) (ys := io) li k2
    have k5 := Ok.wipe (tv := iv ++ (some (.ref p) :: tv)) (to := io ++ (.ol p [] :: to)) (by simp [l, li]) ns (σ := σ) (env := e) (by simpa using k4)
    simpa using k5
  refine ⟨fun i m H' => ∃ acc e', i ≤ ds.length ∧ m = ds.length - i ∧ acc.length ≤ i ∧ vLcL ns g tt te (ds.drop i) acc e' (fun acc e' => ∀ p, Qd (.ol p acc) (wipeE e' ns)) ∧ Ok K Y (iv ++ ((some (.ref p) :: tv) ++ L2.wipe σ ns)) (io ++ ((.ol p acc :: to) ++ e')) H',
    ⟨_, [], _, Nat.zero_le _, rfl, Nat.le_refl _, q, k3⟩, ?_⟩
  rintro i m H' ⟨acc, e', h1, rfl, h2, h3, k4⟩
  by_cases hi : i < ds.length
  · obtain ⟨d, hd⟩ : ∃ d, ds[i]? = some d := ⟨_, List.getElem?_eq_getElem hi⟩
    rw [drop_at hd] at h3
    refine .inr ⟨it.go k4 hi, _, fun H2 n => ⟨ds.length - (i + 1), by omega, n⟩, fun x H2 hy => ?_⟩
    have k5 := it.yld k4 hd hy
    have lt : (iv ++ (some (.ref p) :: tv)).length = (io ++ (.ol p acc :: to)).length := by simp [l, li]
    refine ⟨Y, iv ++ (some (.ref p) :: tv), io ++ (.ol p acc :: to), e', .sh d, _, x0, lt, by simpa using k5, h3, fun e1 σ2 H3 q1 sb k6 => ⟨wipe_same sb hts, ?_⟩, fun _ => xOk0⟩
    refine ⟨Y, iv ++ (some (.ref p) :: tv), io ++ (.ol p acc :: to), e1, _, x0, lt, k6, q1, fun b e2 H4 q2 k7 => ?_, xOk0⟩
    have ws := wipe_same sb hts
    cases b with
    | false =>
      have k8 := Ok.wipe lt ns k7
      rw [ws] at k8
      exact ⟨acc, _, hi, rfl, by omega, q2, by simpa using k8⟩
    | true =>
      refine ⟨Y, iv ++ (some (.ref p) :: tv), io ++ (.ol p acc :: to), e2, _, x0, lt, k7, q2, fun o e3 y H5 q3 k8 => ?_, xOk0⟩
      obtain ⟨d', q3, k8⟩ := k8.fz q3
      obtain ⟨F, xs, w, _, hp5, z, r, up⟩ := k8.putL (i := io.length + 1) (p := p) (ds := acc) (by
        show (O.sh d' :: (io ++ (.ol p acc :: to) ++ e3))[io.length + 1]? = _
        rw [List.getElem?_cons_succ, List.append_assoc]
        have := ix_app (a := io) (b := (.ol p acc :: to) ++ e3) (i := 0)
        rw [Nat.add_zero] at this
        rw [this]; rfl)
      cases w with
      | cons c _ =>
        cases c with
        | sh ry =>
          have hz : xs.length < sizeLine := by rw [r.len]; have := it.len; omega
          refine ⟨xs, hp5, hz, acc ++ [d'], _, hi, rfl, by rw [List.length_append]; simp; omega, q3, ?_⟩
          have k9 := (up (xs ++ [y]) (acc ++ [d']) (by rw [List.length_append]; exact hz) (r.app (.cons ry .nil)))
          have e9 : (O.sh d' :: (io ++ (.ol p acc :: to) ++ e3)).set (io.length + 1) (.ol p (acc ++ [d'])) = O.sh d' :: (io ++ (.ol p (acc ++ [d']) :: to) ++ e3) := by
            rw [List.set_cons_succ, List.append_assoc]
            have := set_app (a := io) (b := (.ol p acc :: to) ++ e3) (i := 0) (x := .ol p (acc ++ [d']))
            rw [Nat.add_zero] at this
            rw [this]; simp
          rw [e9] at k9
          have lt2 : (iv ++ (some (.ref p) :: tv)).length = (io ++ (.ol p (acc ++ [d']) :: to)).length := by simp [l, li]
          have k10 := Ok.wipe lt2 ns k9.pop
          rw [ws] at k10
          simpa using k10
  · have e1 : i = ds.length := by omega
    subst e1
    rw [List.drop_length] at h3
    refine .inl ⟨it.stop k4, hq _ _ _ _ (h3 p) ?_⟩
    have k5 := Ok.popn li k4
    have k6 := Ok.wipe (tv := some (.ref p) :: tv) (to := .ol p acc :: to) (by simp [l]) ns k5
    have e2 : L2.wipe (L2.wipe σ ns) ns = L2.wipe σ ns := wipe_same (ts := []) ⟨rfl, fun _ _ => rfl⟩ (by simp)
    rw [e2] at k6
    have k7 := Ok.unwipe (tv := some (.ref p) :: tv) (to := .ol p acc :: to) (σ := σ) (by simp [l]) ns (fun m h => h) k6
    simpa using k7
theorem ve_lc {elt tg iter : Expr} {ifs : List Expr} {scope : Scope} {own : List (Str × Nat)} {pos : Pos} {ti : VTA} {g : VTG} {tt : VTT} {te : VT} {ts : List Nat} (hc : X.calm = true) (hN : X.N.Nodup) (hi : VI X W tg iter ti) (ok : BlkOk X.N X.env.scope scope own) (hts : ∀ i ∈ ts, i ∈ own.map (·.2))
    (hg : ∀ (s : Shared) (H : Hp) (C : Addr) (cl : List (Str × Addr)) (fp : List Addr), VG (X.blk s H scope (compEnvC scope cl C X.env) fp) W0 tg ts g) (ht : ∀ (s : Shared) (H : Hp) (C : Addr) (cl : List (Str × Addr)) (fp : List Addr), VBs (X.blk s H scope (compEnvC scope cl C X.env) fp) W0 ifs tt)
    (he : ∀ (s : Shared) (H : Hp) (C : Addr) (cl : List (Str × Addr)) (fp : List Addr), VE (X.blk s H scope (compEnvC scope cl C X.env) fp) W0 elt te) (hs : ∀ x, foldedSetIterable iter X.env x = pure x := by intro _; rfl) :
    VE X W (.ListComp elt [⟨tg, iter, ifs, 0⟩] scope pos) (vLc (own.map (·.2)) ti g tt te) :=
  PE.imp (pe_lc (g := lG X.K W0 ts g) (tt := lT X.K W0 tt) (te := lE X.K W0 te) hc hN hi ok hg ht he hs) fun _ _ _ h => lc_lift hts h
/-- y = [..] -/
theorem vs_setLc {i : Nat} {y : Str} {py : Pos} {elt tg iter : Expr} {ifs : List Expr} {scope : Scope} {own : List (Str × Nat)} {pos spos : Pos} {ti : VTA} {g : VTG} {tt : VTT} {te : VT} {ts : List Nat} (hc : X.calm = true) (hN : X.N.Nodup) (hy : X.N[i]? = some y) (hyl : X.env.scope.names.lookup y = some .local)
    (hsw : swapsWith (.ListComp elt [⟨tg, iter, ifs, 0⟩] scope pos) (some (.Name y py)) spos.line X.env = pure true) (hi : VI X W tg iter ti) (ok : BlkOk X.N X.env.scope scope own) (hts : ∀ i ∈ ts, i ∈ own.map (·.2))
    (hg : ∀ (s : Shared) (H : Hp) (C : Addr) (cl : List (Str × Addr)) (fp : List Addr), VG (X.blk s H scope (compEnvC scope cl C X.env) fp) W0 tg ts g) (ht : ∀ (s : Shared) (H : Hp) (C : Addr) (cl : List (Str × Addr)) (fp : List Addr), VBs (X.blk s H scope (compEnvC scope cl C X.env) fp) W0 ifs tt)
    (he : ∀ (s : Shared) (H : Hp) (C : Addr) (cl : List (Str × Addr)) (fp : List Addr), VE (X.blk s H scope (compEnvC scope cl C X.env) fp) W0 elt te) (hs : ∀ x, foldedSetIterable iter X.env x = pure x := by intro _; rfl) :
    VS X W (.Assign [.Name y py] (.ListComp elt [⟨tg, iter, ifs, 0⟩] scope pos) spos) (vSet i (vLc (own.map (·.2)) ti g tt te)) :=
  PS.imp (ps_setLc (g := lG X.K W0 ts g) (tt := lT X.K W0 tt) (te := lE X.K W0 te) hc hN hy hyl hsw hi ok hg ht he hs) fun D σ H ⟨Y, tv, to, env, E, l, k, t, s⟩ =>
    lc_lift hts ⟨Y, tv, to, env, _, _, l, k, t, fun o e v H' q k' => s.nx _ _ _ q (Ok.setSlot l k'), s.xx σ⟩
end
end Hd
namespace Hd
/-! ### the value layer: short names, further walks, calls without arguments, makers -/
section
open PySem PySem.Spec PyProof.Rows L2
variable {K : PySem.W.Frag} {W : WX} {H H' : Hp} {Y : Fx} {vs tv : List (Option V)} {os to env : List O} {v : V} {d : D} {o : O} {σ : L2.St} {X : Cx} {A : List Addr}
abbrev gAdd : G2 := gII fun i j => .int (i + j)
abbrev gSub : G2 := gII fun i j => .int (i - j)
abbrev gMul : G2 := gIC CMul fun i j => .int (i * j)
abbrev gMulW : G2 := gIC CMulW fun i j => .int (i * j)
abbrev gMod : G2 := gIC (fun _ j => 0 < j) fun i j => .int (i % j)
abbrev gDiv : G2 := gIC CDivW fun i j => .int (i / j)
abbrev gLt : G2 := gII fun i j => .bl (decide (i < j))
abbrev gLe : G2 := gII fun i j => .bl (decide (i ≤ j))
abbrev gGt : G2 := gII fun i j => .bl (decide (j < i))
abbrev gGe : G2 := gII fun i j => .bl (decide (j ≤ i))
/-! ### range, enumerate, zip, texts -/
def vIRng1 (ta : VTA) : VTA := fun env Q x => ta env (fun ds e => match ds with
  | [.int j] => -(2 ^ 62) ≤ j ∧ j ≤ 1000000 ∧ Q ((List.range j.toNat).map fun (i : Nat) => D.int i) e
  | _ => False) x
def vIRng2 (ta : VTA) : VTA := fun env Q x => ta env (fun ds e => match ds with
  | [.int i, .int j] => (-(2 ^ 62) ≤ i ∧ i < 2 ^ 62 ∧ -(2 ^ 62) ≤ j ∧ j < 2 ^ 62) ∧ j - i ≤ 1000000 ∧ Q ((List.range (j - i).toNat).map fun (n : Nat) => D.int (i + n)) e
  | _ => False) x
theorem itr_ok {lo : Int} {n : Nat} (hn : n ≤ 1000000) : ItOk K (Itr lo n) [] [] ((List.range n).map fun (i : Nat) => D.int (lo + i)) := by
  refine ⟨by rw [List.length_map, List.length_range, sizeLine_eq]; omega, ?_, ?_, ?_⟩
  · intro Y vs os H i _ hi
    rw [List.length_map, List.length_range] at hi
    exact hi
  · intro Y vs os H1 i x H d k hi hy
    obtain ⟨rfl, rfl⟩ := hy
    rw [List.getElem?_map] at hi
    cases e : (List.range n)[i]? with
    | none => rw [e] at hi; cases hi
    | some j =>
      rw [e] at hi
      have e2 : j = i := by
        rw [List.getElem?_eq_some_iff] at e
        obtain ⟨_, e⟩ := e
        rw [List.getElem_range] at e
        exact e.symm
      injection hi with hi
      subst e2 hi
      exact k.push (F := []) fun _ => .int _
  · intro Y vs os H k
    show n ≤ _
    rw [List.length_map, List.length_range]
    exact Nat.le_refl _
variable {tg : Expr}
theorem vi_range1 {a : Expr} {ta : VTA} {p pos : Pos} (hg : Gl X "range") (hm : X.mg "range" = none) (ha : VA X W [a] 1 ta) (hs : starEach [a] X.env = [(false, eval a X.env)] := by rfl) : VI X W tg (.Call (.Name "range" p) [a] [] pos) (vIRng1 ta) := by
  refine PI.imp (pi_range1 hg hm ha hs) fun σ H R ⟨Y, tv, to, env, Qd, xd, l, k, t, hq, hx⟩ => ?_
  refine ⟨Y, tv, to, env, _, xd, l, k, t, fun ds e vs H' q l1 l2 k' => ?_, hx⟩
  match vs, ds, l1, l2 with
  | [x], [d], _, _ =>
    cases d with
    | int j =>
      obtain ⟨A, r⟩ := (show Ok X.K Y (some x :: (tv ++ σ)) (.sh (.int j) :: (to ++ e)) H' from k').one
      obtain ⟨q1, q2, q3⟩ := q
      refine ⟨j, by rw [r.int_inv], q1, by omega, hq _ _ _ [] [] _ q3 rfl ?_ k'.pop⟩
      have := itr_ok (K := X.K) (lo := 0) (n := j.toNat) (by omega)
      simpa using this
    | _ => exact q.elim
theorem vi_range2 {a b : Expr} {ta : VTA} {p pos : Pos} (hg : Gl X "range") (hm : X.mg "range" = none) (ha : VA X W [a, b] 2 ta) (hs : starEach [a, b] X.env = [(false, eval a X.env), (false, eval b X.env)] := by rfl) (hs2 : starEach [b] X.env = [(false, eval b X.env)] := by rfl) :
    VI X W tg (.Call (.Name "range" p) [a, b] [] pos) (vIRng2 ta) := by
  refine PI.imp (pi_range2 hg hm ha hs hs2) fun σ H R ⟨Y, tv, to, env, Qd, xd, l, k, t, hq, hx⟩ => ?_
  refine ⟨Y, tv, to, env, _, xd, l, k, t, fun ds e vs H' q l1 l2 k' => ?_, hx⟩
  match vs, ds, l1, l2 with
  | [x, y], [d, d2], _, _ =>
    cases d with
    | int i =>
      cases d2 with
      | int j =>
        obtain ⟨A, r1, r2⟩ := (show Ok X.K Y (some x :: some y :: (tv ++ σ)) (.sh (.int i) :: .sh (.int j) :: (to ++ e)) H' from k').two
        obtain ⟨q1, q2, q3⟩ := q
        exact ⟨i, j, by rw [r1.int_inv, r2.int_inv], q1, hq _ _ _ [] [] _ q3 rfl (itr_ok (by omega)) k'.pop.pop⟩
      | _ => exact q.elim
    | _ => exact q.elim
/-- i, x -/
def enumD (ds : List D) : List D := (List.range ds.length).zipWith (fun (i : Nat) d => D.tup [.int i, d]) ds
theorem enumD_len (ds : List D) : (enumD ds).length = ds.length := by unfold enumD; simp
theorem enumD_get {ds : List D} {i : Nat} {d : D} (h : (enumD ds)[i]? = some d) : ∃ d0, ds[i]? = some d0 ∧ d = .tup [.int i, d0] := by
  unfold enumD at h
  rw [List.getElem?_zipWith] at h
  cases e1 : (List.range ds.length)[i]? with
  | none => rw [e1] at h; cases h
  | some j =>
    cases e2 : ds[i]? with
    | none => rw [e1, e2] at h; cases h
    | some d0 =>
      rw [e1, e2] at h
      injection h with h
      have e3 : j = i := by
        rw [List.getElem?_eq_some_iff] at e1
        obtain ⟨_, e⟩ := e1
        rw [List.getElem_range] at e
        exact e.symm
      subst e3
      exact ⟨d0, rfl, h.symm⟩
def vIEnum (te : VTA) : VTA := fun env Q x => te env (fun ds e => match ds with
  | [.lst l] => Q (enumD l) e
  | _ => False) x
def vIEnumT (te : VTA) : VTA := fun env Q x => te env (fun ds e => match ds with
  | [.tup l] => Q (enumD l) e
  | _ => False) x
/-- a new pair in hand -/
theorem Ok.pair {p : Addr} {x y : V} {d1 d2 : D} (k : Ok K Y vs os H) (h : H p = none) (r : ∀ F, OwA K (Y.A ++ F) H vs os F → Rp K (Y.A ++ F) H x d1 ∧ Rp K (Y.A ++ F) H y d2) : Ok K Y (some (.ref p) :: vs) (.sh (.tup [d1, d2]) :: os) (upd H p (.tup [x, y])) := by
  obtain ⟨F, w, nd, b⟩ := k.ex
  obtain ⟨r1, r2⟩ := r F w
  have k2 : Ok K Y (([x, y] : List V).map some ++ vs) (([d1, d2] : List D).map O.sh ++ os) H := ⟨⟨F, OwA.cons (F := []) (.sh r1) (OwA.cons (F := []) (.sh r2) w), nd, b⟩, k.st, k.al, k.ba⟩
  exact k2.tup rfl (by show 2 ≤ sizeLine; decide) (.mk' h)
theorem vi_enum {e : Expr} {ta : VTA} {p pos tpos : Pos} {elts : List Expr} {kk : Nat} (hg : Gl X "enumerate") (hm : X.mg "enumerate" = none) (ha : VA X W [e] 1 ta) (hs : starEach [e] X.env = [(false, eval e X.env)] := by rfl) :
    VI X W (.Tuple elts kk tpos) (.Call (.Name "enumerate" p) [e] [] pos) (vIEnum ta) := by
  refine PI.imp (pi_enum hg hm ha hs) fun σ H R ⟨Y, tv, to, env, Qd, xd, l, k, t, hq, hx⟩ => ?_
  refine ⟨Y, tv, to, env, _, xd, l, k, t, fun ds e vs H' q l1 l2 k' => ?_, hx⟩
  match vs, ds, l1, l2 with
  | [x], [d], _, _ =>
    cases d with
    | lst ds =>
      have k1 : Ok X.K Y (some x :: (tv ++ σ)) (.sh (.lst ds) :: (to ++ e)) H' := k'
      obtain ⟨A0, r0, _⟩ := k1.one'
      cases r0 with
      | @lst a xs _ q0 z0 ra0 =>
        refine ⟨a, xs, rfl, q0.sq, hq (enumD ds) e (Ite X.K a) [some (.ref a)] [.sh (.lst ds)] H' q rfl ⟨by rw [enumD_len, ← ra0.len]; exact z0, ?_, ?_, ?_⟩ k1⟩
        · intro Y vs os H i k1 hi
          rw [enumD_len] at hi
          obtain ⟨A, r, _⟩ := k1.one'
          cases r with
          | @lst _ xs _ q z ra => exact ⟨xs, xs[i]'(by rw [ra.len]; exact hi), q.sq, List.getElem?_eq_getElem _⟩
        · intro Y vs os H i x H2 d k1 hi hy
          obtain ⟨T, y, rfl, hT, rfl, hy⟩ := hy
          obtain ⟨d0, hd0, rfl⟩ := enumD_get hi
          refine Ok.pair k1 hT fun F w => ?_
          cases w with
          | cons c _ =>
            cases c with
            | sh r =>
              cases r with
              | @lst _ xs _ q z ra =>
                obtain ⟨y2, e1, ry⟩ := ra.getD hd0
                have e2 := hy xs (q.sq)
                rw [e1] at e2
                injection e2 with e2
                subst e2
                exact ⟨.int _, ry⟩
        · intro Y vs os H k1
          obtain ⟨A, r, _⟩ := k1.one'
          cases r with
          | @lst _ xs _ q z ra => exact ⟨xs, q.sq, by rw [enumD_len, ra.len]; exact Nat.le_refl _⟩
    | _ => exact q.elim
theorem vi_enumT {e : Expr} {ta : VTA} {p pos tpos : Pos} {elts : List Expr} {kk : Nat} (hg : Gl X "enumerate") (hm : X.mg "enumerate" = none) (ha : VA X W [e] 1 ta) (hs : starEach [e] X.env = [(false, eval e X.env)] := by rfl) :
    VI X W (.Tuple elts kk tpos) (.Call (.Name "enumerate" p) [e] [] pos) (vIEnumT ta) := by
  refine PI.imp (pi_enumT hg hm ha hs) fun σ H R ⟨Y, tv, to, env, Qd, xd, l, k, t, hq, hx⟩ => ?_
  refine ⟨Y, tv, to, env, _, xd, l, k, t, fun ds e vs H' q l1 l2 k' => ?_, hx⟩
  match vs, ds, l1, l2 with
  | [x], [d], _, _ =>
    cases d with
    | tup ds =>
      have k1 : Ok X.K Y (some x :: (tv ++ σ)) (.sh (.tup ds) :: (to ++ e)) H' := k'
      obtain ⟨A0, r0, _⟩ := k1.one'
      cases r0 with
      | @tup a xs _ q0 z0 ra0 =>
        refine ⟨a, xs, rfl, q0.sq, hq (enumD ds) e (IteT X.K a) [some (.ref a)] [.sh (.tup ds)] H' q rfl ⟨by rw [enumD_len, ← ra0.len]; exact z0, ?_, ?_, ?_⟩ k1⟩
        · intro Y vs os H i k1 hi
          rw [enumD_len] at hi
          obtain ⟨A, r, _⟩ := k1.one'
          cases r with
          | @tup _ xs _ q z ra => exact ⟨xs, xs[i]'(by rw [ra.len]; exact hi), q.sq, List.getElem?_eq_getElem _⟩
        · intro Y vs os H i x H2 d k1 hi hy
          obtain ⟨T, y, rfl, hT, rfl, hy⟩ := hy
          obtain ⟨d0, hd0, rfl⟩ := enumD_get hi
          refine Ok.pair k1 hT fun F w => ?_
          cases w with
          | cons c _ =>
            cases c with
            | sh r =>
              cases r with
              | @tup _ xs _ q z ra =>
                obtain ⟨y2, e1, ry⟩ := ra.getD hd0
                have e2 := hy xs q.sq
                rw [e1] at e2
                injection e2 with e2
                subst e2
                exact ⟨.int _, ry⟩
        · intro Y vs os H k1
          obtain ⟨A, r, _⟩ := k1.one'
          cases r with
          | @tup _ xs _ q z ra => exact ⟨xs, q.sq, by rw [enumD_len, ra.len]; exact Nat.le_refl _⟩
    | _ => exact q.elim
/-- zip of two lists -/
def zipD (a b : List D) : List D := a.zipWith (fun x y => D.tup [x, y]) b
def vIZip (te : VTA) : VTA := fun env Q x => te env (fun ds e => match ds with
  | [.lst a, .lst b] => Q (zipD a b) e
  | _ => False) x
theorem vi_zip {e e2 : Expr} {ta : VTA} {p pos tpos : Pos} {elts : List Expr} {kk : Nat} (hg : Gl X "zip") (hm : X.mg "zip" = none) (ha : VA X W [e, e2] 2 ta)
    (hs : starEach [e, e2] X.env = (false, eval e X.env) :: starEach [e2] X.env := by rfl) (hpl : (backTo pos (starEach [e2] X.env)).any (·.1) = false := by rfl) :
    VI X W (.Tuple elts kk tpos) (.Call (.Name "zip" p) [e, e2] [] pos) (vIZip ta) := by
  refine PI.imp (pi_zip hg hm ha hs hpl) fun σ H R ⟨Y, tv, to, env, Qd, xd, l, k, t, hq, hx⟩ => ?_
  refine ⟨Y, tv, to, env, _, xd, l, k, t, fun ds e vs H' q l1 l2 k' => ?_, hx⟩
  match vs, ds, l1, l2 with
  | [x, x2], [d, d2], _, _ =>
    obtain ⟨as, bs, rfl, rfl, q⟩ : ∃ as bs, d = .lst as ∧ d2 = .lst bs ∧ Qd (zipD as bs) e := by
      cases d <;> first | exact q.elim | skip
      cases d2 <;> first | exact q.elim | skip
      exact ⟨_, _, rfl, rfl, q⟩
    have k1 : Ok X.K Y (some x :: some x2 :: (tv ++ σ)) (.sh (.lst as) :: .sh (.lst bs) :: (to ++ e)) H' := k'
    obtain ⟨A0, r2, r1, _⟩ := k1.two'
    cases r1 with
    | @lst a xs _ q0 z0 ra0 =>
      cases r2 with
      | @lst b ys _ q1 z1 ra1 =>
        have open2 : ∀ {Y : Fx} {vs os H}, Ok X.K Y ([some (.ref a), some (.ref b)] ++ vs) ([.sh (.lst as), .sh (.lst bs)] ++ os) H → ∃ xs ys, SqL X.K H a xs ∧ SqL X.K H b ys ∧ xs.length = as.length ∧ ys.length = bs.length := fun {Y vs os H} k => by
          obtain ⟨A, r2, r1, _⟩ := (show Ok X.K Y (some (.ref a) :: some (.ref b) :: vs) (.sh (.lst as) :: .sh (.lst bs) :: os) H from k).two'
          cases r1 with
          | @lst _ xs _ q _ ra =>
            cases r2 with
            | @lst _ ys _ q' _ ra' => exact ⟨xs, ys, q.sq, q'.sq, ra.len, ra'.len⟩
        refine ⟨a, b, xs, ys, rfl, q0.sq, q1.sq, hq (zipD as bs) e (Itz X.K a b) [some (.ref a), some (.ref b)] [.sh (.lst as), .sh (.lst bs)] H' q rfl ⟨?_, ?_, ?_, ?_⟩ k1⟩
        · unfold zipD
          rw [List.length_zipWith, ← ra0.len]; omega
        · intro Y vs os H i k1 hi
          unfold zipD at hi
          rw [List.length_zipWith] at hi
          obtain ⟨xs, ys, h1, h2, e1, e2⟩ := open2 k1
          exact ⟨xs, ys, xs[i]'(by omega), ys[i]'(by omega), h1, h2, List.getElem?_eq_getElem _, List.getElem?_eq_getElem _⟩
        · intro Y vs os H i x H2 d k1 hi hy
          obtain ⟨T, u, w', rfl, hT, rfl, hy1, hy2⟩ := hy
          unfold zipD at hi
          rw [List.getElem?_zipWith] at hi
          cases e1 : as[i]? with
          | none => rw [e1] at hi; cases hi
          | some d1 =>
            cases e2 : bs[i]? with
            | none => rw [e1, e2] at hi; cases hi
            | some d2 =>
              rw [e1, e2] at hi
              injection hi with hi
              subst hi
              refine Ok.pair k1 hT fun F w => ?_
              cases w with
              | cons c w =>
                cases c with
                | sh r1 =>
                  cases w with
                  | cons c _ =>
                    cases c with
                    | sh r2 =>
                      cases r1 with
                      | @lst _ xs _ q z ra =>
                        cases r2 with
                        | @lst _ ys _ q' z' ra' =>
                          obtain ⟨y1, f1, ry1⟩ := ra.getD e1
                          obtain ⟨y2, f2, ry2⟩ := ra'.getD e2
                          have g1 := hy1 xs (q.sq)
                          have g2 := hy2 ys (q'.sq)
                          rw [f1] at g1
                          rw [f2] at g2
                          injection g1 with g1
                          injection g2 with g2
                          subst g1 g2
                          exact ⟨ry1, ry2⟩
        · intro Y vs os H k1
          obtain ⟨xs, ys, h1, h2, e1, e2⟩ := open2 k1
          refine ⟨xs, ys, h1, h2, ?_⟩
          unfold zipD
          rw [List.length_zipWith]; omega
/-- the signs of a text -/
def signsD (z : Str) : List D := z.cps.toList.map fun c => D.str ⟨#[c]⟩
def vIStr (te : VT) : VTA := fun env Q x => te env (fun o e => match o with
  | .sh (.str z) => z.length ≤ sizeLine ∧ Q (signsD z) e
  | _ => False) x
theorem vi_str {e : Expr} {te : VT} (he : VE X W e te) : VI X W tg e (vIStr te) := by
  refine PI.imp (pi_str he) fun σ H R ⟨Y, tv, to, env, Qd, xd, l, k, t, hq, hx⟩ => ?_
  refine ⟨Y, tv, to, env, _, xd, l, k, t, fun o e v H' q k' => ?_, hx⟩
  cases o <;> first | exact q.elim | skip
  rename_i d
  cases d <;> first | exact q.elim | skip
  rename_i z
  obtain ⟨A, r⟩ := k'.one
  refine ⟨z, r.str_inv, hq (signsD z) e (Its z) [] [] H' q.2 rfl ⟨?_, ?_, ?_, ?_⟩ k'.pop⟩
  · unfold signsD
    rw [List.length_map]; exact q.1
  · intro Y vs os H i k1 hi
    unfold signsD at hi
    rw [List.length_map] at hi
    exact hi
  · intro Y vs os H1 i x H d k1 hi hy
    obtain ⟨rfl, c, hc, rfl⟩ := hy
    unfold signsD at hi
    rw [List.getElem?_map] at hi
    have e1 : z.cps.toList[i]? = some c := by rw [Array.getElem?_toList]; exact hc
    rw [e1] at hi
    injection hi with hi
    subst hi
    exact k1.push (F := []) fun _ => .str _
  · intro Y vs os H k1
    show z.cps.size ≤ _
    unfold signsD
    rw [List.length_map]; exact Nat.le_refl _
/-! ### calls without arguments -/
theorem ve_call0 {x : Str} {p pos : Pos} {k : Nat} {ps : List Str} {f : Addr} {m : VM} (C : Cal X.prog X.w X.K X.mg X.base k f ps (spV X.K 0 m)) (hr : Room k X.A) (hg : Gl X x) (hm : X.mg x = some (.ref f)) (hp : ∀ σ, PassesAt (L2.CX X.prog X.w) X σ (WE W σ))
    (hdb : (x == ("__debug__" : Str)) = false := by decide) : VE X W (.Call (.Name x p) [] [] pos) (vCall m vANil) :=
  PE.imp (pe_cal0 C hr hg hm hp hdb) fun σ H Q h => by
    obtain ⟨Y, tv, to, env, Qd, xd, l, k, t, hq, hx⟩ := call_lift (n := 0) h
    exact hq [] env [] H t rfl rfl k
theorem ve_met0 {ob : Expr} {apos pos : Pos} {k : Nat} {ps : List Str} {f : Addr} {c mn : Str} {m : VM} {ta : VT} {pl : Sem Bool} (he : VE X W ob ta) (hcl : Cls X.K (He.ga X.K c)) (hm : Meth X.K (He.ga X.K c) mn f) (C : Cal X.prog X.w X.K X.mg X.base k f ps (spV X.K 1 m)) (hr : Room k X.A) (hp : ∀ σ, PassesAt (L2.CX X.prog X.w) X σ (WE W σ))
    (ht : eval (.Call (.Attribute ob mn apos) [] [] pos) X.env = (do
      let ov ← eval ob X.env
      standAt apos.atName
      let (f, first) ← holding [ov] (getMethod ov mn pl)
      callWith pos f first (backTo pos (starEach [] X.env)) (backToKw pos (keywordEach [] X.env))) := by rfl) :
    VE X W (.Call (.Attribute ob mn apos) [] [] pos) (vMet c mn m ta vANil) :=
  PE.imp (pe_met0 he hcl hm C hr hp ht) fun σ H Q h => by
    obtain ⟨Y, tv, to, env, Qd, xd, l, k, t, hq, hx⟩ := met_lift (n := 0) h
    refine ⟨Y, tv, to, env, Qd, xd, l, k, t, fun o e v H' q k' => ?_, hx⟩
    obtain ⟨a, dx, fs, e1, e2, e3, Y2, tv2, to2, env2, Qd2, xd2, l2, k2, t2, hq2, hx2⟩ := hq o e v H' q k'
    exact ⟨a, dx, fs, e1, e2, e3, hq2 [] env2 [] H' t2 rfl rfl k2⟩
end
end Hd
namespace Hd
/-! ### the value layer: dicts, keywords, makers, further methods -/
section
open PySem PySem.Spec PyProof.Rows L2
variable {K : PySem.W.Frag} {W : WX} {H H' : Hp} {Y : Fx} {vs tv : List (Option V)} {os to env : List O} {v : V} {d : D} {o : O} {σ : L2.St} {X : Cx} {A : List Addr}
theorem vs_never {st : Stmt} : VS X W st (fun _ _ => False) := PS.imp ps_never fun D σ H ⟨Y, tv, to, env, E, l, k, t, s⟩ => t
abbrev vNever : VTS := fun _ _ => False
def vNeg (t : VT) : VT := fun env Q x => t env (fun o e => match o with
  | .sh (.int i) => Q (.sh (.int (-i))) e
  | _ => False) x
theorem ve_neg {a : Expr} {ta : VT} {pos : Pos} (ha : VE X W a ta) : VE X W (.UnaryOp .USub a pos) (vNeg ta) := by
  refine PE.imp (pe_un un_neg ha) fun σ H Q ⟨Y, tv, to, env, Qd, xd, l, k, t, hq, hx⟩ => ?_
  refine ⟨Y, tv, to, env, _, xd, l, k, t, fun o e v H' q k => ?_, hx⟩
  cases o <;> first | exact q.elim | skip
  rename_i d
  cases d <;> first | exact q.elim | skip
  obtain ⟨A, r, up⟩ := k.one'
  exact ⟨_, r.int_inv, hq _ _ _ _ q (up (.int _))⟩
/-! ### dicts, as lists of pairs -/
noncomputable def dGet (es : List (D × D)) (k : D) : Option D := (es.find? fun p => decide (p.1 = k)).map (·.2)
noncomputable def dPut (es : List (D × D)) (k v : D) : List (D × D) := if (es.any fun p => decide (p.1 = k)) = true then es.map (fun p => if p.1 = k then (p.1, v) else p) else es ++ [(k, v)]
theorem keyD_inj {a b : Key} (h : keyD a = keyD b) : a = b := by
  cases a <;> cases b <;> simp [keyD] at h <;> rw [h]
theorem keysD_inj {a b : List Key} (h : keysD a = keysD b) : a = b := by
  unfold keysD at h
  injection h with h
  exact List.map_inj_right (fun _ _ q => keyD_inj q) |>.mp h
section
variable {κ : Type} [DecidableEq κ] {f : κ → D}
theorem dget_rel (inj : ∀ {a b}, f a = f b → a = b) (k : κ) : ∀ {kvs : List (κ × V)} {es : List (D × D)}, RpA K A H (kvs.map (·.2)) (es.map (·.2)) → es.map (·.1) = kvs.map (fun p => f p.1) →
    (dGet es (f k) = none ∧ valV kvs k = none) ∨ ∃ d v, dGet es (f k) = some d ∧ valV kvs k = some v ∧ Rp K A H v d
  | [], [], _, _ => .inl ⟨rfl, rfl⟩
  | [], _ :: _, _, e => by cases e
  | _ :: _, [], _, e => by cases e
  | (a, v) :: kvs, (b, d) :: es, r, e => by
    obtain ⟨e1, e2⟩ := List.cons.inj (show b :: es.map (·.1) = f a :: kvs.map (fun p => f p.1) from e)
    subst e1
    cases r with
    | cons r t =>
      by_cases q : a = k
      · subst q
        refine .inr ⟨d, v, ?_, ?_, r⟩
        · unfold dGet; rw [List.find?_cons_of_pos (by simp)]; rfl
        · unfold valV; rw [List.find?_cons_of_pos (by simp)]; rfl
      · have q2 : ¬ f a = f k := fun z => q (inj z)
        have s1 : dGet ((f a, d) :: es) (f k) = dGet es (f k) := by unfold dGet; rw [List.find?_cons_of_neg (by simpa using q2)]
        have s2 : valV ((a, v) :: kvs) k = valV kvs k := by unfold valV; rw [List.find?_cons_of_neg (by simpa using q)]
        rw [s1, s2]
        exact dget_rel inj k t e2
theorem dput_rel (inj : ∀ {a b}, f a = f b → a = b) (k : κ) {v : V} {d : D} (rv : Rp K A H v d) {kvs : List (κ × V)} {es : List (D × D)} (r : RpA K A H (kvs.map (·.2)) (es.map (·.2))) (e : es.map (·.1) = kvs.map (fun p => f p.1)) :
    RpA K A H ((putK kvs k v).map (·.2)) ((dPut es (f k) d).map (·.2)) ∧ (dPut es (f k) d).map (·.1) = (putK kvs k v).map (fun p => f p.1) := by
  have ea : ∀ {kvs : List (κ × V)} {es : List (D × D)}, es.map (·.1) = kvs.map (fun p => f p.1) → (es.any fun p => decide (p.1 = f k)) = (kvs.any fun p => decide (p.1 = k)) := by
    intro kvs
    induction kvs with
    | nil => intro es e; cases es with
      | nil => rfl
      | cons _ _ => cases e
    | cons p kvs ih =>
      intro es e
      cases es with
      | nil => cases e
      | cons q es =>
        obtain ⟨e1, e2⟩ := List.cons.inj (show q.1 :: es.map (·.1) = f p.1 :: kvs.map (fun p => f p.1) from e)
        rw [List.any_cons, List.any_cons, ih e2, e1]
        congr 1
        by_cases z : p.1 = k
        · simp [z]
        · have : ¬ f p.1 = f k := fun y => z (inj y)
          simp [z, this]
  unfold dPut putK
  rw [ea e]
  by_cases h : (kvs.any fun p => decide (p.1 = k)) = true
  · rw [if_pos h, if_pos h]
    clear h
    induction kvs generalizing es with
    | nil => cases es with
      | nil => exact ⟨.nil, rfl⟩
      | cons _ _ => cases e
    | cons p kvs ih =>
      cases es with
      | nil => cases e
      | cons q es =>
        obtain ⟨e1, e2⟩ := List.cons.inj (show q.1 :: es.map (·.1) = f p.1 :: kvs.map (fun p => f p.1) from e)
        cases r with
        | cons r t =>
          obtain ⟨i1, i2⟩ := ih t e2
          by_cases z : p.1 = k
          · have : q.1 = f k := by rw [e1, z]
            simp only [List.map_cons, z, this, if_true]
            refine ⟨.cons rv i1, ?_⟩
            rw [i2]
          · have : ¬ q.1 = f k := fun y => z (inj (by rw [← e1, y]))
            simp only [List.map_cons, z, this, if_false]
            refine ⟨.cons r i1, ?_⟩
            rw [i2, e1]
  · rw [if_neg h, if_neg h, List.map_append, List.map_append, List.map_append, List.map_append, e]
    exact ⟨r.app (.cons rv .nil), rfl⟩
theorem putK_len (kvs : List (κ × V)) (k : κ) (v : V) : (putK kvs k v).length ≤ kvs.length + 1 := by
  unfold putK
  split
  · rw [List.length_map]; omega
  · rw [List.length_append]; simp
end
/-- keys: a number, a text, or a tuple of both -/
def keyOk : D → Bool
  | .int _ => true
  | .str _ => true
  | .tup ds => mixed ds && ds.all fun d => isIntD d || isStrD d
  | _ => false
def tupKey : D → Bool
  | .tup _ => true
  | _ => false
theorem key_of {y : V} {k : D} (h : keyOk k = true) (r : Rp K A H y k) : (tupKey k = false ∧ ∃ q : Key, y = kV q ∧ k = keyD q) ∨ (tupKey k = true ∧ ∃ (b : Addr) (qs : List Key), y = .ref b ∧ H b = some (.tup (qs.map kV)) ∧ k = keysD qs) := by
  cases k <;> first | (cases h; done) | skip
  · rename_i i
    exact .inl ⟨rfl, .inl i, r.int_inv, rfl⟩
  · rename_i i
    exact .inl ⟨rfl, .inr i, r.str_inv, rfl⟩
  · rename_i ds
    obtain ⟨h1, h2⟩ := Bool.and_eq_true_iff.mp (show (mixed ds && ds.all fun d => isIntD d || isStrD d) = true from h)
    cases r with
    | @tup a xs _ q z ra =>
      rcases q with q | q
      · have go : ∀ {ds : List D} {xs : List V}, (ds.all fun d => isIntD d || isStrD d) = true → RpA K A H xs ds → ∃ qs : List Key, xs = qs.map kV ∧ ds = qs.map keyD := by
          intro ds
          induction ds with
          | nil => intro xs _ r; cases r; exact ⟨[], rfl, rfl⟩
          | cons d ds ih =>
            intro xs h r
            obtain ⟨g1, g2⟩ := Bool.and_eq_true_iff.mp (show ((isIntD d || isStrD d) && ds.all fun d => isIntD d || isStrD d) = true from h)
            cases r with
            | cons r t =>
              obtain ⟨qs, e1, e2⟩ := ih g2 t
              cases d <;> first | (cases g1; done) | skip
              · rename_i i
                exact ⟨.inl i :: qs, by rw [r.int_inv, e1]; rfl, by rw [e2]; rfl⟩
              · rename_i i
                exact ⟨.inr i :: qs, by rw [r.str_inv, e1]; rfl, by rw [e2]; rfl⟩
        obtain ⟨qs, e1, e2⟩ := go h2 ra
        subst e1
        exact .inr ⟨rfl, a, qs, rfl, q, by unfold keysD; rw [e2]⟩
      · rw [h1] at q; cases q.2
theorem dget_of {x y : V} {t : Bool} {es : List (D × D)} {k : D} (hk : keyOk k = true) (r : Rp K A H x (.dic t es)) (ry : Rp K A H y k) (hs : tupKey k = t) : ∃ a, x = .ref a ∧ ((dGet es k = none ∧ DGet H a y none) ∨ ∃ d v, dGet es k = some d ∧ DGet H a y (some v) ∧ Rp K A H v d) := by
  cases r with
  | @dic a kvs _ q z n ra e =>
    refine ⟨a, rfl, ?_⟩
    rcases key_of hk ry with ⟨h1, q1, rfl, rfl⟩ | ⟨h1, _⟩
    · rcases dget_rel keyD_inj q1 ra e with ⟨g1, g2⟩ | ⟨d, v, g1, g2, g3⟩
      · exact .inl ⟨g1, .inl ⟨kvs, q1, q, rfl, g2.symm⟩⟩
      · exact .inr ⟨d, v, g1, .inl ⟨kvs, q1, q, rfl, g2.symm⟩, g3⟩
    · rw [h1] at hs; cases hs
  | @dicT a kvs _ q z n ra e =>
    refine ⟨a, rfl, ?_⟩
    rcases key_of hk ry with ⟨h1, _⟩ | ⟨h1, b, qs, rfl, hb, rfl⟩
    · rw [h1] at hs; cases hs
    · rcases dget_rel keysD_inj qs ra e with ⟨g1, g2⟩ | ⟨d, v, g1, g2, g3⟩
      · exact .inl ⟨g1, .inr ⟨kvs, qs, b, q, rfl, hb, g2.symm⟩⟩
      · exact .inr ⟨d, v, g1, .inr ⟨kvs, qs, b, q, rfl, hb, g2.symm⟩, g3⟩
theorem find_some {es : List (D × D)} {k d : D} (h : dGet es k = some d) : es ≠ [] := fun e => by subst e; cases h
/-- d[k] -/
def gDG : G2 := fun a k Q => match a with
  | .dic t es => keyOk k = true ∧ tupKey k = t ∧ (match dGet es k with
    | some d => Q (.sh d)
    | none => False)
  | _ => False
theorem ve_dget {oe ie : Expr} {ta tb : VT} {pos : Pos} (hu : X.A.units + 1 < cLine) (ha : VE X W oe ta) (hb : VE X W ie tb) (hs : NoSl ie) : VE X W (.Subscript oe ie pos) (vOp gDG ta tb) := by
  refine PE.imp (pe_dget hu ha hb hs) fun σ H Q ⟨Y, tv, to, env, Qd, xd, l, k, t, hq, hx⟩ => ?_
  refine ⟨Y, tv, to, env, _, xd, l, k, t, fun o1 e1 v1 H1 h1 k1 => ?_, hx⟩
  obtain ⟨d1, t1, k1⟩ := k1.fz h1
  refine ⟨Y, some v1 :: tv, .sh d1 :: to, e1, _, xd, by simp [l], k1, t1, fun o2 e2 v2 H2 h2 k2 => ?_, hx.push⟩
  obtain ⟨d2, t2, k2⟩ := k2.fz h2
  obtain ⟨tt, es, rfl, c1, c2, t2⟩ : ∃ tt es, d1 = .dic tt es ∧ keyOk d2 = true ∧ tupKey d2 = tt ∧ (match dGet es d2 with
    | some d => Qd (.sh d) e2
    | none => False) := by
    cases d1 <;> first | exact t2.elim | skip
    exact ⟨_, _, rfl, t2⟩
  cases e : dGet es d2 with
  | none => rw [e] at t2; exact t2.elim
  | some d =>
    rw [e] at t2
    obtain ⟨A, r1, r2, up⟩ := k2.two'
    obtain ⟨a, rfl, h | ⟨d', v, g1, g2, g3⟩⟩ := dget_of c1 r1 r2 c2
    · rw [h.1] at e; cases e
    · rw [e] at g1
      injection g1 with g1
      subst g1
      exact ⟨a, v, rfl, g2, hq _ _ _ _ t2 (up g3)⟩
/-! ### keyword calls -/
def VKw (X : Cx) (W : WX) (kws : List Keyword) (n : Nat) (t : VTA) : Prop := PK X kws (lA X.K W n t)
theorem PK.imp {es : List Keyword} {r r' : TA} (h : PK X es r) (i : ∀ σ H Q, r' σ H Q → r σ H Q) : PK X es r' := ⟨fun pos pins s σ H Q I q => h.run pos pins s σ H Q I (i σ H Q q)⟩
theorem vk_nil : VKw X W [] 0 vANil := PK.imp pk_nil fun σ H Q ⟨Y, tv, to, env, Qd, xd, l, k, t, hq, hx⟩ => hq [] env [] H t rfl rfl k
theorem vk_cons {e : Expr} {kws : List Keyword} {n : Nat} {te : VT} {t : VTA} {nm : Option Str} {kpos : Pos} (h : VE X W e te) (hr : VKw X W kws n t) : VKw X W (⟨nm, e, kpos⟩ :: kws) (n + 1) (vACons te t) := by
  refine PK.imp (pk_cons h hr) fun σ H Q ⟨Y, tv, to, env, Qd, xd, l, k, t, hq, hx⟩ => ?_
  refine ⟨Y, tv, to, env, _, xd, l, k, t, fun o e v H' q k => ?_, hx⟩
  obtain ⟨d, t2, k⟩ := k.fz q
  refine ⟨Y, some v :: tv, .sh d :: to, e, _, xd, by simp [l], k, t2, fun ds e2 vs H2 q2 l1 l2 k2 => ?_, hx.push⟩
  refine hq (d :: ds) e2 (v :: vs) H2 q2 (by simp [l1]) (by simp [l2]) ?_
  exact Ok.rot (xs := vs.map some) (ys := ds.map O.sh) (by simp [l1, l2]) k2
/-- how the arguments come to the parameters -/
def GRel (K : PySem.W.Frag) (gV : List V → List V → List V) (gD : List D → List D → List D) : Prop := ∀ {A H vs ds zs es}, RpA K A H vs ds → RpA K A H zs es → RpA K A H (gV vs zs) (gD ds es)
theorem OwA.sh_all : ∀ {xs : List V} {ds : List D}, RpA K A H xs ds → OwA K A H (xs.map some) (ds.map O.sh) []
  | _, _, .nil => .nil
  | _, _, .cons r t => OwA.cons (F := []) (G := []) (.sh r) (OwA.sh_all t)
/-- other shared things in their place, made of them -/
theorem Ok.remap {xs ys : List V} {ds es : List D} (l : xs.length = ds.length) (k : Ok K Y (xs.map some ++ vs) (ds.map O.sh ++ os) H) (h : ∀ {A}, RpA K A H xs ds → RpA K A H ys es) : Ok K Y (ys.map some ++ vs) (es.map O.sh ++ os) H := by
  obtain ⟨F, w, nd, b⟩ := k.ex
  obtain ⟨F1, F2, e, w1, w2⟩ := w.split (by simpa using l)
  obtain ⟨rfl, r⟩ := w1.all_sh
  subst e
  exact ⟨⟨_, (OwA.sh_all (h r)).app w2, nd, b⟩, k.st, k.al, k.ba⟩
theorem RpA.split : ∀ {xs ys : List V} {ds es : List D}, xs.length = ds.length → RpA K A H (xs ++ ys) (ds ++ es) → RpA K A H xs ds ∧ RpA K A H ys es
  | [], _, [], _, _, h => ⟨.nil, h⟩
  | [], _, _ :: _, _, l, _ => by cases l
  | _ :: _, _, [], _, l, _ => by cases l
  | _ :: _, _, _ :: _, _, l, h => by
    cases h with
    | cons r t =>
      obtain ⟨a, b⟩ := RpA.split (Nat.succ.inj l) t
      exact ⟨.cons r a, b⟩
def vCallK (m : VM) (gD : List D → List D → List D) (ta tk : VTA) : VT := fun env Q x => ta env (fun ds e => tk e (fun es e2 => m ((gD ds es).map O.sh) (fun o _ => Q o e2) (fun c f d _ => x c f d e2)) x) x
theorem callK_lift {n mk N : Nat} {m : VM} {gV : List V → List V → List V} {gD : List D → List D → List D} {ta tk : VTA} {Q : VK} (hg : GRel K gV gD) (hl : ∀ vs zs : List V, vs.length = n → zs.length = mk → (gV vs zs).length = N)
    (h : lE K W (vCallK m gD ta tk) σ H Q) : tCallKS n mk (spV K N m) gV (WE W) (lA K W n ta) (lA K W mk tk) σ H Q := by
  obtain ⟨Y, tv, to, env, Qd, xd, l, k, t, hq, hx⟩ := h
  refine ⟨Y, tv, to, env, _, xd, l, k, t, fun ds e vs H1 q l1 l2 k1 => ?_, hx⟩
  refine ⟨Y, vs.map some ++ tv, ds.map O.sh ++ to, e, _, xd, by simp [l, l1, l2], by simpa using k1, q, fun es e2 zs H2 q2 m1 m2 k2 => ⟨l1, m1, ?_⟩, xOk.pushn (by simp [l1, l2]) hx⟩
  have k3 : Ok K Y ((zs ++ vs).map some ++ (tv ++ σ)) ((es ++ ds).map O.sh ++ (to ++ e2)) H2 := by simpa using k2
  have k4 : Ok K Y ((gV vs zs).map some ++ (tv ++ σ)) ((gD ds es).map O.sh ++ (to ++ e2)) H2 := k3.remap (by simp [l1, l2, m1, m2]) fun r => by
    obtain ⟨a, b⟩ := r.split (by omega)
    exact hg b a
  have ll : (gV vs zs).length = (gD ds es).length := by
    have := k4.len
    have h2 := k1.len
    have h3 := k2.len
    simp at this h2 h3
    omega
  obtain ⟨A, F, w, nd, fa, al, up⟩ := Ok.call (xs := (gV vs zs).map some) (us := (gD ds es).map O.sh) (by simp [ll]) k4
  refine ⟨A, F, _, _, _, hl vs zs l1 m1, w, nd, fa, al, q2, fun o bk v ws H' q k2 => ?_, fun c f d bk v a ws H' q k2 ea => ?_⟩
  · have k3 := up k2
    exact hq _ _ _ _ q (Ok.dropn (xs := ws) (ys := bk) (Nat.succ.inj k2.len) (by simpa using k3))
  · have k3 := up k2
    exact hx _ _ _ _ _ _ _ q (Ok.dropn (xs := ws) (ys := bk) (Nat.succ.inj k2.len) (by simpa using k3)) ea
section
variable {e : Expr} {es : List Expr} {kws : List Keyword} {x : Str} {p pos : Pos} {k n N : Nat} {ps ks : List Str} {f : Addr} {m : VM} {ta tk : VTA} {gV : List V → List V → List V} {gD : List D → List D → List D}
theorem ve_callK (C : CalK X.prog X.w X.K X.mg X.base k f ps (spV X.K N m) n ks gV) (hrel : GRel X.K gV gD) (hl : ∀ vs zs : List V, vs.length = n → zs.length = ks.length → (gV vs zs).length = N) (hr : Room k X.A) (hg : Gl X x) (hm : X.mg x = some (.ref f)) (hp : ∀ σ, PassesAt (L2.CX X.prog X.w) X σ (WE W σ)) (ha : VA X W (e :: es) n ta) (hkw : VKw X W kws ks.length tk)
    (hall : (backToKw pos (keywordEach kws X.env)).all (·.1.isSome) = true := by rfl) (hks : (backToKw pos (keywordEach kws X.env)).filterMap (·.1) = ks := by rfl)
    (hdb : (x == ("__debug__" : Str)) = false := by decide) (he : starEach (e :: es) X.env = (false, eval e X.env) :: starEach es X.env := by rfl)
    (hpl : ((backTo pos (starEach (e :: es) X.env)).any (·.1) || (backToKw pos (keywordEach kws X.env)).any (·.1.isNone)) = false := by rfl) :
    VE X W (.Call (.Name x p) (e :: es) kws pos) (vCallK m gD ta tk) := PE.imp (pe_calK C hr hg hm hp ha hkw hall hks hdb he hpl) fun _ _ _ h => callK_lift hrel hl h
theorem ve_callK0 (C : CalK X.prog X.w X.K X.mg X.base k f ps (spV X.K N m) 0 ks gV) (hrel : GRel X.K gV gD) (hl : ∀ vs zs : List V, vs.length = 0 → zs.length = ks.length → (gV vs zs).length = N) (hr : Room k X.A) (hg : Gl X x) (hm : X.mg x = some (.ref f)) (hp : ∀ σ, PassesAt (L2.CX X.prog X.w) X σ (WE W σ)) (hkw : VKw X W kws ks.length tk)
    (hall : (backToKw pos (keywordEach kws X.env)).all (·.1.isSome) = true := by rfl) (hks : (backToKw pos (keywordEach kws X.env)).filterMap (·.1) = ks := by rfl)
    (hdb : (x == ("__debug__" : Str)) = false := by decide)
    (hpl : ((backTo pos (starEach [] X.env)).any (·.1) || (backToKw pos (keywordEach kws X.env)).any (·.1.isNone)) = false := by rfl) :
    VE X W (.Call (.Name x p) [] kws pos) (vCallK m gD vANil tk) := PE.imp (pe_calK0 C hr hg hm hp hkw hall hks hdb hpl) fun σ H Q h => by
  obtain ⟨Y, tv, to, env, Qd, xd, l, k, t, hq, hx⟩ := callK_lift (n := 0) hrel hl h
  exact hq [] env [] H t rfl rfl k
end
end
end Hd
namespace Hd
/-! ### the value layer: methods with keywords, makers, displays and stores of dicts, more methods of lists -/
section
open PySem PySem.Spec PyProof.Rows L2
variable {K : PySem.W.Frag} {W : WX} {H H' : Hp} {Y : Fx} {vs tv : List (Option V)} {os to env : List O} {v : V} {d : D} {o : O} {σ : L2.St} {X : Cx} {A : List Addr}
/-- the first argument stays the first parameter -/
def Self (gV : List V → List V → List V) (gW : List V → List V → List V) : Prop := ∀ x vs zs, gV (x :: vs) zs = x :: gW vs zs
def vMetK (c mn : Str) (m : VM) (gD : List D → List D → List D) (ta : VT) (t tk : VTA) : VT := fun env Q x => ta env (fun o e => match o with
  | .sh (.obj a c' fs) => c' = c ∧ fs.lookup mn = none ∧ t e (fun ds e1 => tk e1 (fun es e2 => m (.sh (.obj a c' fs) :: (gD ds es).map O.sh) (fun o _ => Q o e2) (fun c f d _ => x c f d e2)) x) x
  | _ => False) x
theorem metK_lift {c mn : Str} {n mk N : Nat} {m : VM} {gV gW : List V → List V → List V} {gD : List D → List D → List D} {ta : VT} {t tk : VTA} {Q : VK} (hs : Self gV gW) (hg : GRel K gW gD) (hl : ∀ vs zs : List V, vs.length = n → zs.length = mk → (gW vs zs).length = N)
    (h : lE K W (vMetK c mn m gD ta t tk) σ H Q) : tMetKS (He.ga K c) mn (n + 1) mk (spV K (N + 1) m) gV (WE W) (lE K W ta) (lA K W n t) (lA K W mk tk) σ H Q := by
  obtain ⟨Y, tv, to, env, Qd, xd, l, k, t, hq, hx⟩ := h
  refine ⟨Y, tv, to, env, _, xd, l, k, t, fun o e v H' q k' => ?_, hx⟩
  cases o with
  | sh d =>
    cases d with
    | obj a c' fs =>
      obtain ⟨rfl, q1, q⟩ := q
      obtain ⟨A, r, up⟩ := k'.one'
      cases r with
      | @obj _ _ dx gs _ h n ra ek =>
        refine ⟨a, dx, gs, rfl, h, look_none ek q1, ?_⟩
        refine ⟨Y, some (.ref a) :: tv, .sh (.obj a c' fs) :: to, e, _, xd, by simp [l], k', q, fun ds e1 vs H1 q l1 l2 k1 => ?_, hx.push⟩
        refine ⟨Y, vs.map some ++ (some (.ref a) :: tv), ds.map O.sh ++ (.sh (.obj a c' fs) :: to), e1, _, xd, by simp [l, l1, l2], by simpa using k1, q, fun es e2 zs H2 q2 m1 m2 k2 => ⟨by omega, m1, ?_⟩, xOk.pushn (by simp [l1, l2]) hx.push⟩
        have k3 : Ok K Y ((zs ++ vs).map some ++ (some (.ref a) :: (tv ++ σ))) ((es ++ ds).map O.sh ++ (.sh (.obj a c' fs) :: (to ++ e2))) H2 := by simpa using k2
        have k4 : Ok K Y ((gW vs zs).map some ++ (some (.ref a) :: (tv ++ σ))) ((gD ds es).map O.sh ++ (.sh (.obj a c' fs) :: (to ++ e2))) H2 := k3.remap (by simp [l1, l2, m1, m2]) fun r => by
          obtain ⟨a, b⟩ := r.split (by omega)
          exact hg b a
        have ll : (gW vs zs).length = (gD ds es).length := by
          have := k4.len
          have h2 := k1.len
          have h3 := k2.len
          simp at this h2 h3
          omega
        have k5 := Ok.rot (xs := (gW vs zs).map some) (ys := (gD ds es).map O.sh) (by simp [ll]) k4
        obtain ⟨A, F, w, nd, fa, al, up⟩ := Ok.call (xs := (V.ref a :: gW vs zs).map some) (us := .sh (.obj a c' fs) :: (gD ds es).map O.sh) (by simp [ll]) k5
        rw [hs]
        refine ⟨A, F, _, _, _, by simp [hl vs zs l1 m1], w, nd, fa, al, q2, fun o bk v ws H' q k2 => ?_, fun c f d bk v a ws H' q k2 ea => ?_⟩
        · have k3 := up k2
          exact hq _ _ _ _ q (Ok.dropn (xs := ws) (ys := bk) (Nat.succ.inj k2.len) (by simpa using k3))
        · have k3 := up k2
          exact hx _ _ _ _ _ _ _ q (Ok.dropn (xs := ws) (ys := bk) (Nat.succ.inj k2.len) (by simpa using k3)) ea
    | _ => exact q.elim
  | _ => exact q.elim
/-- C(.., k = ..) -/
def vMk (c : Str) (m : VM) (gD : List D → List D → List D) (ta tk : VTA) : VT := fun env Q x => ta env (fun ds e => tk e (fun es e2 => ∀ p, m (.oo p c [] :: (gD ds es).map O.sh) (fun o bk => o = .sh .non ∧ (match bk with
  | [b] => b.root = some p ∧ Q b e2
  | _ => False)) (fun c f d _ => x c f d e2)) x) x
theorem mk_lift {c : Str} {n mk N : Nat} {m : VM} {gV gW : List V → List V → List V} {gD : List D → List D → List D} {ta tk : VTA} {Q : VK} (hs : Self gV gW) (hg : GRel K gW gD) (hl : ∀ vs zs : List V, vs.length = n → zs.length = mk → (gW vs zs).length = N)
    (h : lE K W (vMk c m gD ta tk) σ H Q) : tMakeKS (He.ga K c) n mk (spV K (N + 1) m) gV (WE W) (lA K W n ta) (lA K W mk tk) σ H Q := by
  obtain ⟨Y, tv, to, env, Qd, xd, l, k, t, hq, hx⟩ := h
  refine ⟨Y, tv, to, env, _, xd, l, k, t, fun ds e vs H1 q l1 l2 k1 => ?_, hx⟩
  refine ⟨Y, vs.map some ++ tv, ds.map O.sh ++ to, e, _, xd, by simp [l, l1, l2], by simpa using k1, q, fun es e2 zs H2 q2 m1 m2 k2 => ⟨l1, m1, fun x dx hx0 hdx ne => ?_⟩, xOk.pushn (by simp [l1, l2]) hx⟩
  have k3 : Ok K Y ((zs ++ vs).map some ++ (tv ++ σ)) ((es ++ ds).map O.sh ++ (to ++ e2)) H2 := by simpa using k2
  have k4 : Ok K Y ((gW vs zs).map some ++ (tv ++ σ)) ((gD ds es).map O.sh ++ (to ++ e2)) H2 := k3.remap (by simp [l1, l2, m1, m2]) fun r => by
    obtain ⟨a, b⟩ := r.split (by omega)
    exact hg b a
  have ll : (gW vs zs).length = (gD ds es).length := by
    have := k4.len
    have h2 := k1.len
    have h3 := k2.len
    simp at this h2 h3
    omega
  have k5 := k4.nw (.mk' (o := .own x) hdx)
  have k6 : Ok K Y (some (.ref x) :: ((gW vs zs).map some ++ (tv ++ σ))) (.oo x c [] :: ((gD ds es).map O.sh ++ (to ++ e2))) (upd (upd H2 dx (.own x)) x (.ins (He.ga K c) dx [])) :=
    k5.own (F0 := []) (.mk' (by rw [upd_ne (Ne.symm ne)]; exact hx0)) fun A F w nx => OwC.oo (F := []) (es := []) upd_same .nil rfl
  obtain ⟨A, F, w, nd, fa, al, up⟩ := Ok.call (xs := (V.ref x :: gW vs zs).map some) (us := .oo x c [] :: (gD ds es).map O.sh) (by simp [ll]) k6
  rw [hs]
  refine ⟨A, F, _, _, _, by simp [hl vs zs l1 m1], w, nd, fa, al, q2 x, fun o bk v ws H' q k2 => ?_, fun c f d bk v a ws H' q k2 ea => ?_⟩
  · obtain ⟨rfl, q⟩ := q
    match bk, q with
    | [b], ⟨q1, q2⟩ =>
      have k3 := up k2
      obtain ⟨_, r⟩ := k2.one
      refine ⟨r.non_inv, ?_⟩
      match ws, k2.len with
      | [w1], _ =>
        have k4 : Ok K Y (some v :: w1 :: (tv ++ σ)) (.sh .non :: b :: (to ++ e2)) H' := by simpa using k3
        have k5 := k4.pop
        obtain ⟨F', w', _⟩ := k5.ex
        cases w' with
        | cons c _ =>
          obtain ⟨rfl, _⟩ := c.root q1
          exact hq _ _ _ _ q2 k5
  · have k3 := up k2
    exact hx _ _ _ _ _ _ _ q (Ok.dropn (xs := ws) (ys := bk) (Nat.succ.inj k2.len) (by simpa using k3)) ea
section
variable {e ob : Expr} {es : List Expr} {kws : List Keyword} {x : Str} {p apos pos : Pos} {k n N : Nat} {ps ks : List Str} {f : Addr} {c mn : Str} {m : VM} {ta0 : VT} {ta tk : VTA} {gV gW : List V → List V → List V} {gD : List D → List D → List D}
theorem ve_metK {pl : Sem Bool} (he : VE X W ob ta0) (hcl : Cls X.K (He.ga X.K c)) (hm : Meth X.K (He.ga X.K c) mn f) (C : CalK X.prog X.w X.K X.mg X.base k f ps (spV X.K (N + 1) m) (n + 1) ks gV) (hs : Self gV gW) (hrel : GRel X.K gW gD) (hl : ∀ vs zs : List V, vs.length = n → zs.length = ks.length → (gW vs zs).length = N) (hr : Room k X.A) (hp : ∀ σ, PassesAt (L2.CX X.prog X.w) X σ (WE W σ)) (ha : VA X W (e :: es) n ta) (hkw : VKw X W kws ks.length tk)
    (hall : (backToKw pos (keywordEach kws X.env)).all (·.1.isSome) = true := by rfl) (hks : (backToKw pos (keywordEach kws X.env)).filterMap (·.1) = ks := by rfl)
    (hst : starEach (e :: es) X.env = (false, eval e X.env) :: starEach es X.env := by rfl)
    (hpl : ((backTo pos (starEach (e :: es) X.env)).any (·.1) || (backToKw pos (keywordEach kws X.env)).any (·.1.isNone)) = false := by rfl)
    (ht : eval (.Call (.Attribute ob mn apos) (e :: es) kws pos) X.env = (do
      let ov ← eval ob X.env
      standAt apos.atName
      let (f, first) ← holding [ov] (getMethod ov mn pl)
      callWith pos f first (backTo pos (starEach (e :: es) X.env)) (backToKw pos (keywordEach kws X.env))) := by rfl) :
    VE X W (.Call (.Attribute ob mn apos) (e :: es) kws pos) (vMetK c mn m gD ta0 ta tk) := PE.imp (pe_metK he hcl hm C hr hp ha hkw hall hks hst hpl ht) fun _ _ _ h => metK_lift hs hrel hl h
theorem ve_metK0 {pl : Sem Bool} (he : VE X W ob ta0) (hcl : Cls X.K (He.ga X.K c)) (hm : Meth X.K (He.ga X.K c) mn f) (C : CalK X.prog X.w X.K X.mg X.base k f ps (spV X.K (N + 1) m) 1 ks gV) (hs : Self gV gW) (hrel : GRel X.K gW gD) (hl : ∀ vs zs : List V, vs.length = 0 → zs.length = ks.length → (gW vs zs).length = N) (hr : Room k X.A) (hp : ∀ σ, PassesAt (L2.CX X.prog X.w) X σ (WE W σ)) (hkw : VKw X W kws ks.length tk)
    (hall : (backToKw pos (keywordEach kws X.env)).all (·.1.isSome) = true := by rfl) (hks : (backToKw pos (keywordEach kws X.env)).filterMap (·.1) = ks := by rfl)
    (hpl : ((backTo pos (starEach [] X.env)).any (·.1) || (backToKw pos (keywordEach kws X.env)).any (·.1.isNone)) = false := by rfl)
    (ht : eval (.Call (.Attribute ob mn apos) [] kws pos) X.env = (do
      let ov ← eval ob X.env
      standAt apos.atName
      let (f, first) ← holding [ov] (getMethod ov mn pl)
      callWith pos f first (backTo pos (starEach [] X.env)) (backToKw pos (keywordEach kws X.env))) := by rfl) :
    VE X W (.Call (.Attribute ob mn apos) [] kws pos) (vMetK c mn m gD ta0 vANil tk) := PE.imp (pe_metK0 he hcl hm C hr hp hkw hall hks hpl ht) fun σ H Q h => by
  obtain ⟨Y, tv, to, env, Qd, xd, l, k, t, hq, hx⟩ := metK_lift (n := 0) hs hrel hl h
  refine ⟨Y, tv, to, env, Qd, xd, l, k, t, fun o e v H' q k' => ?_, hx⟩
  obtain ⟨a, dx, fs, e1, e2, e3, Y2, tv2, to2, env2, Qd2, xd2, l2, k2, t2, hq2, hx2⟩ := hq o e v H' q k'
  exact ⟨a, dx, fs, e1, e2, e3, hq2 [] env2 [] H' t2 rfl rfl k2⟩
theorem ve_mk (M : Mk X.K (He.ga X.K c) f) (C : CalK X.prog X.w X.K X.mg X.base k f ps (spV X.K (N + 1) m) (n + 1) ks gV) (hs : Self gV gW) (hrel : GRel X.K gW gD) (hl : ∀ vs zs : List V, vs.length = n → zs.length = ks.length → (gW vs zs).length = N) (hr : Room (k + 1) X.A) (hg : Gl X x) (hm : X.mg x = some (.ref (He.ga X.K c))) (hp : ∀ σ, PassesAt (L2.CX X.prog X.w) X σ (WE W σ)) (ha : VA X W (e :: es) n ta) (hkw : VKw X W kws ks.length tk)
    (hall : (backToKw pos (keywordEach kws X.env)).all (·.1.isSome) = true := by rfl) (hks : (backToKw pos (keywordEach kws X.env)).filterMap (·.1) = ks := by rfl) (hdb : (x == ("__debug__" : Str)) = false := by decide)
    (he : starEach (e :: es) X.env = (false, eval e X.env) :: starEach es X.env := by rfl) (hpl : ((backTo pos (starEach (e :: es) X.env)).any (·.1) || (backToKw pos (keywordEach kws X.env)).any (·.1.isNone)) = false := by rfl) :
    VE X W (.Call (.Name x p) (e :: es) kws pos) (vMk c m gD ta tk) := PE.imp (pe_mk M C hr hg hm hp ha hkw hall hks hdb he hpl) fun _ _ _ h => mk_lift hs hrel hl h
theorem ve_mk0 (M : Mk X.K (He.ga X.K c) f) (C : CalK X.prog X.w X.K X.mg X.base k f ps (spV X.K (N + 1) m) 1 ks gV) (hs : Self gV gW) (hrel : GRel X.K gW gD) (hl : ∀ vs zs : List V, vs.length = 0 → zs.length = ks.length → (gW vs zs).length = N) (hr : Room (k + 1) X.A) (hg : Gl X x) (hm : X.mg x = some (.ref (He.ga X.K c))) (hp : ∀ σ, PassesAt (L2.CX X.prog X.w) X σ (WE W σ)) (hkw : VKw X W kws ks.length tk)
    (hall : (backToKw pos (keywordEach kws X.env)).all (·.1.isSome) = true := by rfl) (hks : (backToKw pos (keywordEach kws X.env)).filterMap (·.1) = ks := by rfl) (hdb : (x == ("__debug__" : Str)) = false := by decide)
    (hpl : ((backTo pos (starEach [] X.env)).any (·.1) || (backToKw pos (keywordEach kws X.env)).any (·.1.isNone)) = false := by rfl) :
    VE X W (.Call (.Name x p) [] kws pos) (vMk c m gD vANil tk) := PE.imp (pe_mk0 M C hr hg hm hp hkw hall hks hdb hpl) fun σ H Q h => by
  obtain ⟨Y, tv, to, env, Qd, xd, l, k, t, hq, hx⟩ := mk_lift (n := 0) hs hrel hl h
  exact hq [] env [] H t rfl rfl k
end
/-! ### owned dicts -/
theorem Ok.putG {i : Nat} {c : O} {p : Addr} {u : HO} (k : Ok K Y vs os H) (h : os[i]? = some c) (hc : ∀ {A x F}, OwC K A H x c F → x = some (.ref p) ∧ F = [p] ∧ ∃ u0, H p = some u0 ∧ Mut (some u0)) :
    ∃ F, OwA K (Y.A ++ F) H vs os F ∧ OwC K (Y.A ++ F) H (some (.ref p)) c [p] ∧ vs[i]? = some (some (.ref p)) ∧
    ∀ c' u, (∀ A, (∀ {v d}, Rp K (Y.A ++ F) H v d → Rp K A (upd H p u) v d) → (∀ {v d}, RpA K (Y.A ++ F) H v d → RpA K A (upd H p u) v d) → OwC K A (upd H p u) (some (.ref p)) c' [p]) → Ok K Y vs (os.set i c') (upd H p u) := by
  obtain ⟨F, w, nd, b⟩ := k.ex
  obtain ⟨x, F1, F2, F3, e1, e2, c0, up⟩ := w.at_ h
  obtain ⟨rfl, rfl, u0, hp, mu⟩ := hc c0
  refine ⟨F, w, c0, e1, fun c' u hc' => ?_⟩
  have pF : p ∈ F := by rw [e2]; simp
  have st : Stp [p] H (upd H p u) := .put hp (by simp) mu
  have nd2 : ∀ q ∈ F1 ++ F3, q ≠ p := fun q hq e => by
    subst e
    rw [e2, List.append_assoc, List.nodup_append] at nd
    obtain ⟨_, n2, n3⟩ := nd
    rcases List.mem_append.mp hq with z | z
    · exact n3 q z q (by simp) rfl
    · exact (List.nodup_cons.mp (show (q :: F3).Nodup from n2)).1 z
  have sub : ∀ a ∈ [p], a ∈ Y.A ++ F := fun a ha => by
    have e : a = p := by simpa using ha
    rw [e]; exact List.mem_append_right _ pF
  have t := up (A' := Y.A ++ F) (H' := upd H p u) (fun {v o E} hE q => q.mono st sub fun a ha hE2 => by
      have e : a = p := by simpa using ha
      rw [e] at hE2
      exact nd2 p (hE p hE2) rfl) (v' := some (.ref p)) (hc' _ (fun r => r.mono (st.mono sub)) fun r => r.mono (st.mono sub))
  rw [set_self e1] at t
  refine ⟨⟨F, by rw [e2] at t ⊢; exact t, nd, b⟩, k.st.via st fun a ha => ?_, k.al, k.ba⟩
  have e : a = p := by simpa using ha
  rw [e]; exact b p pF
theorem od_owc {p : Addr} {t : Bool} {es : List (D × D)} {x : Option V} {F : List Addr} (h : OwC K A H x (.od p t es) F) : x = some (.ref p) ∧ F = [p] ∧ ∃ u0, H p = some u0 ∧ Mut (some u0) := by
  cases h with
  | od q _ _ _ => exact ⟨rfl, rfl, _, q, True.intro⟩
  | odT q _ _ _ => exact ⟨rfl, rfl, _, q, True.intro⟩
theorem Ok.odAt {i : Nat} {p : Addr} {t : Bool} {es : List (D × D)} (k : Ok K Y vs os H) (h : os[i]? = some (.od p t es)) : vs[i]? = some (some (.ref p)) := by
  obtain ⟨F, _, _, e3, _⟩ := k.putG (u := .own 0) h od_owc
  exact e3
/-- d[k] = v, d owned in slot i -/
noncomputable def vDPut (i : Nat) (tv tk : VT) : VTS := fun env E => tv env (fun o e => o.fz fun dv => match e[i]? with
  | some (.od _ _ _) => tk e (fun o2 e2 => o2.fz fun dk => match e2[i]? with
    | some (.od p t es) => keyOk dk = true ∧ tupKey dk = t ∧ es.length < sizeLine ∧ E.nx (e2.set i (.od p t (dPut es dk dv)))
    | _ => False) E.xx
  | _ => False) E.xx
theorem vs_dput {i : Nat} {oe ie ve : Expr} {tk tv : VT} {pos pos' : Pos} (hu : X.A.units + 1 < cLine) (ho : PE X oe (tVar i)) (hk : VE X W ie tk) (hv : VE X W ve tv) (hs : swapsWith ve (some (.Subscript oe ie pos')) pos.line X.env = pure false) :
    VS X W (.Assign [.Subscript oe ie pos'] ve pos) (vDPut i tv tk) := by
  refine PS.imp (ps_dput hu ho hk hv hs) fun D σ H ⟨Y, tv, to, env, E, l, k, t, s⟩ => ?_
  refine ⟨Y, tv, to, env, _, _, l, k, t, fun o e v H1 q k1 => ?_, s.xx σ⟩
  obtain ⟨dv, q, k1⟩ := k1.fz q
  split at q
  · rename_i p0 t0 es0 e0
    have s0 : σ[i]? = some (some (.ref p0)) := by
      have := k1.pop.odAt (i := to.length + i) (ix_app.trans e0)
      rw [← l, ix_app] at this
      exact this
    refine ⟨_, s0, ?_⟩
    refine ⟨Y, some v :: tv, .sh dv :: to, e, _, _, by simp [l], k1, q, fun o2 e2 y H2 q2 k2 => ?_, (s.xx σ).push⟩
    obtain ⟨dk, q2, k2⟩ := k2.fz q2
    split at q2
    · rename_i p t es e3
      obtain ⟨c1, c2, c3, c4⟩ := q2
      have s1 : σ[i]? = some (some (.ref p)) := by
        have k2' : Ok X.K Y (tv ++ σ) (to ++ e2) H2 := k2.pop.pop
        have := k2'.odAt (i := to.length + i) (ix_app.trans e3)
        rw [← l, ix_app] at this
        exact this
      have ep : p = p0 := by
        rw [s0] at s1
        injection s1 with s1
        injection s1 with s1
        injection s1 with s1
        exact s1.symm
      subst ep
      obtain ⟨F, w, cc, _, up⟩ := k2.putG (i := to.length + i + 2) (c := .od p t es) (p := p) (u := .own 0) (by
        show (to ++ e2)[to.length + i]? = _
        rw [ix_app]; exact e3) od_owc
      cases w with
      | cons cy w =>
        cases cy with
        | sh ry =>
          cases w with
          | cons cv w =>
            cases cv with
            | sh rv =>
              have fin : ∀ {u : HO}, Ok X.K Y (some y :: some v :: (tv ++ σ)) (.sh dk :: .sh dv :: (to ++ e2.set i (.od p t (dPut es dk dv)))) (upd H2 p u) → D.nx σ (upd H2 p u) := fun {u} k3 => s.nx _ _ _ c4 k3.pop.pop
              have eset : (O.sh dk :: O.sh dv :: (to ++ e2)).set (to.length + i + 2) (.od p t (dPut es dk dv)) = O.sh dk :: O.sh dv :: (to ++ e2.set i (.od p t (dPut es dk dv))) := by
                show O.sh dk :: O.sh dv :: (to ++ e2).set (to.length + i) _ = _
                rw [set_app]
              cases cc with
              | @od _ kvs _ hp z ra ek =>
                rcases key_of c1 ry with ⟨_, q1, rfl, rfl⟩ | ⟨h1, _⟩
                · refine ⟨p, _, rfl, DPut.k hp (by have := congrArg List.length ek; simp at this; omega), fin ?_⟩
                  rw [← eset]
                  refine up _ _ fun A u1 u2 => ?_
                  obtain ⟨g1, g2⟩ := dput_rel keyD_inj q1 rv ra ek
                  exact .od upd_same (Nat.le_trans (putK_len _ _ _) (by have := congrArg List.length ek; simp at this; omega)) (u2 g1) g2
                · rw [h1] at c2; cases c2
              | @odT _ kvs _ hp z ra ek =>
                rcases key_of c1 ry with ⟨h1, _⟩ | ⟨_, b, qs, rfl, hb, rfl⟩
                · rw [h1] at c2; cases c2
                · refine ⟨p, _, rfl, DPut.t hp hb (by have := congrArg List.length ek; simp at this; omega), fin ?_⟩
                  rw [← eset]
                  refine up _ _ fun A u1 u2 => ?_
                  obtain ⟨g1, g2⟩ := dput_rel keysD_inj qs rv ra ek
                  exact .odT upd_same (Nat.le_trans (putK_len _ _ _) (by have := congrArg List.length ek; simp at this; omega)) (u2 g1) g2
    · exact q2.elim
  · exact q.elim
def vDNew (t : Bool) : VT := fun env Q _ => ∀ p, Q (.od p t []) env
theorem ve_dnewK {pos : Pos} : VE X W (.Dict [] [] pos) (vDNew false) := PE.imp pe_dnewK fun σ H Q ⟨Y, tv, to, env, Qd, xd, l, k, t, hq, hx⟩ p hp =>
  hq _ _ _ _ (t p) (k.own (F0 := []) (.mk' hp) fun A F w nx => .od upd_same (Nat.zero_le _) .nil rfl)
theorem ve_dnewT {pos : Pos} : VE X W (.Dict [] [] pos) (vDNew true) := PE.imp pe_dnewT fun σ H Q ⟨Y, tv, to, env, Qd, xd, l, k, t, hq, hx⟩ p hp =>
  hq _ _ _ _ (t p) (k.own (F0 := []) (.mk' hp) fun A F w nx => .odT upd_same (Nat.zero_le _) .nil rfl)
/-! ### {k: v, ..} -/
def vPairs : List (VT × VT) → DE → (List (D × D) → DE → Prop) → XD → Prop
  | [], env, Q, _ => Q [] env
  | (tk, tv) :: r, env, Q, x => tk env (fun o1 e1 => o1.fz fun dk => keyOk dk = true ∧ tupKey dk = false ∧ tv e1 (fun o2 e2 => o2.fz fun dv => vPairs r e2 (fun ps e3 => Q ((dk, dv) :: ps) e3) x) x) x
theorem pairs_lift : ∀ (vts : List (VT × VT)) {tv : List (Option V)} {to : List O} {env : DE} {H : Hp} {Q : List (V × V) → Hp → Prop} {Qd : List (D × D) → DE → Prop} {xd : XD}, tv.length = to.length → Ok K Y (tv ++ σ) (to ++ env) H → vPairs vts env Qd xd → xOk K W Y tv to σ xd →
    (∀ (ps : List (D × D)) (ks : List Key) (vs : List V) (e : DE) (H' : Hp), Qd ps e → ps.map (·.1) = ks.map keyD → vs.length = ks.length → ps.length = vts.length → Ok K Y (vs.map some ++ (tv ++ σ)) ((ps.map (·.2)).map O.sh ++ (to ++ e)) H' → Q ((ks.zip vs).map fun p => (kV p.1, p.2)) H') →
    tPairs (vts.map fun p => (lE K W p.1, lE K W p.2)) σ H Q
  | [], tv, to, env, H, Q, Qd, xd, l, k, t, hx, hq => hq [] [] [] env H t rfl rfl rfl k
  | (tk, tvv) :: r, tv, to, env, H, Q, Qd, xd, l, k, t, hx, hq => by
    refine ⟨Y, tv, to, env, _, xd, l, k, t, fun o1 e1 v1 H1 q1 k1 => ?_, hx⟩
    obtain ⟨dk, ⟨c1, c2, q1⟩, k1⟩ := k1.fz q1
    obtain ⟨A, r1⟩ := k1.one
    rcases key_of c1 r1 with ⟨_, q0, rfl, rfl⟩ | ⟨h1, _⟩
    · refine ⟨Y, tv, to, e1, _, xd, l, k1.pop, q1, fun o2 e2 v2 H2 q2 k2 => ?_, hx⟩
      obtain ⟨dv, q2, k2⟩ := k2.fz q2
      refine pairs_lift r (tv := some v2 :: tv) (to := .sh dv :: to) (by simp [l]) k2 q2 hx.push fun ps ks vs e H' q lk lv lp k3 => ?_
      refine hq ((keyD q0, dv) :: ps) (q0 :: ks) (v2 :: vs) e H' q (by simp [lk]) (by simp [lv]) (by simp [lp]) ?_
      exact Ok.rot (xs := vs.map some) (ys := (ps.map (·.2)).map O.sh) (by have := congrArg List.length lk; simp at this ⊢; omega) k3
    · rw [h1] at c2; cases c2
noncomputable def dMerge (ps : List (D × D)) : List (D × D) := ps.foldl (fun acc p => dPut acc p.1 p.2) []
noncomputable def vDisp (vts : List (VT × VT)) : VT := fun env Q x => vPairs vts env (fun ps e => ∀ p, Q (.od p false (dMerge ps)) e) x
theorem merge_rel : ∀ {ks : List Key} {vs : List V} {ps : List (D × D)} {kvs : List (Key × V)} {es : List (D × D)}, ps.map (·.1) = ks.map keyD → vs.length = ks.length → RpA K A H vs (ps.map (·.2)) → RpA K A H (kvs.map (·.2)) (es.map (·.2)) → es.map (·.1) = kvs.map (fun p => keyD p.1) →
    RpA K A H ((mergeK kvs (ks.zip vs)).map (·.2)) ((ps.foldl (fun acc p => dPut acc p.1 p.2) es).map (·.2)) ∧ (ps.foldl (fun acc p => dPut acc p.1 p.2) es).map (·.1) = (mergeK kvs (ks.zip vs)).map (fun p => keyD p.1) ∧ (mergeK kvs (ks.zip vs)).length ≤ kvs.length + ks.length
  | [], vs, ps, kvs, es, e1, lv, r, r2, e2 => by
    cases ps with
    | nil =>
      cases vs with
      | nil => exact ⟨r2, e2, Nat.le_refl _⟩
      | cons _ _ => cases lv
    | cons _ _ => cases e1
  | k :: ks, vs, ps, kvs, es, e1, lv, r, r2, e2 => by
    cases ps with
    | nil => cases e1
    | cons p ps =>
      cases vs with
      | nil => cases lv
      | cons v vs =>
        obtain ⟨f1, f2⟩ := List.cons.inj (show p.1 :: ps.map (·.1) = keyD k :: ks.map keyD from e1)
        cases r with
        | cons rv rt =>
          obtain ⟨g1, g2⟩ := dput_rel keyD_inj k rv r2 e2
          obtain ⟨h1, h2, h3⟩ := merge_rel (kvs := putK kvs k v) (es := dPut es (keyD k) p.2) f2 (Nat.succ.inj lv) rt g1 g2
          have e5 : (p :: ps).foldl (fun acc p => dPut acc p.1 p.2) es = ps.foldl (fun acc p => dPut acc p.1 p.2) (dPut es (keyD k) p.2) := by rw [List.foldl_cons, f1]
          have e6 : mergeK kvs ((k :: ks).zip (v :: vs)) = mergeK (putK kvs k v) (ks.zip vs) := rfl
          rw [e5, e6]
          refine ⟨h1, h2, Nat.le_trans h3 ?_⟩
          have := putK_len kvs k v
          rw [List.length_cons]; omega
theorem ve_disp {pos : Pos} {keys : List (Option Expr)} {values : List Expr} {vts : List (VT × VT)} (h : PPs X pos keys values (vts.map fun p => (lE X.K W p.1, lE X.K W p.2))) (hall : keys.all (·.isSome) = true) (hl : keys.length = values.length) (h0 : keys ≠ [])
    (h15 : keys.length ≤ 15) (hv : vts.length ≤ 15 := by decide) : VE X W (.Dict keys values pos) (vDisp vts) := by
  refine PE.imp (pe_disp h hall hl h0 h15) fun σ H Q ⟨Y, tv, to, env, Qd, xd, l, k, t, hq, hx⟩ p hp => ?_
  have k1 : Ok X.K Y (some (.ref p) :: (tv ++ σ)) (.od p false [] :: (to ++ env)) (upd H p (.dK [])) := k.own (F0 := []) (.mk' hp) fun A F w nx => .od upd_same (Nat.zero_le _) .nil rfl
  refine pairs_lift vts (tv := some (.ref p) :: tv) (to := .od p false [] :: to) (by simp [l]) k1 t hx.push fun ps ks vs e H' q lk lv lp k2 => ?_
  have ll : (vs.map some).length = ((ps.map (·.2)).map O.sh).length := by have := congrArg List.length lk; simp at this ⊢; omega
  have lks : ks.length ≤ 15 := by have := congrArg List.length lk; simp at this; omega
  have e1 : ((ps.map (·.2)).map O.sh ++ ((.od p false [] :: to) ++ e))[((ps.map (·.2)).map O.sh).length + 0]? = some (.od p false []) := by rw [ix_app]; rfl
  obtain ⟨F, w, cc, _, up⟩ := k2.putG (u := .own 0) e1 od_owc
  obtain ⟨F1, F2, ef, w1, w2⟩ := w.split ll
  obtain ⟨rfl, ra⟩ := w1.all_sh
  cases cc with
  | @od _ kvs _ hp2 z r0 ek =>
    have ek0 : kvs = [] := by cases kvs with
      | nil => rfl
      | cons _ _ => cases ek
    subst ek0
    refine ⟨hp2, ks.zip vs, rfl, by rw [List.length_zip]; omega, hq _ _ _ _ (q p) ?_⟩
    have k3 := up (.od p false (dMerge ps)) (.dK (mergeK [] (ks.zip vs))) fun A u1 u2 => by
      obtain ⟨h1, h2, h3⟩ := merge_rel (kvs := []) (es := []) lk lv ra .nil rfl
      exact .od upd_same (Nat.le_trans h3 (by rw [sizeLine_eq]; simp; omega)) (u2 h1) h2
    rw [set_app] at k3
    exact Ok.popn ll k3
end
end Hd
namespace Hd
/-! ### the value layer: the draws, the law, further methods -/
section
open PySem PySem.Spec PyProof.Rows L2
variable {K : PySem.W.Frag} {W : WX} {H H' : Hp} {Y : Fx} {vs tv : List (Option V)} {os to env : List O} {v : V} {d : D} {o : O} {σ : L2.St} {X : Cx} {A : List Addr}
section
variable {P : Program} {w : World} {mg : Str → Option Value} {base : Heap} {CX : CXT} {k : Nat} {f : Addr} {fd : FuncData} {ps : List Str}
/-- a draw: some number below m -/
def mTake : VM := fun os Q _ => match os with
  | [.src p, .sh (.int m)] => 0 < m ∧ m < 2 ^ 62 ∧ ∀ r, 0 ≤ r → r < m → Q (.sh (.int r)) [.src p]
  | _ => False
def mSource : VM := fun os Q _ => match os with
  | [.sh (.int _)] => ∀ p, Q (.src p) []
  | _ => False
theorem take_V (F : FnOk P w K mg base CX k f fd ps spTake) : FnOk P w K mg base CX k f fd ps (spV K 2 mTake) :=
  F.imp fun vs H Q E ⟨A, F, os, Qd, xd, l, w, nd, fa, al, m, hq, hx⟩ => by
    unfold mTake at m
    split at m
    · rename_i p m'
      obtain ⟨m0, m1, m⟩ := m
      match vs, l with
      | [x, y], _ =>
        have w : OwA K (A ++ F) H [some x, some y] [.src p, .sh (.int m')] F := w
        have k0 : Ok K ⟨A, F, H⟩ [some x, some y] [.src p, .sh (.int m')] H := ⟨⟨F, w, nd, fun p hp => .inl hp⟩, .refl H, al, fa⟩
        cases w with
        | @cons _ _ _ _ F1 F2 c w =>
          cases w with
          | @cons _ _ _ _ F3 F4 c2 w2 =>
            cases w2
            cases c2 with
            | sh r =>
              have e := r.int_inv
              subst e
              cases c with
              | src sr =>
                refine ⟨p, m', rfl, m0, m1, sr, fun q H' r0 r1 sr' st => hq _ _ _ [some (.ref p)] _ (m q r0 r1) ?_⟩
                refine ⟨⟨[p], OwA.cons (F := []) (.sh (.int q)) (OwA.cons (F := [p]) (G := []) (.src sr') .nil), by simp, fun a ha => .inl (by simpa using ha)⟩, st.mono (by simp), al, fa⟩
    · exact m.elim
theorem source_V (F : FnOk P w K mg base CX k f fd ps spSource) : FnOk P w K mg base CX k f fd ps (spV K 1 mSource) :=
  F.imp fun vs H Q E ⟨A, F, os, Qd, xd, l, w, nd, fa, al, m, hq, hx⟩ => by
    unfold mSource at m
    split at m
    · rename_i c
      match vs, l with
      | [x], _ =>
        have w : OwA K (A ++ F) H [some x] [.sh (.int c)] F := w
        cases w with
        | @cons _ _ _ _ F1 F2 cc w =>
          cases w
          cases cc with
          | sh r =>
            have e := r.int_inv
            subst e
            refine ⟨c, rfl, fun p hp => hq _ _ _ [] _ (m p) ?_⟩
            have k0 : Ok K ⟨A, [], H⟩ [] [] H := ⟨⟨[], .nil, .nil, by simp⟩, .refl H, al, by simp⟩
            exact k0.own (F0 := []) (.mk' hp) fun A F w nx => .src ⟨c, c, 0, upd_same⟩
    · exact m.elim
def spLawV (K : PySem.W.Frag) : Sp := fun vs H Q _ => ∃ (a : Addr) (ns : List Int), vs = [.ref a] ∧ SqL K H a (ns.map V.int) ∧ ns.length ≤ 63 ∧ ∀ H', Q (.bl true) H'
theorem RpA.ofInts : ∀ ns : List Int, RpA K A H (ns.map V.int) (ns.map D.int)
  | [] => .nil
  | n :: r => .cons (.int n) (RpA.ofInts r)
theorem law_V {m : VM} (h : ∀ ns : List Int, ns.length ≤ 63 → m [.sh (.lst (ns.map D.int))] (fun o _ => o = .sh (.bl true)) x0) (F : FnOk P w K mg base CX k f fd ps (spV K 1 m)) : FnOk P w K mg base CX k f fd ps (spLawV K) :=
  F.imp fun vs H Q E ⟨a, ns, e, hs, hl, q⟩ => by
    subst e
    refine ⟨[], [], [.sh (.lst (ns.map D.int))], _, _, rfl, OwA.cons (F := []) (G := []) (.sh (.lst ?_ (by rw [List.length_map, sizeLine_eq]; omega) (RpA.ofInts ns))) .nil, .nil, by simp, by simp, h ns hl, fun o bk v ws H' e k => ?_, fun _ _ _ _ _ _ _ _ e => e.elim⟩
    · rcases hs with hs | hs
      · exact .inl ⟨hs, by simp⟩
      · exact .inr hs
    · subst e
      obtain ⟨_, r⟩ := k.one
      rw [r.bl_inv]
      exact q H'
end
/-! ### further methods of owned lists -/
section
variable {apos cpos : Pos} {ob : Expr}
/-- without arguments -/
theorem mtL0_lift {i : Nat} {g : List D → List D → (O → List D → Prop) → Prop} {r : V → List V → Hp → VK → Prop} {Q : VK}
    (hr : ∀ (Y : Fx) (vs : List (Option V)) (os : List O) (j : Nat) (p : Addr) (l ds : List D) (xs : List V) (H : Hp) (Q : VK) (Qd : O → List D → Prop), Ok K Y (xs.map some ++ vs) (ds.map O.sh ++ os) H → xs.length = 0 → ds.length = 0 → os[j]? = some (.ol p l) → vs[j]? = some (some (.ref p)) → g l ds Qd →
      (∀ o l' v H', Qd o l' → Ok K Y (some v :: vs) (o :: os.set j (.ol p l')) H' → Q v H') → r (.ref p) xs H Q)
    (h : lE K W (vMtL i g vANil) σ H Q) : tBM0 K "list" r (tVar i) σ H Q := by
  obtain ⟨v, e, ty, Y, tv, to, env, Qd, xd, l, k, t, hq, hx⟩ := mtL_lift (n := 0) hr h
  exact ⟨v, e, ty, hq [] env [] H t rfl rfl k⟩
def gReverse : List D → List D → (O → List D → Prop) → Prop := fun l _ Q => Q (.sh .non) l.reverse
def gClear : List D → List D → (O → List D → Prop) → Prop := fun _ _ Q => Q (.sh .non) []
def gPop : List D → List D → (O → List D → Prop) → Prop := fun l _ Q => match l[l.length - 1]? with
  | some d => Q (.sh d) l.dropLast
  | none => False
theorem RpA.reverse : ∀ {xs : List V} {ds : List D}, RpA K A H xs ds → RpA K A H xs.reverse ds.reverse
  | _, _, .nil => .nil
  | _, _, .cons r t => by
    rw [List.reverse_cons, List.reverse_cons]
    exact (RpA.reverse t).app (.cons r .nil)
theorem RpA.dropLast {xs : List V} {ds : List D} (r : RpA K A H xs ds) : RpA K A H xs.dropLast ds.dropLast := by
  rw [List.dropLast_eq_take, List.dropLast_eq_take, r.len]
  exact r.take _
theorem ve_reverse {i : Nat} (ho : PE X ob (tVar i)) (hbase : attributeBase ob "reverse" X.env (eval ob X.env) = eval ob X.env := by rfl) (hline : (apos.endLine == cpos.line) = true := by rfl) :
    VE X W (.Call (.Attribute ob "reverse" apos) [] [] cpos) (vMtL i gReverse vANil) := by
  refine PE.imp (pe_bm0 PySem.F.plainAttrs_list PySem.F.slot_list_reverse PySem.F.type_list_reverse mt_reverse ho hbase hline) fun σ H Q h => mtL0_lift (fun Y vs os j p l ds xs H Q Qd k l1 l2 e1 e2 t hq => ?_) h
  obtain rfl : xs = [] := List.eq_nil_of_length_eq_zero l1
  obtain rfl : ds = [] := List.eq_nil_of_length_eq_zero l2
  have k2 : Ok X.K Y vs os H := k
  obtain ⟨F, zs, w, e3, hp, z, r, up⟩ := k2.putL e1
  exact ⟨p, zs, rfl, rfl, hp, hq _ _ _ _ t ((up zs.reverse l.reverse (by rw [List.length_reverse]; exact z) r.reverse).push (F := []) fun _ => .non)⟩
theorem ve_clear {i : Nat} (ho : PE X ob (tVar i)) (hbase : attributeBase ob "clear" X.env (eval ob X.env) = eval ob X.env := by rfl) (hline : (apos.endLine == cpos.line) = true := by rfl) :
    VE X W (.Call (.Attribute ob "clear" apos) [] [] cpos) (vMtL i gClear vANil) := by
  refine PE.imp (pe_bm0 PySem.F.plainAttrs_list PySem.F.slot_list_clear PySem.F.type_list_clear mt_clear ho hbase hline) fun σ H Q h => mtL0_lift (fun Y vs os j p l ds xs H Q Qd k l1 l2 e1 e2 t hq => ?_) h
  obtain rfl : xs = [] := List.eq_nil_of_length_eq_zero l1
  obtain rfl : ds = [] := List.eq_nil_of_length_eq_zero l2
  have k2 : Ok X.K Y vs os H := k
  obtain ⟨F, zs, w, e3, hp, z, r, up⟩ := k2.putL e1
  exact ⟨p, zs, rfl, rfl, hp, hq _ _ _ _ t ((up [] [] (Nat.zero_le _) .nil).push (F := []) fun _ => .non)⟩
theorem ve_pop {i : Nat} (ho : PE X ob (tVar i)) (hbase : attributeBase ob "pop" X.env (eval ob X.env) = eval ob X.env := by rfl) (hline : (apos.endLine == cpos.line) = true := by rfl) :
    VE X W (.Call (.Attribute ob "pop" apos) [] [] cpos) (vMtL i gPop vANil) := by
  refine PE.imp (pe_bm0 PySem.F.plainAttrs_list PySem.F.slot_list_pop PySem.F.type_list_pop mt_pop ho hbase hline) fun σ H Q h => mtL0_lift (fun Y vs os j p l ds xs H Q Qd k l1 l2 e1 e2 t hq => ?_) h
  obtain rfl : xs = [] := List.eq_nil_of_length_eq_zero l1
  obtain rfl : ds = [] := List.eq_nil_of_length_eq_zero l2
  have k2 : Ok X.K Y vs os H := k
  unfold gPop at t
  split at t
  · rename_i d ed
    have k3 : ∃ v, Ok X.K Y (some v :: vs) (.sh d :: os) H ∧ ∃ zs, H p = some (.lst zs) ∧ zs[zs.length - 1]? = some v := by
      obtain ⟨F, zs, w, e3, hp, z, r, up⟩ := k2.putL e1
      obtain ⟨v, ev, rv⟩ := r.getD ed
      obtain ⟨F', w', nd, b⟩ := k2.ex
      have kk : Ok X.K Y (some v :: vs) (.sh d :: os) H := k2.pushR fun F2 w2 => by
        obtain ⟨x, F1, G2, F3, f1, f2, c, _⟩ := w2.at_ e1
        cases c with
        | @ol _ zs2 _ hp2 z2 r2 =>
          rw [hp] at hp2
          injection hp2 with hp2
          injection hp2 with hp2
          subst hp2
          obtain ⟨v2, ev2, rv2⟩ := r2.getD ed
          rw [ev] at ev2
          injection ev2 with ev2
          subst ev2
          exact rv2
      exact ⟨v, kk, zs, hp, by rw [r.len]; exact ev⟩
    obtain ⟨v, kk, zs, hp, ev⟩ := k3
    obtain ⟨F, zs2, w, e3, hp2, z, r, up⟩ := kk.putL (i := j + 1) (by simpa using e1)
    rw [hp] at hp2
    injection hp2 with hp2
    injection hp2 with hp2
    subst hp2
    refine ⟨p, zs, v, rfl, rfl, hp, ev, hq _ _ _ _ t ?_⟩
    exact up zs.dropLast l.dropLast (by rw [List.length_dropLast]; omega) r.dropLast
  · exact t.elim
end
/-! ### join -/
def vJoin (ta tb : VT) : VT := fun env Q x => ta env (fun o e => match o with
  | .sh (.str a) => tb e (fun o2 e2 => o2.fz fun d => match d with
    | .lst ds => ∃ ys : List Str, ds = ys.map D.str ∧ (ys.map (·.length)).sum + ys.length * a.length ≤ 16777216 ∧ Q (.sh (.str (Txt.join a ys))) e2
    | _ => False) x
  | _ => False) x
theorem RpA.strs : ∀ {ys : List Str} {xs : List V}, RpA K A H xs (ys.map D.str) → xs = ys.map V.str
  | [], _, h => by cases h; rfl
  | n :: ns, _, h => by
    cases h with
    | cons r t => rw [r.str_inv, RpA.strs t]; rfl
theorem ve_join {ob e : Expr} {ta tb : VT} {apos pos : Pos} (ho : VE X W ob ta) (he : VE X W e tb) (hs : starEach [e] X.env = [(false, eval e X.env)] := by rfl) (hbase : attributeBase ob "join" X.env (eval ob X.env) = eval ob X.env := by rfl) (hline : (apos.endLine == pos.line) = true := by rfl) :
    VE X W (.Call (.Attribute ob "join" apos) [e] [] pos) (vJoin ta tb) := by
  refine PE.imp (pe_join ho he hs hbase hline) fun σ H Q ⟨Y, tv, to, env, Qd, xd, l, k, t, hq, hx⟩ => ?_
  refine ⟨Y, tv, to, env, _, xd, l, k, t, fun o e v H' q k' => ?_, hx⟩
  cases o <;> first | exact q.elim | skip
  rename_i d
  cases d <;> first | exact q.elim | skip
  rename_i a
  obtain ⟨A, r⟩ := k'.one
  have ev := r.str_inv
  subst ev
  refine ⟨⟨a, rfl⟩, Y, some (.str a) :: tv, .sh (.str a) :: to, e, _, xd, by simp [l], k', q, fun o2 e2 v2 H2 q2 k2 => ?_, hx.push⟩
  obtain ⟨d, q2, k2⟩ := k2.fz q2
  cases d <;> first | exact q2.elim | skip
  obtain ⟨ys, rfl, h1, q2⟩ := q2
  obtain ⟨A, r2, up⟩ := k2.one'
  cases r2 with
  | @lst p xs _ q z ra =>
    have ex := ra.strs
    subst ex
    exact ⟨a, p, ys, rfl, rfl, .inl q.sq, h1, hq _ _ _ _ q2 (up (.str _)).drop1⟩
end
end Hd
namespace Hd
/-! ### the value layer: tuples put together, fields stored, further statements -/
section
open PySem PySem.Spec PyProof.Rows L2
variable {K : PySem.W.Frag} {W : WX} {H H' : Hp} {Y : Fx} {vs tv : List (Option V)} {os to env : List O} {v : V} {d : D} {o : O} {σ : L2.St} {X : Cx} {A : List Addr}
theorem hu65 {k : Nat} {A : Around} (r : Room k A) : A.units + 65 < cLine := by have := r.un; omega
/-- shared from now on -/
def vFz (t : VT) : VT := fun env Q x => t env (fun o e => o.fz fun d => Q (.sh d) e) x
theorem ve_fz {e : Expr} {t : VT} (h : VE X W e t) : VE X W e (vFz t) := PE.imp h fun σ H Q ⟨Y, tv, to, env, Qd, xd, l, k, t, hq, hx⟩ =>
  ⟨Y, tv, to, env, _, xd, l, k, t, fun o e v H' q k' => by
    obtain ⟨d, q, k'⟩ := k'.fz q
    exact hq _ _ _ _ q k', hx⟩
/-- a, b = x, y -/
def vPar (i j : Nat) (ta : VTA) : VTS := fun env E => ta env (fun ds e => match ds with
  | [a, b] => E.nx ((e.set i (.sh a)).set j (.sh b))
  | _ => False) E.xx
theorem vs_par {i j : Nat} {x y : Str} {a b : Expr} {ta : VTA} {px py pt pos : Pos} {kt k2 pt2} (hc : X.calm = true) (hN : X.N.Nodup) (hi : X.N[i]? = some x) (hj : X.N[j]? = some y) (hij : i ≠ j)
    (hx : X.env.scope.names.lookup x = some .local) (hy : X.env.scope.names.lookup y = some .local) (ha : VA X W [a, b] 2 ta)
    (hw : swappedStores [.Tuple [.Name x px, .Name y py] kt pt] (.Tuple [a, b] k2 pt2) X.env = pure (some [x, y]))
    (hs : swapsWithSole [.Tuple [.Name x px, .Name y py] kt pt] (.Tuple [a, b] k2 pt2) pos.line X.env = pure false := by rfl) :
    VS X W (.Assign [.Tuple [.Name x px, .Name y py] kt pt] (.Tuple [a, b] k2 pt2) pos) (vPar i j ta) := by
  refine PS.imp (ps_par hc hN hi hj hij hx hy ha hw hs) fun D σ H ⟨Y, tv, to, env, E, l, k, t, s⟩ => ?_
  refine ⟨Y, tv, to, env, _, _, l, k, t, fun ds e vs H1 q l1 l2 k1 => ?_, s.xx σ⟩
  match vs, ds, l1, l2 with
  | [v, w], [d1, d2], _, _ =>
    refine ⟨v, w, rfl, s.nx _ _ _ q ?_⟩
    have k2 : Ok X.K Y (some v :: some w :: (tv ++ σ)) (.sh d1 :: .sh d2 :: (to ++ e)) H1 := k1
    have k3 := Ok.setSlot (i := i) (tv := some w :: tv) (to := .sh d2 :: to) (by simp [l]) k2
    exact Ok.setSlot (i := j) l k3
/-! ### tuples -/
theorem Rp.tup_whole {a : Addr} {ds : List D} (r : Rp K A H (.ref a) (.tup ds)) : ∃ xs, SqT K H a xs ∧ xs.length ≤ sizeLine ∧ RpA K A H xs ds := by
  cases r with
  | @tup _ xs _ q z ra => exact ⟨xs, q.sq, z, ra⟩
def gCatT' : G2 := fun a b Q => match a, b with
  | .tup xs, .tup ys => xs.length + ys.length ≤ sizeLine ∧ Q (.sh (.tup (xs ++ ys)))
  | _, _ => False
theorem o_catT : OpR X (binaryOp .Add) (rV X.K gCatT') := OpR.imp op_catA fun x y H Q ⟨Y, vs, os, d1, d2, Qd, k, t, hq⟩ => by
  obtain ⟨xs, ys, rfl, rfl, t1, t2⟩ : ∃ xs ys, d1 = .tup xs ∧ d2 = .tup ys ∧ xs.length + ys.length ≤ sizeLine ∧ Qd (.sh (.tup (xs ++ ys))) := by
    cases d1 <;> first | exact t.elim | skip
    cases d2 <;> first | exact t.elim | skip
    exact ⟨_, _, rfl, rfl, t⟩
  obtain ⟨b, zs, e1, rb, z1, l1, k1⟩ := k.tup_open
  have k2 : Ok X.K Y (some x :: (zs.map some ++ vs)) (.sh (.tup xs) :: (ys.map O.sh ++ os)) H := Ok.rot (xs := zs.map some) (ys := ys.map O.sh) (by simp [l1]) k1
  obtain ⟨a, ws, e2, ra, z2, l2, k3⟩ := k2.tup_open
  injection e1 with e1; subst e1
  injection e2 with e2; subst e2
  refine ⟨a, b, ws, zs, rfl, rfl, ra, rb, by omega, fun e => ?_, fun _ e => ?_, fun _ _ p hp => ?_⟩
  · have ex : xs = [] := List.eq_nil_of_length_eq_zero (by rw [← l2, e]; rfl)
    rw [ex] at t2
    exact hq _ _ _ t2 k.drop1
  · have ey : ys = [] := List.eq_nil_of_length_eq_zero (by rw [← l1, e]; rfl)
    rw [ey, List.append_nil] at t2
    exact hq _ _ _ t2 k.pop
  · refine hq _ _ _ t2 (Ok.tup (xs := ws ++ zs) (ds := xs ++ ys) ?_ (by simp [l1, l2]) (by rw [List.length_append, l1, l2]; exact t1) (.mk' hp))
    simpa using k3
def gSlT' : GS := fun d lo hi Q => match d with
  | .tup xs => Q (.sh (.tup (cutL xs lo hi)))
  | _ => False
theorem cutL_whole {α : Type} {xs : List α} {lo hi : Option Int} (h1 : HT.sIx xs.length 0 lo = 0) (h2 : HT.sIx xs.length xs.length hi = xs.length) : cutL xs lo hi = xs := by
  unfold cutL
  rw [h1, h2, List.drop_zero, Nat.sub_zero, List.take_length]
theorem s_tup : SlR X (rS X.K gSlT') := SlR.imp sl_tupA fun x lo hi H Q ⟨Y, vs, os, d, Qd, k, t, hq⟩ => by
  obtain ⟨ds, rfl, t'⟩ : ∃ xs, d = .tup xs ∧ Qd (.sh (.tup (cutL xs lo hi))) := by
    cases d <;> first | exact t.elim | skip
    exact ⟨_, rfl, t⟩
  obtain ⟨a, xs, e, q, z, l, k2⟩ := k.tup_open
  injection e with e; subst e
  refine ⟨a, xs, rfl, q, fun h => ?_, fun _ p hp => ?_⟩
  · rw [l] at h
    rw [cutL_whole h.1 h.2] at t'
    exact hq _ _ _ t' k
  · obtain ⟨F, w, nd, b⟩ := k2.ex
    obtain ⟨F1, F2, ef, w1, w2⟩ := w.split (by simpa using l)
    obtain ⟨rfl, ra⟩ := w1.all_sh
    subst ef
    have k3 : Ok X.K Y ((cutV xs lo hi).map some ++ vs) ((cutL ds lo hi).map O.sh ++ os) H := ⟨⟨_, (OwA.sh_all ra.cut).app w2, nd, b⟩, k2.st, k2.al, k2.ba⟩
    exact hq _ _ _ t' (k3.tup (by rw [cutV_L]; exact (by unfold cutL; simp [l])) (Nat.le_trans (by rw [cutV_L]; exact cutL_len) z) (.mk' hp))
def gTuple : GC := fun ds Q => match ds with
  | [.lst xs] => Q (.sh (.tup xs))
  | [.tup xs] => Q (.sh (.tup xs))
  | _ => False
theorem c_tuple : CallR X (.type "tuple") (rC X.K gTuple) := rC1 call_tuple_of (fun ds Q h => by
    unfold gTuple at h
    split at h <;> first | exact ⟨_, rfl⟩ | exact h.elim) fun x d H Q Y vs os Qd k t hq => by
  cases d <;> first | exact t.elim | skip
  · obtain ⟨a, xs, e, q, z, l, k2⟩ := k.lst_open
    injection e with e; subst e
    exact ⟨a, xs, rfl, .inl ⟨q, fun p hp => hq _ _ _ t (k2.tup l z (.mk' hp))⟩⟩
  · obtain ⟨a, xs, e, q, z, l, k2⟩ := k.tup_open
    injection e with e; subst e
    exact ⟨a, xs, rfl, .inr ⟨q, hq _ _ _ t k⟩⟩
/-! ### o.f = e, o owned in slot i -/
def oPut (f : Str) (o : O) : List (Str × O) → List (Str × O)
  | [] => [(f, o)]
  | (g, x) :: r => if g = f then (g, o) :: r else (g, x) :: oPut f o r
theorem oput_rel {f : Str} {y : V} {o : O} {G : List Addr} (c : OwC K A H (some y) o G) : ∀ {fs : List (Str × V)} {es : List (Str × O)} {F : List Addr}, OwA K A H (fs.map (fun x => some x.2)) (es.map (·.2)) F → es.map (·.1) = fs.map (·.1) →
    ∃ F', OwA K A H ((putF f y fs).map (fun x => some x.2)) ((oPut f o es).map (·.2)) F' ∧ (oPut f o es).map (·.1) = (putF f y fs).map (·.1) ∧ (∀ p ∈ F', p ∈ G ∨ p ∈ F) ∧ (F.Nodup → G.Nodup → (∀ p ∈ G, p ∉ F) → F'.Nodup)
  | [], [], _, h, _ => by
    cases h
    exact ⟨G ++ [], OwA.cons c .nil, rfl, fun p hp => .inl (by simpa using hp), fun _ n _ => by simpa using n⟩
  | [], _ :: _, _, _, e => by cases e
  | _ :: _, [], _, _, e => by cases e
  | (g, v) :: fs, (g', x) :: es, _, h, e => by
    obtain ⟨e1, e2⟩ := List.cons.inj (show g' :: es.map (·.1) = g :: fs.map (·.1) from e)
    subst e1
    cases h with
    | @cons _ _ _ _ F1 F2 c1 t =>
      by_cases q : g' = f
      · refine ⟨G ++ F2, ?_, ?_, fun p hp => ?_, fun n1 n2 n3 => ?_⟩
        · simp only [putF, oPut, if_pos q]
          exact OwA.cons c t
        · simp only [putF, oPut, if_pos q, List.map_cons, e2]
        · rcases List.mem_append.mp hp with z | z
          · exact .inl z
          · exact .inr (List.mem_append_right _ z)
        · exact List.nodup_append.mpr ⟨n2, (List.nodup_append.mp n1).2.1, fun a ha b hb e => by subst e; exact n3 a ha (List.mem_append_right _ hb)⟩
      · obtain ⟨F', w, ek, sub, nd⟩ := oput_rel c t e2
        refine ⟨F1 ++ F', ?_, ?_, fun p hp => ?_, fun n1 n2 n3 => ?_⟩
        · simp only [putF, oPut, if_neg q]
          exact OwA.cons c1 w
        · simp only [putF, oPut, if_neg q, List.map_cons, ek]
        · rcases List.mem_append.mp hp with z | z
          · exact .inr (List.mem_append_left _ z)
          · rcases sub p z with y | y
            · exact .inl y
            · exact .inr (List.mem_append_right _ y)
        · have n1' := List.nodup_append.mp n1
          refine List.nodup_append.mpr ⟨n1'.1, nd n1'.2.1 n2 fun p hp z => n3 p hp (List.mem_append_right _ z), fun a ha b hb e => ?_⟩
          subst e
          rcases sub a hb with y | y
          · exact n3 a y (List.mem_append_left _ ha)
          · exact n1'.2.2 a ha a y rfl
def vFPut (c f : Str) (i : Nat) (tv : VT) : VTS := fun env E => tv env (fun o e => match e[i]? with
  | some (.oo p c' fs) => c' = c ∧ fs.length < 100 ∧ E.nx (e.set i (.oo p c' (oPut f o fs)))
  | _ => False) E.xx
theorem Ok.fput {c f : Str} {i : Nat} {p : Addr} {es : List (Str × O)} {e : DE} {H1 : Hp} (l : tv.length = to.length) (k1 : Ok K Y (some v :: (tv ++ σ)) (o :: (to ++ e)) H1) (ei : e[i]? = some (.oo p c es)) :
    ∃ dx fs, σ[i]? = some (some (.ref p)) ∧ H1 p = some (.ins (He.ga K c) dx fs) ∧ fs.length = es.length ∧ Ok K Y (tv ++ σ) (to ++ e.set i (.oo p c (oPut f o es))) (upd H1 p (.ins (He.ga K c) dx (putF f v fs))) := by
  obtain ⟨F, w, nd, b⟩ := k1.ex
  cases w with
  | @cons _ _ _ _ G1 G2 cv t =>
    obtain ⟨x, F1, F2, F3, f1, f2, c0, up⟩ := t.at_ (i := to.length + i) (ix_app.trans ei)
    rw [← l, ix_app] at f1
    cases c0 with
    | @oo _ _ dx fs _ Fo hp to' ek =>
      refine ⟨dx, fs, f1, hp, (by have := congrArg List.length ek; simpa using this.symm), ?_⟩
      subst f2
      have nd' := List.nodup_append.mp nd
      obtain ⟨ndG, ndF, dis⟩ := nd'
      have ndF2 : (F1 ++ (p :: Fo) ++ F3).Nodup := ndF
      rw [List.append_assoc, List.nodup_append] at ndF2
      obtain ⟨n1, n2, n3⟩ := ndF2
      have n2' : ((p :: Fo) ++ F3).Nodup := n2
      rw [List.nodup_append] at n2'
      obtain ⟨m1, m2, m3⟩ := n2'
      obtain ⟨pFo, ndFo⟩ := List.nodup_cons.mp m1
      obtain ⟨F', wo, ek2, sub, ndo⟩ := oput_rel (f := f) cv to' ek
      have st : Stp [p] H1 (upd H1 p (.ins (He.ga K c) dx (putF f v fs))) := .put hp
      have pG : p ∉ G1 := fun z => dis p z p (by simp) rfl
      have inA : ∀ a ∈ [p], a ∈ Y.A ++ (G1 ++ (F1 ++ (p :: Fo) ++ F3)) := fun a ha => by
        have e : a = p := by simpa using ha
        rw [e]; simp
      have pF' : p ∉ F' := fun z => by
        rcases sub p z with y | y
        · exact pG y
        · exact pFo y
      have c1 : OwC K (Y.A ++ (G1 ++ (F1 ++ (p :: Fo) ++ F3))) (upd H1 p (.ins (He.ga K c) dx (putF f v fs))) (some (.ref p)) (.oo p c (oPut f o es)) (p :: F') :=
        .oo upd_same (wo.mono st inA fun a ha z => by
          have e : a = p := by simpa using ha
          rw [e] at z
          exact pF' z) ek2
      have w2 := up (A' := Y.A ++ (G1 ++ (F1 ++ (p :: Fo) ++ F3))) (H' := upd H1 p (.ins (He.ga K c) dx (putF f v fs))) (fun {v o E} hE q => q.mono st inA fun a ha hE2 => by
        have e : a = p := by simpa using ha
        rw [e] at hE2
        rcases List.mem_append.mp (hE p hE2) with z | z
        · exact n3 p z p (by simp) rfl
        · exact m3 p (by simp) p z rfl) (v' := some (.ref p)) c1
      have ev : (tv ++ σ).set (to.length + i) (some (.ref p)) = tv ++ σ := by
        rw [← l]
        exact set_self (by rw [ix_app]; exact f1)
      rw [ev, set_app] at w2
      refine ⟨⟨F1 ++ (p :: F') ++ F3, w2.avoid fun a ha n => absurd ?_ n, ?_, fun a ha => ?_⟩, k1.st.via st fun a ha => ?_, k1.al, k1.ba⟩
      · simp only [List.mem_append, List.mem_cons] at ha ⊢
        rcases ha with z | (z | z | z) | z
        · exact .inl z
        · exact .inr (.inr (.inl (.inl z)))
        · exact .inr (.inr (.inl (.inr (.inl z))))
        · rcases sub a z with y | y
          · exact .inr (.inl y)
          · exact .inr (.inr (.inl (.inr (.inr y))))
        · exact .inr (.inr (.inr z))
      · have nF' : F'.Nodup := ndo ndFo ndG fun a ha z => dis a ha a (by simp [z]) rfl
        rw [List.append_assoc, List.nodup_append]
        refine ⟨n1, ?_, fun a ha b' hb e => ?_⟩
        · show ((p :: F') ++ F3).Nodup
          rw [List.nodup_append]
          refine ⟨List.nodup_cons.mpr ⟨pF', nF'⟩, m2, fun a ha b' hb e => ?_⟩
          subst e
          rcases List.mem_cons.mp ha with z | z
          · exact m3 a (by simp [z]) a hb rfl
          · rcases sub a z with y | y
            · exact dis a y a (by simp [hb]) rfl
            · exact m3 a (by simp [y]) a hb rfl
        · subst e
          have hb2 : a ∈ (p :: F') ++ F3 := hb
          rcases List.mem_append.mp hb2 with z | z
          · rcases List.mem_cons.mp z with z | z
            · exact n3 a ha a (by simp [z]) rfl
            · rcases sub a z with y | y
              · exact dis a y a (by simp [ha]) rfl
              · exact n3 a ha a (by simp [y]) rfl
          · exact n3 a ha a (by simp [z]) rfl
      · simp only [List.mem_append, List.mem_cons] at ha
        rcases ha with (z | z | z) | z
        · exact b a (by simp [z])
        · exact b a (by simp [z])
        · rcases sub a z with y | y
          · exact b a (by simp [y])
          · exact b a (by simp [y])
        · exact b a (by simp [z])
      · have e : a = p := by simpa using ha
        rw [e]
        exact b p (by simp)
theorem vs_fput {c f : Str} {i : Nat} {oe ve : Expr} {tv : VT} {pos pos' : Pos} (hcl : Cls X.K (He.ga X.K c)) (hna : NoAttr X.K (He.ga X.K c) f) (ho : PE X oe (tVar i)) (hv : VE X W ve tv) (hs : swapsWith ve (some (.Attribute oe f pos')) pos.line X.env = pure false) :
    VS X W (.Assign [.Attribute oe f pos'] ve pos) (vFPut c f i tv) := by
  refine PS.imp (ps_fld ho hv hs) fun D σ H ⟨Y, tv, to, env, E, l, k, t, s⟩ => ?_
  refine ⟨Y, tv, to, env, _, _, l, k, t, fun o e v H1 q k1 => ?_, s.xx σ⟩
  split at q
  · rename_i p c' es ei
    obtain ⟨rfl, q1, q2⟩ := q
    obtain ⟨dx, fs, f1, hp, fl, k2⟩ := Ok.fput (f := f) l k1 ei
    exact ⟨_, f1, p, _, dx, fs, rfl, hp, hcl, hna, by omega, s.nx _ _ _ q2 k2⟩
  · exact q.elim
end
end Hd
namespace Hd
/-! ### the value layer: comprehensions with two fors, the length of a set -/
section
open PySem PySem.Spec PyProof.Rows L2
variable {K : PySem.W.Frag} {W : WX} {H H' : Hp} {Y : Fx} {vs tv : List (Option V)} {os to env : List O} {v : V} {d : D} {o : O} {σ : L2.St} {X : Cx} {A : List Addr}
theorem wipe_wipe {σ : L2.St} {ns : List Nat} : L2.wipe (L2.wipe σ ns) ns = L2.wipe σ ns := wipe_same (ts := []) ⟨rfl, fun _ _ => rfl⟩ (by simp)
theorem wipe_sub {σ σ' : L2.St} {ns ms : List Nat} (hs : ∀ i ∈ ms, i ∈ ns) (e : L2.wipe σ' ms = L2.wipe σ ms) : L2.wipe σ' ns = L2.wipe σ ns := by
  refine List.ext_getElem? fun i => ?_
  have el : σ'.length = σ.length := by
    have := congrArg List.length e
    rw [L2.wipe_length, L2.wipe_length] at this
    exact this
  rw [wipe_get, wipe_get, el]
  by_cases q : i ∈ ns ∧ i < σ.length
  · rw [if_pos q, if_pos q]
  · rw [if_neg q, if_neg q]
    have h := congrArg (fun l : L2.St => l[i]?) e
    simp only [wipe_get, el] at h
    by_cases z : i ∈ ms ∧ i < σ.length
    · exact absurd ⟨hs i z.1, z.2⟩ q
    · rw [if_neg z, if_neg z] at h
      exact h
/-- a walk that fills the list at p -/
theorem lc_loop {ns ts : List Nat} {g : VTG} {tt : VTT} {te : VT} (hts : ∀ i ∈ ts, i ∈ ns) {J : It} {iv : List (Option V)} {io : List O} {ds acc0 : List D} {e0 : DE} {p : Addr} {Qf : List D → DE → Prop} {Fin : Hp → Prop} (l : tv.length = to.length) (li : iv.length = io.length) (it : ItOk K J iv io ds)
    (k0 : Ok K Y (iv ++ ((some (.ref p) :: tv) ++ L2.wipe σ ns)) (io ++ ((.ol p acc0 :: to) ++ e0)) H) (h0 : vLcL ns g tt te ds acc0 e0 Qf) (hz : acc0.length + ds.length ≤ sizeLine)
    (hf : ∀ acc e H', Qf acc e → Ok K Y ((some (.ref p) :: tv) ++ L2.wipe σ ns) ((.ol p acc :: to) ++ e) H' → Fin H') :
    ∃ Wi : Nat → Nat → Hp → Prop, (∃ m, Wi 0 m H) ∧ ∀ i m H, Wi i m H → (J.stop i H ∧ Fin H) ∨ (J.go i H ∧ ∃ Nx : Hp → Prop, (∀ H', Nx H' → ∃ m', m' < m ∧ Wi (i + 1) m' H') ∧ ∀ x H', J.yld i H x H' → lG K W0 ts g x (L2.wipe σ ns) H' fun σ2 H2 => L2.wipe σ2 ns = L2.wipe σ ns ∧ lT K W0 tt σ2 H2 fun b H3 =>
      if b = true then lE K W0 te σ2 H3 fun y H4 => ∃ acc, H4 p = some (.lst acc) ∧ acc.length < sizeLine ∧ Nx (upd H4 p (.lst (acc ++ [y]))) else Nx H3) := by
  refine ⟨fun i m H' => ∃ acc e', i ≤ ds.length ∧ m = ds.length - i ∧ acc.length ≤ acc0.length + i ∧ vLcL ns g tt te (ds.drop i) acc e' Qf ∧ Ok K Y (iv ++ ((some (.ref p) :: tv) ++ L2.wipe σ ns)) (io ++ ((.ol p acc :: to) ++ e')) H',
    ⟨_, acc0, e0, Nat.zero_le _, rfl, Nat.le_refl _, h0, k0⟩, ?_⟩
  rintro i m H' ⟨acc, e', h1, rfl, h2, h3, k4⟩
  by_cases hi : i < ds.length
  · obtain ⟨d, hd⟩ : ∃ d, ds[i]? = some d := ⟨_, List.getElem?_eq_getElem hi⟩
    rw [drop_at hd] at h3
    refine .inr ⟨it.go k4 hi, _, fun H2 n => ⟨ds.length - (i + 1), by omega, n⟩, fun x H2 hy => ?_⟩
    have k5 := it.yld k4 hd hy
    have lt : (iv ++ (some (.ref p) :: tv)).length = (io ++ (.ol p acc :: to)).length := by simp [l, li]
    refine ⟨Y, iv ++ (some (.ref p) :: tv), io ++ (.ol p acc :: to), e', .sh d, _, x0, lt, by simpa using k5, h3, fun e1 σ2 H3 q1 sb k6 => ⟨wipe_same sb hts, ?_⟩, fun _ => xOk0⟩
    refine ⟨Y, iv ++ (some (.ref p) :: tv), io ++ (.ol p acc :: to), e1, _, x0, lt, k6, q1, fun b e2 H4 q2 k7 => ?_, xOk0⟩
    have ws := wipe_same sb hts
    cases b with
    | false =>
      have k8 := Ok.wipe lt ns k7
      rw [ws] at k8
      exact ⟨acc, _, hi, rfl, by omega, q2, by simpa using k8⟩
    | true =>
      refine ⟨Y, iv ++ (some (.ref p) :: tv), io ++ (.ol p acc :: to), e2, _, x0, lt, k7, q2, fun o e3 y H5 q3 k8 => ?_, xOk0⟩
      obtain ⟨d', q3, k8⟩ := k8.fz q3
      obtain ⟨F, xs, w, _, hp5, z, r, up⟩ := k8.putL (i := io.length + 1) (p := p) (ds := acc) (by
        show (O.sh d' :: (io ++ (.ol p acc :: to) ++ e3))[io.length + 1]? = _
        rw [List.getElem?_cons_succ, List.append_assoc]
        have := ix_app (a := io) (b := (.ol p acc :: to) ++ e3) (i := 0)
        rw [Nat.add_zero] at this
        rw [this]; rfl)
      cases w with
      | cons c _ =>
        cases c with
        | sh ry =>
          have hz : xs.length < sizeLine := by rw [r.len]; omega
          refine ⟨xs, hp5, hz, acc ++ [d'], _, hi, rfl, by rw [List.length_append]; simp; omega, q3, ?_⟩
          have k9 := (up (xs ++ [y]) (acc ++ [d']) (by rw [List.length_append]; exact hz) (r.app (.cons ry .nil)))
          have e9 : (O.sh d' :: (io ++ (.ol p acc :: to) ++ e3)).set (io.length + 1) (.ol p (acc ++ [d'])) = O.sh d' :: (io ++ (.ol p (acc ++ [d']) :: to) ++ e3) := by
            rw [List.set_cons_succ, List.append_assoc]
            have := set_app (a := io) (b := (.ol p acc :: to) ++ e3) (i := 0) (x := .ol p (acc ++ [d']))
            rw [Nat.add_zero] at this
            rw [this]; simp
          rw [e9] at k9
          have lt2 : (iv ++ (some (.ref p) :: tv)).length = (io ++ (.ol p (acc ++ [d']) :: to)).length := by simp [l, li]
          have k10 := Ok.wipe lt2 ns k9.pop
          rw [ws] at k10
          simpa using k10
  · have e1 : i = ds.length := by omega
    subst e1
    rw [List.drop_length] at h3
    exact .inl ⟨it.stop k4, hf _ _ _ h3 (Ok.popn li k4)⟩
def vLc2L (ns ns1 : List Nat) (g : VTG) (tt : VTT) (ti1 : VTA) (g1 : VTG) (tt1 : VTT) (te : VT) : List D → List D → DE → (List D → DE → Prop) → Prop
  | [], acc, e, Q => Q acc e
  | d :: ds, acc, e, Q => g (.sh d) e (fun e1 => tt e1 (fun b e2 => if b = true then ti1 e2 (fun ds1 e3 => acc.length + ds1.length ≤ sizeLine ∧ vLcL ns1 g1 tt1 te ds1 acc (wipeE e3 ns1) fun acc' e4 => vLc2L ns ns1 g tt ti1 g1 tt1 te ds acc' (wipeE e4 ns) Q) x0
      else vLc2L ns ns1 g tt ti1 g1 tt1 te ds acc (wipeE e2 ns) Q) x0) x0
def vLc2 (ns ns1 : List Nat) (ti : VTA) (g : VTG) (tt : VTT) (ti1 : VTA) (g1 : VTG) (tt1 : VTT) (te : VT) : VT := fun env Q x => ti env (fun ds e => vLc2L ns ns1 g tt ti1 g1 tt1 te ds [] (wipeE e ns) fun acc e' => ∀ p, Q (.ol p acc) (wipeE e' ns)) x
theorem lc2_lift {ns ns1 ts ts1 : List Nat} {ti : VTA} {g : VTG} {tt : VTT} {ti1 : VTA} {g1 : VTG} {tt1 : VTT} {te : VT} {Q : L2.VK} (hts : ∀ i ∈ ts, i ∈ ns) (hts1 : ∀ i ∈ ts1, i ∈ ns1) (hn : ∀ i ∈ ns1, i ∈ ns) (h : lE K W (vLc2 ns ns1 ti g tt ti1 g1 tt1 te) σ H Q) :
    tLc2 (lI K W ti) (lG K W0 ts g) (lT K W0 tt) (lI K W0 ti1) (lG K W0 ts1 g1) (lT K W0 tt1) (lE K W0 te) ns ns1 σ H Q := by
  obtain ⟨Y, tv, to, env, Qd, xd, l, k, t, hq, hx⟩ := h
  refine ⟨Y, tv, to, env, _, xd, l, k, t, fun ds e J iv io H1 q li it k1 p hp => ?_, hx⟩
  have k2 : Ok K Y (some (.ref p) :: (iv ++ (tv ++ σ))) (.ol p [] :: (io ++ (to ++ e))) (upd H1 p (.lst [])) := Ok.lst (xs := []) (ds := []) k1 rfl (Nat.zero_le _) (.mk' hp)
  have k3 : Ok K Y (iv ++ ((some (.ref p) :: tv) ++ L2.wipe σ ns)) (io ++ ((.ol p [] :: to) ++ wipeE e ns)) (upd H1 p (.lst [])) := by
    have k4 := Ok.unrot (xs := iv) (ys := io) li k2
    have k5 := Ok.wipe (tv := iv ++ (some (.ref p) :: tv)) (to := io ++ (.ol p [] :: to)) (by simp [l, li]) ns (σ := σ) (env := e) (by simpa using k4)
    simpa using k5
  refine ⟨fun i m H' => ∃ acc e', i ≤ ds.length ∧ m = ds.length - i ∧ vLc2L ns ns1 g tt ti1 g1 tt1 te (ds.drop i) acc e' (fun acc e' => ∀ p, Qd (.ol p acc) (wipeE e' ns)) ∧ Ok K Y (iv ++ ((some (.ref p) :: tv) ++ L2.wipe σ ns)) (io ++ ((.ol p acc :: to) ++ e')) H',
    ⟨_, [], _, Nat.zero_le _, rfl, q, k3⟩, ?_⟩
  rintro i m H' ⟨acc, e', h1, rfl, h3, k4⟩
  by_cases hi : i < ds.length
  · obtain ⟨d, hd⟩ : ∃ d, ds[i]? = some d := ⟨_, List.getElem?_eq_getElem hi⟩
    rw [drop_at hd] at h3
    refine .inr ⟨it.go k4 hi, _, fun H2 n => ⟨ds.length - (i + 1), by omega, n⟩, fun x H2 hy => ?_⟩
    have k5 := it.yld k4 hd hy
    have lt : (iv ++ (some (.ref p) :: tv)).length = (io ++ (.ol p acc :: to)).length := by simp [l, li]
    refine ⟨Y, iv ++ (some (.ref p) :: tv), io ++ (.ol p acc :: to), e', .sh d, _, x0, lt, by simpa using k5, h3, fun e1 σ2 H3 q1 sb k6 => ⟨wipe_same sb hts, ?_⟩, fun _ => xOk0⟩
    refine ⟨Y, iv ++ (some (.ref p) :: tv), io ++ (.ol p acc :: to), e1, _, x0, lt, k6, q1, fun b e2 H4 q2 k7 => ?_, xOk0⟩
    have ws := wipe_same sb hts
    cases b with
    | false =>
      have k8 := Ok.wipe lt ns k7
      rw [ws] at k8
      exact ⟨acc, _, hi, rfl, q2, by simpa using k8⟩
    | true =>
      refine ⟨Y, iv ++ (some (.ref p) :: tv), io ++ (.ol p acc :: to), e2, _, x0, lt, k7, q2, fun ds1 e3 J1 iv1 io1 H5 q3 li1 it1 k8 => ?_, xOk0⟩
      obtain ⟨hz, q3⟩ := q3
      have k9 : Ok K Y ((iv1 ++ (iv ++ (some (.ref p) :: tv))) ++ L2.wipe σ2 ns1) ((io1 ++ (io ++ (.ol p acc :: to))) ++ wipeE e3 ns1) H5 := Ok.wipe (by simp [l, li, li1]) ns1 (by simpa using k8)
      -- the list to the front of the temps
      have k10 : Ok K Y (iv1 ++ ((some (.ref p) :: (iv ++ tv)) ++ L2.wipe σ2 ns1)) (io1 ++ ((.ol p acc :: (io ++ to)) ++ wipeE e3 ns1)) H5 := by
        have := Ok.rot (xs := iv1 ++ iv) (ys := io1 ++ io) (x := some (.ref p)) (o := .ol p acc) (vs := tv ++ L2.wipe σ2 ns1) (os := to ++ wipeE e3 ns1) (by simp [li, li1]) (by simpa using k9)
        have := Ok.unrot (xs := iv1) (ys := io1) (x := some (.ref p)) (o := .ol p acc) (vs := iv ++ (tv ++ L2.wipe σ2 ns1)) (os := io ++ (to ++ wipeE e3 ns1)) li1 (by simpa using this)
        simpa using this
      refine lc_loop (tv := iv ++ tv) (to := io ++ to) (σ := σ2) hts1 (by simp [l, li]) li1 it1 k10 q3 hz fun acc' e4 H6 q4 k11 => ?_
      refine ⟨acc', _, hi, rfl, q4, ?_⟩
      have k12 : Ok K Y (iv ++ ((some (.ref p) :: tv) ++ L2.wipe σ2 ns1)) (io ++ ((.ol p acc' :: to) ++ e4)) H6 := by
        have := Ok.unrot (xs := iv) (ys := io) (x := some (.ref p)) (o := .ol p acc') (vs := tv ++ L2.wipe σ2 ns1) (os := to ++ e4) li (by simpa using k11)
        simpa using this
      have k13 := Ok.wipe (tv := iv ++ (some (.ref p) :: tv)) (to := io ++ (.ol p acc' :: to)) (by simp [l, li]) ns (σ := L2.wipe σ2 ns1) (env := e4) (by simpa using k12)
      have e5 : L2.wipe (L2.wipe σ2 ns1) ns = L2.wipe σ ns := (wipe_sub hn wipe_wipe).trans ws
      rw [e5] at k13
      simpa using k13
  · have e1 : i = ds.length := by omega
    subst e1
    rw [List.drop_length] at h3
    refine .inl ⟨it.stop k4, hq _ _ _ _ (h3 p) ?_⟩
    have k5 := Ok.popn li k4
    have k6 := Ok.wipe (tv := some (.ref p) :: tv) (to := .ol p acc :: to) (by simp [l]) ns k5
    rw [wipe_wipe] at k6
    have k7 := Ok.unwipe (tv := some (.ref p) :: tv) (to := .ol p acc :: to) (σ := σ) (by simp [l]) ns (fun m h => h) k6
    simpa using k7
theorem ve_lc2 {elt tg iter tg1 iter1 : Expr} {ifs ifs1 : List Expr} {scope : Scope} {own : List (Str × Nat)} {vs1 ts ts1 : List Nat} {pos : Pos} {ti ti1 : VTA} {g g1 : VTG} {tt tt1 : VTT} {te : VT} (hc : X.calm = true) (hN : X.N.Nodup) (hi : VI X W tg iter ti) (ok : BlkOk X.N X.env.scope scope own) (hv : ∀ i ∈ vs1, i ∈ own.map (·.2)) (hts : ∀ i ∈ ts, i ∈ own.map (·.2)) (hts1 : ∀ i ∈ ts1, i ∈ vs1)
    (hg : ∀ (s : Shared) (H : Hp) (C : Addr) (cl : List (Str × Addr)) (fp : List Addr), VG (X.blk s H scope (compEnvC scope cl C X.env) fp) W0 tg ts g) (ht : ∀ (s : Shared) (H : Hp) (C : Addr) (cl : List (Str × Addr)) (fp : List Addr), VBs (X.blk s H scope (compEnvC scope cl C X.env) fp) W0 ifs tt)
    (hi1 : ∀ (s : Shared) (H : Hp) (C : Addr) (cl : List (Str × Addr)) (fp : List Addr), VI (X.blk s H scope (compEnvC scope cl C X.env) fp) W0 tg1 iter1 ti1)
    (hg1 : ∀ (s : Shared) (H : Hp) (C : Addr) (cl : List (Str × Addr)) (fp : List Addr), VG (X.blk s H scope (compEnvC scope cl C X.env) fp) W0 tg1 ts1 g1) (ht1 : ∀ (s : Shared) (H : Hp) (C : Addr) (cl : List (Str × Addr)) (fp : List Addr), VBs (X.blk s H scope (compEnvC scope cl C X.env) fp) W0 ifs1 tt1)
    (he : ∀ (s : Shared) (H : Hp) (C : Addr) (cl : List (Str × Addr)) (fp : List Addr), VE (X.blk s H scope (compEnvC scope cl C X.env) fp) W0 elt te) (hs : ∀ x, foldedSetIterable iter X.env x = pure x := by intro _; rfl) (hs1 : ∀ env x, foldedSetIterable iter1 env x = pure x := by intro _ _; rfl) :
    VE X W (.ListComp elt [⟨tg, iter, ifs, 0⟩, ⟨tg1, iter1, ifs1, 0⟩] scope pos) (vLc2 (own.map (·.2)) vs1 ti g tt ti1 g1 tt1 te) :=
  PE.imp (pe_lc2 (wi1 := lI X.K W0 ti1) (g := lG X.K W0 ts g) (tt := lT X.K W0 tt) (g1 := lG X.K W0 ts1 g1) (tt1 := lT X.K W0 tt1) (te := lE X.K W0 te) hc hN hi ok hv hg ht hi1 hg1 ht1 he hs hs1) fun _ _ _ h => lc2_lift hts hts1 hv h
/-! ### len({..}) -/
noncomputable def uniq (l : List D) : List D := l.foldl (fun s x => if x ∈ s then s else s ++ [x]) []
theorem uniq_snoc (l : List D) (x : D) : uniq (l ++ [x]) = if x ∈ uniq l then uniq l else uniq l ++ [x] := by
  unfold uniq
  rw [List.foldl_append]; rfl
theorem uniq_mem {l : List D} {x : D} : x ∈ uniq l ↔ x ∈ l := by
  suffices h : ∀ (r : List D), x ∈ uniq r.reverse ↔ x ∈ r.reverse by
    have := h l.reverse
    rwa [List.reverse_reverse] at this
  intro r
  induction r with
  | nil => exact Iff.rfl
  | cons a r ih =>
    rw [List.reverse_cons, uniq_snoc]
    split
    · rename_i h
      rw [ih, List.mem_append, List.mem_singleton]
      constructor
      · exact .inl
      · rintro (z | z)
        · exact z
        · rw [z]
          have : ∀ y, y ∈ uniq r.reverse → y ∈ r.reverse := fun y => by
            induction r generalizing a with
            | nil => exact fun z => z
            | cons b r ih2 =>
              intro z
              clear ih2
              revert z
              suffices q : ∀ s : List D, y ∈ uniq s.reverse → y ∈ s.reverse from q (b :: r)
              intro s
              induction s with
              | nil => exact fun z => z
              | cons c s ih3 =>
                rw [List.reverse_cons, uniq_snoc]
                intro z
                split at z
                · exact List.mem_append_left _ (ih3 z)
                · rcases List.mem_append.mp z with z | z
                  · exact List.mem_append_left _ (ih3 z)
                  · exact List.mem_append_right _ z
          exact this a h
    · rw [List.mem_append, ih, List.mem_append]
theorem uniq_le (l : List D) : (uniq l).length ≤ l.length := by
  suffices h : ∀ (r : List D), (uniq r.reverse).length ≤ r.reverse.length by
    have := h l.reverse
    rwa [List.reverse_reverse] at this
  intro r
  induction r with
  | nil => exact Nat.le_refl _
  | cons a r ih =>
    rw [List.reverse_cons, uniq_snoc, List.length_append]
    split
    · omega
    · rw [List.length_append]; omega
theorem uniq_nodup {l : List D} : (uniq l).length = l.length ↔ l.Nodup := by
  suffices h : ∀ (r : List D), (uniq r.reverse).length = r.reverse.length ↔ r.reverse.Nodup by
    have := h l.reverse
    rwa [List.reverse_reverse] at this
  intro r
  induction r with
  | nil => exact ⟨fun _ => .nil, fun _ => rfl⟩
  | cons a r ih =>
    rw [List.reverse_cons, uniq_snoc, List.length_append, List.nodup_append]
    have le := uniq_le r.reverse
    split
    · rename_i h
      constructor
      · intro z; simp at z; simp at le; omega
      · rintro ⟨_, _, z⟩
        exact absurd rfl (z a (uniq_mem.mp h) a (by simp))
    · rename_i h
      rw [List.length_append]
      constructor
      · intro z
        refine ⟨ih.mp (by omega), by simp, fun x hx y hy e => ?_⟩
        have ey : y = a := by simpa using hy
        rw [e, ey] at hx
        exact h (uniq_mem.mpr hx)
      · rintro ⟨z, _, _⟩
        rw [ih.mpr z]
def vSkL (ns : List Nat) (g : VTG) (tt : VTT) (te : VT) : List D → List D → DE → (List D → DE → Prop) → Prop
  | [], acc, e, Q => Q acc e
  | d :: ds, acc, e, Q => g (.sh d) e (fun e1 => tt e1 (fun b e2 => if b = true then te e2 (fun o e3 => o.fz fun d' => keyOk d' = true ∧ tupKey d' = false ∧ acc.length < 4000 ∧ vSkL ns g tt te ds (acc ++ [d']) (wipeE e3 ns) Q) x0 else vSkL ns g tt te ds acc (wipeE e2 ns) Q) x0) x0
noncomputable def vLenSk (ns : List Nat) (ti : VTA) (g : VTG) (tt : VTT) (te : VT) : VT := fun env Q x => ti env (fun ds e => vSkL ns g tt te ds [] (wipeE e ns) fun acc e' => Q (.sh (.int (uniq acc).length)) (wipeE e' ns)) x
theorem ho_owc {p : Addr} {u : HO} {x : Option V} {F : List Addr} (h : OwC K A H x (.ho p u) F) : x = some (.ref p) ∧ F = [p] ∧ ∃ u0, H p = some u0 ∧ Mut (some u0) := by
  cases h with
  | ho q m => exact ⟨rfl, rfl, _, q, m⟩
theorem sk_lift {P : Program} {w : World} {ns ts : List Nat} {ti : VTA} {g : VTG} {tt : VTT} {te : VT} {Q : L2.VK} (hts : ∀ i ∈ ts, i ∈ ns) (h : lE K W (vLenSk ns ti g tt te) σ H Q) :
    tSk P w (lI K W ti) (lG K W0 ts g) (lT K W0 tt) (lE K W0 te) ns σ H (fun v H' => ∃ (a : Addr) (S : Key → Bool) (n : Nat), [v] = [V.ref a] ∧ H' a = some (SetK P w a S n) ∧ Q (.int n) H') := by
  obtain ⟨Y, tv, to, env, Qd, xd, l, k, t, hq, hx⟩ := h
  refine ⟨Y, tv, to, env, _, xd, l, k, t, fun ds e J iv io H1 q li it k1 p hp => ?_, hx⟩
  have k2 : Ok K Y (some (.ref p) :: (iv ++ (tv ++ σ))) (.ho p (SetK P w p (fun _ => false) 0) :: (io ++ (to ++ e))) (upd H1 p (SetK P w p (fun _ => false) 0)) := k1.own (F0 := []) (.mk' hp) fun A F w nx => .ho upd_same True.intro
  have k3 : Ok K Y (iv ++ ((some (.ref p) :: tv) ++ L2.wipe σ ns)) (io ++ ((.ho p (SetK P w p (fun _ => false) 0) :: to) ++ wipeE e ns)) (upd H1 p (SetK P w p (fun _ => false) 0)) := by
    have k4 := Ok.unrot (xs := iv) (ys := io) li k2
    have k5 := Ok.wipe (tv := iv ++ (some (.ref p) :: tv)) (to := io ++ (.ho p (SetK P w p (fun _ => false) 0) :: to)) (by simp [l, li]) ns (σ := σ) (env := e) (by simpa using k4)
    simpa using k5
  refine ⟨fun i m H' => ∃ acc e' S, i ≤ ds.length ∧ m = ds.length - i ∧ (∀ j : Key, S j = true ↔ keyD j ∈ acc) ∧ vSkL ns g tt te (ds.drop i) acc e' (fun acc e' => Qd (.sh (.int (uniq acc).length)) (wipeE e' ns)) ∧ Ok K Y (iv ++ ((some (.ref p) :: tv) ++ L2.wipe σ ns)) (io ++ ((.ho p (SetK P w p S (uniq acc).length) :: to) ++ e')) H',
    ⟨_, [], _, fun _ => false, Nat.zero_le _, rfl, by simp, q, k3⟩, ?_⟩
  rintro i m H' ⟨acc, e', S, h1, rfl, h2, h3, k4⟩
  by_cases hi : i < ds.length
  · obtain ⟨d, hd⟩ : ∃ d, ds[i]? = some d := ⟨_, List.getElem?_eq_getElem hi⟩
    rw [drop_at hd] at h3
    refine .inr ⟨it.go k4 hi, _, fun H2 n => ⟨ds.length - (i + 1), by omega, n⟩, fun x H2 hy => ?_⟩
    have k5 := it.yld k4 hd hy
    have lt : (iv ++ (some (.ref p) :: tv)).length = (io ++ (.ho p (SetK P w p S (uniq acc).length) :: to)).length := by simp [l, li]
    refine ⟨Y, iv ++ (some (.ref p) :: tv), io ++ (.ho p (SetK P w p S (uniq acc).length) :: to), e', .sh d, _, x0, lt, by simpa using k5, h3, fun e1 σ2 H3 q1 sb k6 => ⟨wipe_same sb hts, ?_⟩, fun _ => xOk0⟩
    refine ⟨Y, iv ++ (some (.ref p) :: tv), io ++ (.ho p (SetK P w p S (uniq acc).length) :: to), e1, _, x0, lt, k6, q1, fun b e2 H4 q2 k7 => ?_, xOk0⟩
    have ws := wipe_same sb hts
    cases b with
    | false =>
      have k8 := Ok.wipe lt ns k7
      rw [ws] at k8
      exact ⟨acc, _, S, hi, rfl, h2, q2, by simpa using k8⟩
    | true =>
      refine ⟨Y, iv ++ (some (.ref p) :: tv), io ++ (.ho p (SetK P w p S (uniq acc).length) :: to), e2, _, x0, lt, k7, q2, fun o e3 y H5 q3 k8 => ?_, xOk0⟩
      obtain ⟨d', ⟨c1, c2, c3, q3⟩, k8⟩ := k8.fz q3
      have ei : (O.sh d' :: (io ++ (.ho p (SetK P w p S (uniq acc).length) :: to) ++ e3))[io.length + 1]? = some (.ho p (SetK P w p S (uniq acc).length)) := by
        rw [List.getElem?_cons_succ, List.append_assoc]
        have := ix_app (a := io) (b := (.ho p (SetK P w p S (uniq acc).length) :: to) ++ e3) (i := 0)
        rw [Nat.add_zero] at this
        rw [this]; rfl
      obtain ⟨A, ry⟩ := k8.one
      obtain ⟨F, w', cc, _, up⟩ := k8.putG (u := .own 0) ei ho_owc
      cases cc with
      | ho hp5 _ =>
        rcases key_of c1 ry with ⟨_, q0, rfl, rfl⟩ | ⟨z, _⟩
        · have ue : (uniq (acc ++ [keyD q0])).length = if S q0 = true then (uniq acc).length else (uniq acc).length + 1 := by
            rw [uniq_snoc]
            by_cases z : keyD q0 ∈ acc
            · rw [if_pos (uniq_mem.mpr z), if_pos ((h2 q0).mpr z)]
            · rw [if_neg (fun y => z (uniq_mem.mp y)), if_neg (fun y => z ((h2 q0).mp y)), List.length_append]; rfl
          refine ⟨q0, S, (uniq acc).length, rfl, hp5, by have := uniq_le acc; show _ < 4096; omega, acc ++ [keyD q0], _, fun j => S j || decide (j = q0), hi, rfl, fun j => ?_, q3, ?_⟩
          · rw [Bool.or_eq_true, h2, decide_eq_true_eq, List.mem_append, List.mem_singleton]
            exact ⟨fun z => z.imp id fun e => by rw [e], fun z => z.imp id keyD_inj⟩
          · have k9 := up (.ho p (SetK P w p (fun j => S j || decide (j = q0)) (uniq (acc ++ [keyD q0])).length)) (SetK P w p (fun j => S j || decide (j = q0)) (if S q0 = true then (uniq acc).length else (uniq acc).length + 1)) fun A u1 u2 => by
              rw [ue]
              exact .ho upd_same True.intro
            have e9 : ∀ c : O, (O.sh (keyD q0) :: (io ++ (.ho p (SetK P w p S (uniq acc).length) :: to) ++ e3)).set (io.length + 1) c = O.sh (keyD q0) :: (io ++ (c :: to) ++ e3) := fun c => by
              rw [List.set_cons_succ, List.append_assoc]
              have := set_app (a := io) (b := (.ho p (SetK P w p S (uniq acc).length) :: to) ++ e3) (i := 0) (x := c)
              rw [Nat.add_zero] at this
              rw [this]; simp
            rw [e9] at k9
            have k10 := Ok.wipe (tv := iv ++ (some (.ref p) :: tv)) (to := io ++ (.ho p (SetK P w p (fun j => S j || decide (j = q0)) (uniq (acc ++ [keyD q0])).length) :: to)) (by simp [l, li]) ns k9.pop
            rw [ws] at k10
            simpa using k10
        · rw [z] at c2; cases c2
  · have e1 : i = ds.length := by omega
    subst e1
    rw [List.drop_length] at h3
    have k5 := Ok.popn li k4
    have hp6 : H' p = some (SetK P w p S (uniq acc).length) := by
      obtain ⟨F, w', _⟩ := k5.ex
      cases w' with
      | cons c _ =>
        cases c with
        | ho q _ => exact q
    refine .inl ⟨it.stop k4, p, S, _, rfl, hp6, hq _ _ _ _ h3 ?_⟩
    have k6 := Ok.wipe (tv := some (.ref p) :: tv) (to := .ho p (SetK P w p S (uniq acc).length) :: to) (by simp [l]) ns k5
    rw [wipe_wipe] at k6
    have k7 := Ok.unwipe (tv := some (.ref p) :: tv) (to := .ho p (SetK P w p S (uniq acc).length) :: to) (σ := σ) (by simp [l]) ns (fun m h => h) k6
    exact (show Ok K Y (some (.ref p) :: (tv ++ σ)) (_ :: (to ++ wipeE e' ns)) H' from k7).pop.push (F := []) fun _ => .int _
theorem ve_lenSk {elt tg iter : Expr} {ifs : List Expr} {scope : Scope} {own : List (Str × Nat)} {p pos pos' : Pos} {ti : VTA} {g : VTG} {tt : VTT} {te : VT} {ts : List Nat} (hgl : Gl X "len") (hm : X.mg "len" = none) (hc : X.calm = true) (hN : X.N.Nodup) (hi : VI X W tg iter ti) (ok : BlkOk X.N X.env.scope scope own) (hts : ∀ i ∈ ts, i ∈ own.map (·.2))
    (hg : ∀ (s : Shared) (H : Hp) (C : Addr) (cl : List (Str × Addr)) (fp : List Addr), VG (X.blk s H scope (compEnvC scope cl C X.env) fp) W0 tg ts g) (ht : ∀ (s : Shared) (H : Hp) (C : Addr) (cl : List (Str × Addr)) (fp : List Addr), VBs (X.blk s H scope (compEnvC scope cl C X.env) fp) W0 ifs tt)
    (he : ∀ (s : Shared) (H : Hp) (C : Addr) (cl : List (Str × Addr)) (fp : List Addr), VE (X.blk s H scope (compEnvC scope cl C X.env) fp) W0 elt te) (hs : ∀ x, foldedSetIterable iter X.env x = pure x := by intro _; rfl)
    (hst : starEach [.SetComp elt [⟨tg, iter, ifs, 0⟩] scope pos'] X.env = (false, eval (.SetComp elt [⟨tg, iter, ifs, 0⟩] scope pos') X.env) :: starEach [] X.env := by rfl) (hpl : (backTo pos (starEach [] X.env)).any (·.1) = false := by rfl) :
    VE X W (.Call (.Name "len" p) [.SetComp elt [⟨tg, iter, ifs, 0⟩] scope pos'] [] pos) (vLenSk (own.map (·.2)) ti g tt te) :=
  PE.imp (pe_callB call_lenSk hgl hm (by decide +kernel) (pa_cons (pe_sk (g := lG X.K W0 ts g) (tt := lT X.K W0 tt) (te := lE X.K W0 te) hc hN hi ok hg ht he hs) pa_nil hst) (by decide) (by decide) hst hpl) fun σ H Q h => sk_lift (P := X.prog) (w := X.w) hts h
end
end Hd
namespace Hd
/-! ### the value layer: places within owned things -/
section
open PySem PySem.Spec PyProof.Rows L2
variable {K : PySem.W.Frag} {W : WX} {H H' : Hp} {Y : Fx} {vs tv : List (Option V)} {os to env : List O} {v : V} {d : D} {o : O} {σ : L2.St} {X : Cx} {A : List Addr}
/-- a step into an owned thing -/
inductive PSt where
  | ix (n : Nat) | key (k : D) | fld (f : Str)
noncomputable def kFind : List (D × O) → D → Option O
  | [], _ => none
  | (k, o) :: r, q => if k = q then some o else kFind r q
noncomputable def kSet : List (D × O) → D → O → List (D × O)
  | [], _, _ => []
  | (k, o) :: r, q, c => if k = q then (k, c) :: r else (k, o) :: kSet r q c
def fSet : List (Str × O) → Str → O → List (Str × O)
  | [], _, _ => []
  | (k, o) :: r, q, c => if k = q then (k, c) :: r else (k, o) :: fSet r q c
def fFind : List (Str × O) → Str → Option O
  | [], _ => none
  | (k, o) :: r, q => if k = q then some o else fFind r q
noncomputable def getP : O → List PSt → Option O
  | o, [] => some o
  | .ll _ os, .ix n :: π => (os[n]?).bind fun o => getP o π
  | .dd _ _ kvs, .key k :: π => (kFind kvs k).bind fun o => getP o π
  | .oo _ _ fs, .fld f :: π => (fFind fs f).bind fun o => getP o π
  | _, _ :: _ => none
noncomputable def setP : O → List PSt → O → O
  | _, [], c => c
  | .ll p os, .ix n :: π, c => (match os[n]? with
    | some o => .ll p (os.set n (setP o π c))
    | none => .ll p os)
  | .dd p t kvs, .key k :: π, c => (match kFind kvs k with
    | some o => .dd p t (kSet kvs k (setP o π c))
    | none => .dd p t kvs)
  | .oo p cl fs, .fld f :: π, c => (match fFind fs f with
    | some o => .oo p cl (fSet fs f (setP o π c))
    | none => .oo p cl fs)
  | o, _ :: _, _ => o
theorem kFind_ix : ∀ {kvs : List (D × O)} {k : D} {o : O}, kFind kvs k = some o → ∃ n, (kvs.map (·.2))[n]? = some o ∧ ∀ c, (kSet kvs k c).map (·.2) = (kvs.map (·.2)).set n c ∧ (kSet kvs k c).map (·.1) = kvs.map (·.1)
  | [], _, _, h => by cases h
  | (q, o') :: r, k, o, h => by
    unfold kFind at h
    by_cases e : q = k
    · rw [if_pos e] at h
      injection h with h
      subst h
      refine ⟨0, rfl, fun c => ?_⟩
      unfold kSet
      rw [if_pos e]
      exact ⟨rfl, rfl⟩
    · rw [if_neg e] at h
      obtain ⟨n, h1, h2⟩ := kFind_ix h
      refine ⟨n + 1, by simpa using h1, fun c => ?_⟩
      unfold kSet
      rw [if_neg e]
      obtain ⟨a, b⟩ := h2 c
      exact ⟨by simp [a], by simp [b]⟩
theorem fFind_ix : ∀ {kvs : List (Str × O)} {k : Str} {o : O}, fFind kvs k = some o → ∃ n, (kvs.map (·.2))[n]? = some o ∧ ∀ c, (fSet kvs k c).map (·.2) = (kvs.map (·.2)).set n c ∧ (fSet kvs k c).map (·.1) = kvs.map (·.1)
  | [], _, _, h => by cases h
  | (q, o') :: r, k, o, h => by
    unfold fFind at h
    by_cases e : q = k
    · rw [if_pos e] at h
      injection h with h
      subst h
      refine ⟨0, rfl, fun c => ?_⟩
      unfold fSet
      rw [if_pos e]
      exact ⟨rfl, rfl⟩
    · rw [if_neg e] at h
      obtain ⟨n, h1, h2⟩ := fFind_ix h
      refine ⟨n + 1, by simpa using h1, fun c => ?_⟩
      unfold fSet
      rw [if_neg e]
      obtain ⟨a, b⟩ := h2 c
      exact ⟨by simp [a], by simp [b]⟩
/-- what a change elsewhere lets be -/
structure Keeps (K : PySem.W.Frag) (A A' : List Addr) (H H' : Hp) (L : List Addr) : Prop where
  cell : ∀ {v o E}, (∀ p ∈ E, p ∈ L) → OwC K A H v o E → OwC K A' H' v o E
  obj : ∀ p ∈ L, ∀ u, H p = some u → H' p = some u
theorem Keeps.sub {A' L M : List Addr} (k : Keeps K A A' H H' L) (h : ∀ p ∈ M, p ∈ L) : Keeps K A A' H H' M := ⟨fun hE c => k.cell (fun p hp => h p (hE p hp)) c, fun p hp u e => k.obj p (h p hp) u e⟩
theorem OwC.path : ∀ {π : List PSt} {x : Option V} {o c : O} {F : List Addr}, OwC K A H x o F → getP o π = some c → ∃ y L F2 R, F = L ++ F2 ++ R ∧ OwC K A H y c F2 ∧
    ∀ {A' H' c' G}, Keeps K A A' H H' (L ++ R) → OwC K A' H' y c' G → OwC K A' H' x (setP o π c') (L ++ G ++ R)
  | [], x, o, c, F, w, h => by
    unfold getP at h
    injection h with h
    subst h
    refine ⟨x, [], F, [], by simp, w, fun {A' H' c' G} _ q => ?_⟩
    unfold setP
    simpa using q
  | s :: π, x, o, c, F, w, h => by
    cases w with
    | @ll p ws os F hp z t =>
      cases s with
      | ix n =>
        unfold getP at h
        cases e : os[n]? with
        | none => rw [e] at h; cases h
        | some o1 =>
          rw [e] at h
          obtain ⟨y1, F1, F2, F3, e1, e2, c1, up⟩ := t.at_ e
          obtain ⟨y, L, G2, R, e3, c2, up2⟩ := OwC.path c1 (show getP o1 π = some c from h)
          refine ⟨y, p :: (F1 ++ L), G2, R ++ F3, by rw [e2, e3]; simp, c2, fun {A' H' c' G} kp q => ?_⟩
          have q2 := up2 (kp.sub fun a ha => by simp only [List.mem_append, List.mem_cons] at ha ⊢; rcases ha with z | z; exact .inl (.inr (.inr z)); exact .inr (.inl z)) q
          have t2 := up (A' := A') (H' := H') (fun hE cc => kp.cell (fun a ha => by have := hE a ha; simp only [List.mem_append, List.mem_cons] at this ⊢; rcases this with z | z; exact .inl (.inr (.inl z)); exact .inr (.inr z)) cc) (v' := y1) q2
          rw [set_self e1] at t2
          have hs : setP (.ll p os) (.ix n :: π) c' = .ll p (os.set n (setP o1 π c')) := by conv => lhs; unfold setP; rw [e]
          rw [hs]
          have := OwC.ll (kp.obj p (by simp) _ hp) z t2
          simpa using this
      | _ => cases h
    | @oo p cl dx fs es F hp t ek =>
      cases s with
      | fld f =>
        unfold getP at h
        cases e : fFind es f with
        | none => rw [e] at h; cases h
        | some o1 =>
          rw [e] at h
          obtain ⟨n, en, se⟩ := fFind_ix e
          obtain ⟨y1, F1, F2, F3, e1, e2, c1, up⟩ := t.at_ en
          obtain ⟨y, L, G2, R, e3, c2, up2⟩ := OwC.path c1 (show getP o1 π = some c from h)
          refine ⟨y, p :: (F1 ++ L), G2, R ++ F3, by rw [e2, e3]; simp, c2, fun {A' H' c' G} kp q => ?_⟩
          have q2 := up2 (kp.sub fun a ha => by simp only [List.mem_append, List.mem_cons] at ha ⊢; rcases ha with z | z; exact .inl (.inr (.inr z)); exact .inr (.inl z)) q
          have t2 := up (A' := A') (H' := H') (fun hE cc => kp.cell (fun a ha => by have := hE a ha; simp only [List.mem_append, List.mem_cons] at this ⊢; rcases this with z | z; exact .inl (.inr (.inl z)); exact .inr (.inr z)) cc) (v' := y1) q2
          rw [set_self e1, ← (se _).1] at t2
          have hs : setP (.oo p cl es) (.fld f :: π) c' = .oo p cl (fSet es f (setP o1 π c')) := by conv => lhs; unfold setP; rw [e]
          rw [hs]
          have := OwC.oo (kp.obj p (by simp) _ hp) t2 ((se _).2.trans ek)
          simpa using this
      | _ => cases h
    | @dd p kvs es F hp z t ek =>
      cases s with
      | key f =>
        unfold getP at h
        cases e : kFind es f with
        | none => rw [e] at h; cases h
        | some o1 =>
          rw [e] at h
          obtain ⟨n, en, se⟩ := kFind_ix e
          obtain ⟨y1, F1, F2, F3, e1, e2, c1, up⟩ := t.at_ en
          obtain ⟨y, L, G2, R, e3, c2, up2⟩ := OwC.path c1 (show getP o1 π = some c from h)
          refine ⟨y, p :: (F1 ++ L), G2, R ++ F3, by rw [e2, e3]; simp, c2, fun {A' H' c' G} kp q => ?_⟩
          have q2 := up2 (kp.sub fun a ha => by simp only [List.mem_append, List.mem_cons] at ha ⊢; rcases ha with z | z; exact .inl (.inr (.inr z)); exact .inr (.inl z)) q
          have t2 := up (A' := A') (H' := H') (fun hE cc => kp.cell (fun a ha => by have := hE a ha; simp only [List.mem_append, List.mem_cons] at this ⊢; rcases this with z | z; exact .inl (.inr (.inl z)); exact .inr (.inr z)) cc) (v' := y1) q2
          rw [set_self e1, ← (se _).1] at t2
          have hs : setP (.dd p false es) (.key f :: π) c' = .dd p false (kSet es f (setP o1 π c')) := by conv => lhs; unfold setP; rw [e]
          rw [hs]
          have := OwC.dd (kp.obj p (by simp) _ hp) z t2 ((se _).2.trans ek)
          simpa using this
      | _ => cases h
    | @ddT p kvs es F hp z t ek =>
      cases s with
      | key f =>
        unfold getP at h
        cases e : kFind es f with
        | none => rw [e] at h; cases h
        | some o1 =>
          rw [e] at h
          obtain ⟨n, en, se⟩ := kFind_ix e
          obtain ⟨y1, F1, F2, F3, e1, e2, c1, up⟩ := t.at_ en
          obtain ⟨y, L, G2, R, e3, c2, up2⟩ := OwC.path c1 (show getP o1 π = some c from h)
          refine ⟨y, p :: (F1 ++ L), G2, R ++ F3, by rw [e2, e3]; simp, c2, fun {A' H' c' G} kp q => ?_⟩
          have q2 := up2 (kp.sub fun a ha => by simp only [List.mem_append, List.mem_cons] at ha ⊢; rcases ha with z | z; exact .inl (.inr (.inr z)); exact .inr (.inl z)) q
          have t2 := up (A' := A') (H' := H') (fun hE cc => kp.cell (fun a ha => by have := hE a ha; simp only [List.mem_append, List.mem_cons] at this ⊢; rcases this with z | z; exact .inl (.inr (.inl z)); exact .inr (.inr z)) cc) (v' := y1) q2
          rw [set_self e1, ← (se _).1] at t2
          have hs : setP (.dd p true es) (.key f :: π) c' = .dd p true (kSet es f (setP o1 π c')) := by conv => lhs; unfold setP; rw [e]
          rw [hs]
          have := OwC.ddT (kp.obj p (by simp) _ hp) z t2 ((se _).2.trans ek)
          simpa using this
      | _ => cases h
    | _ => cases s <;> cases h
/-- the cell at a place, and how it may be changed -/
theorem Ok.path {i : Nat} {π : List PSt} {o c : O} (k : Ok K Y vs os H) (h : os[i]? = some o) (hc : getP o π = some c) : ∃ F x y L F2 R, OwA K (Y.A ++ F) H vs os F ∧ F.Nodup ∧ vs[i]? = some x ∧ F = L ++ F2 ++ R ∧ OwC K (Y.A ++ F) H y c F2 ∧
    ∀ {H' c' G}, Stp F2 H H' → (∀ p ∈ G, p ∈ F2 ∨ H p = none) → G.Nodup → (∀ A', (∀ a ∈ A', a ∈ Y.A ++ (L ++ G ++ R)) → OwC K A' H' y c' G) → Ok K Y vs (os.set i (setP o π c')) H' := by
  obtain ⟨F, w, nd, b⟩ := k.ex
  obtain ⟨x, F1, F2, F3, e1, e2, c0, up⟩ := w.at_ h
  obtain ⟨y, L, G2, R, e3, c1, up2⟩ := c0.path hc
  refine ⟨F, x, y, F1 ++ L, G2, R ++ F3, w, nd, e1, by rw [e2, e3]; simp, c1, fun {H' c' G} st new ng hcc => ?_⟩
  have eF : F = (F1 ++ L) ++ G2 ++ (R ++ F3) := by rw [e2, e3]; simp
  have nd' := nd
  rw [eF, List.append_assoc, List.nodup_append] at nd'
  obtain ⟨n1, n2, n3⟩ := nd'
  rw [List.nodup_append] at n2
  obtain ⟨m1, m2, m3⟩ := n2
  have inLR : ∀ p, p ∈ (F1 ++ L) ++ (R ++ F3) → p ∈ F ∧ p ∉ G2 := fun p hp => by
    refine ⟨by rw [eF]; simp only [List.mem_append] at hp ⊢; rcases hp with z | z; exact .inl (.inl z); exact .inr z, fun z => ?_⟩
    rcases List.mem_append.mp hp with y | y
    · exact n3 p y p (List.mem_append_left _ z) rfl
    · exact m3 p z p y rfl
  -- the avoid list that holds all
  have kp : Keeps K (Y.A ++ F) (Y.A ++ ((F1 ++ L) ++ G ++ (R ++ F3))) H H' ((F1 ++ L) ++ (R ++ F3)) := ⟨fun {v o E} hE cc => by
      have c2 : OwC K (Y.A ++ (F ++ G)) H v o E := cc.avoid fun a ha n => by
        simp only [List.mem_append] at ha n
        rcases ha with z | z | z
        · exact absurd (.inl z) n
        · exact absurd (.inr z) n
        · rcases new a z with y | y
          · exact absurd (.inr (by rw [eF]; simp [y])) n
          · exact y
      have c3 := c2.mono st (fun a ha => by rw [eF]; simp [ha]) fun a ha z => (inLR a (hE a z)).2 ha
      refine c3.avoid fun a ha n => absurd ?_ n
      simp only [List.mem_append] at ha ⊢
      rcases ha with z | (z | z) | z
      · exact .inl z
      · exact .inr (.inl (by rw [eF]; simp only [List.mem_append]; exact .inl (.inl z)))
      · exact .inr (.inr z)
      · exact .inr (.inl (by rw [eF]; simp only [List.mem_append]; exact .inr z)), fun p hp u e => st.k p u (inLR p hp).2 e⟩
  have q1 := up2 (kp.sub fun a ha => by simp only [List.mem_append] at ha ⊢; rcases ha with z | z; exact .inl (.inr z); exact .inr (.inl z)) (hcc _ fun a ha => ha)
  have t := up (A' := Y.A ++ ((F1 ++ L) ++ G ++ (R ++ F3))) (H' := H') (fun hE cc => kp.cell (fun a ha => by have := hE a ha; simp only [List.mem_append] at this ⊢; rcases this with z | z; exact .inl (.inl z); exact .inr (.inr z)) cc) (v' := x) q1
  rw [set_self e1] at t
  refine ⟨⟨(F1 ++ L) ++ G ++ (R ++ F3), by simpa using t, ?_, fun p hp => ?_⟩, k.st.via st fun a ha => b a (by rw [eF]; simp [ha]), k.al, k.ba⟩
  · rw [List.append_assoc, List.nodup_append]
    have dj : ∀ a, a ∈ G → a ∉ (F1 ++ L) ∧ a ∉ (R ++ F3) := fun a ha => by
      rcases new a ha with y | y
      · exact ⟨fun z => n3 a z a (List.mem_append_left _ y) rfl, fun z => m3 a y a z rfl⟩
      · have hn : a ∉ F := fun z => w.has a z y
        exact ⟨fun z => hn (by rw [eF]; simp only [List.mem_append] at z ⊢; exact .inl (.inl z)), fun z => hn (by rw [eF]; simp only [List.mem_append] at z ⊢; exact .inr z)⟩
    refine ⟨n1, List.nodup_append.mpr ⟨ng, m2, fun a ha b' hb e => by subst e; exact (dj a ha).2 hb⟩, fun a ha b' hb e => ?_⟩
    subst e
    rcases List.mem_append.mp hb with z | z
    · exact (dj a z).1 ha
    · exact n3 a ha a (List.mem_append_right _ z) rfl
  · simp only [List.mem_append] at hp
    rcases hp with (z | z) | z
    · exact b p (by rw [eF]; simp only [List.mem_append]; exact .inl (.inl z))
    · rcases new p z with y | y
      · exact b p (by rw [eF]; simp [y])
      · exact .inr (k.st.f p y)
    · exact b p (by rw [eF]; simp only [List.mem_append]; exact .inr z)
/-- the root at a place of the cells -/
noncomputable def cellAt (env : DE) (i : Nat) (π : List PSt) : Option O := (env[i]?).bind fun o => getP o π
noncomputable def rootAt (env : DE) (i : Nat) (π : List PSt) : Option Addr := (cellAt env i π).bind O.root
noncomputable def putAt (env : DE) (i : Nat) (π : List PSt) (c : O) : DE := match env[i]? with
  | some o => env.set i (setP o π c)
  | none => env
abbrev VTL := DE → (Nat → List PSt → DE → Prop) → XD → Prop
def lL (K : PySem.W.Frag) (W : WX) (t : VTL) : TE := fun σ H Q => ∃ Y tv to env Qd xd, tv.length = to.length ∧ Ok K Y (tv ++ σ) (to ++ env) H ∧ t env Qd xd ∧
  (∀ i π env p H', Qd i π env → rootAt env i π = some p → Ok K Y (tv ++ σ) (to ++ env) H' → Q (.ref p) H') ∧ xOk K W Y tv to σ xd
def VL (X : Cx) (W : WX) (e : Expr) (t : VTL) : Prop := PE X e (lL X.K W t)
noncomputable def vlName (i : Nat) : VTL := fun env Q _ => (rootAt env i []).isSome = true ∧ Q i [] env
theorem rootAt_slot {i : Nat} {π : List PSt} {p : Addr} (l : tv.length = to.length) (k : Ok K Y (tv ++ σ) (to ++ env) H) (h : rootAt env i π = some p) : ∃ o c, env[i]? = some o ∧ getP o π = some c ∧ c.root = some p := by
  unfold rootAt cellAt at h
  cases e : env[i]? with
  | none => rw [e] at h; cases h
  | some o =>
    rw [e] at h
    cases e2 : getP o π with
    | none => rw [show ((some o).bind fun o => getP o π) = getP o π from rfl, e2] at h; cases h
    | some c =>
      rw [show ((some o).bind fun o => getP o π) = getP o π from rfl, e2] at h
      exact ⟨o, c, rfl, e2, h⟩
theorem vl_name (i : Nat) {x : Str} {pos : Pos} (hN : X.N[i]? = some x := by rfl) (hv : Vis X.env.scope x := by first | exact Or.inl rfl | exact Or.inr (Or.inl rfl) | exact Or.inr (Or.inr rfl)) (hd : (x == ("__debug__" : Str)) = false := by decide) (hcd : (x == ("__classdict__" : Str)) = false := by decide) :
    VL X W (.Name x pos) (vlName i) := by
  refine PE.imp (pe_var hN hv hd hcd) fun σ H Q ⟨Y, tv, to, env, Qd, xd, l, k, t, hq, hx⟩ => ?_
  obtain ⟨t1, t2⟩ := t
  obtain ⟨p, hp⟩ := Option.isSome_iff_exists.mp t1
  obtain ⟨o, c, e1, e2, e3⟩ := rootAt_slot l k hp
  have e4 : o = c := by
    unfold getP at e2
    injection e2
  subst e4
  obtain ⟨e5, _⟩ := k.lend (i := to.length + i) (ix_app.trans e1) e3
  rw [← l, ix_app] at e5
  exact ⟨_, e5, hq _ _ _ _ _ t2 hp k⟩
/-- x[n], x an owned list of owned things -/
noncomputable def vlIx (n : Nat) (t : VTL) : VTL := fun env Q x => t env (fun i π e => (rootAt e i (π ++ [.ix n])).isSome = true ∧ Q i (π ++ [.ix n]) e) x
theorem getP_app : ∀ {π ρ : List PSt} {o c : O}, getP o (π ++ ρ) = some c → ∃ m, getP o π = some m ∧ getP m ρ = some c
  | [], ρ, o, c, h => ⟨o, by unfold getP; rfl, h⟩
  | s :: π, ρ, o, c, h => by
    rw [List.cons_append] at h
    cases o <;> cases s <;> first
      | (unfold getP at h; cases h; done)
      | skip
    · rename_i p cl fs f
      unfold getP at h
      cases e : fFind fs f with
      | none => rw [e] at h; cases h
      | some o1 =>
        rw [e] at h
        obtain ⟨m, h1, h2⟩ := getP_app (o := o1) h
        refine ⟨m, ?_, h2⟩
        conv => lhs; unfold getP
        rw [e]; exact h1
    · rename_i p t kvs f
      unfold getP at h
      cases e : kFind kvs f with
      | none => rw [e] at h; cases h
      | some o1 =>
        rw [e] at h
        obtain ⟨m, h1, h2⟩ := getP_app (o := o1) h
        refine ⟨m, ?_, h2⟩
        conv => lhs; unfold getP
        rw [e]; exact h1
    · rename_i p os n
      unfold getP at h
      cases e : os[n]? with
      | none => rw [e] at h; cases h
      | some o1 =>
        rw [e] at h
        obtain ⟨m, h1, h2⟩ := getP_app (o := o1) h
        refine ⟨m, ?_, h2⟩
        conv => lhs; unfold getP
        rw [e]; exact h1
theorem atI_ofNat {α : Type} {xs : List α} {n : Nat} {v : α} (h : xs[n]? = some v) : L2.atI xs (n : Int) = some v := atI_nat h
theorem vl_ix {e : Expr} {n : Nat} {t : VTL} {pos pos' : Pos} {jj} (h : VL X W e t) : VL X W (.Subscript e (.Constant (.int (n : Nat)) jj pos') pos) (vlIx n t) := by
  refine PE.imp (pe_ix ix_list h pe_int (fun _ _ => rfl)) fun σ H Q ⟨Y, tv, to, env, Qd, xd, l, k, t, hq, hx⟩ => ?_
  refine ⟨Y, tv, to, env, _, xd, l, k, t, fun i π e p H' q hr k' => ?_, hx⟩
  obtain ⟨q1, q2⟩ := q
  obtain ⟨p2, hp2⟩ := Option.isSome_iff_exists.mp q1
  obtain ⟨o, c, e1, e2, e3⟩ := rootAt_slot l k' hp2
  obtain ⟨m, e4, e5⟩ := getP_app e2
  obtain ⟨F, x, y, L, F2, R, w, nd, f1, f2, c1, _⟩ := k'.path (i := to.length + i) (ix_app.trans e1) e4
  have em : m.root = some p := by
    unfold rootAt cellAt at hr
    rw [e1] at hr
    rw [show ((some o).bind fun o => getP o π) = getP o π from rfl, e4] at hr
    exact hr
  obtain ⟨rfl, _⟩ := c1.root em
  cases m with
  | ll p' os =>
    cases c1 with
    | @ll _ ws _ F' hp z t =>
      unfold getP at e5
      cases e6 : os[n]? with
      | none => rw [e6] at e5; cases e5
      | some o2 =>
        rw [e6] at e5
        have e7 : o2 = c := by
          have : getP o2 [] = some c := e5
          unfold getP at this
          injection this
        subst e7
        obtain ⟨x2, G1, G2, G3, g1, g2, g3, _⟩ := t.at_ e6
        obtain ⟨rfl, _⟩ := g3.root e3
        have g4 : ws[n]? = some (.ref p2) := by
          rw [List.getElem?_map] at g1
          cases e8 : ws[n]? with
          | none => rw [e8] at g1; cases g1
          | some z =>
            rw [e8] at g1
            have g5 : some z = some (V.ref p2) := Option.some.inj g1
            rw [g5]
        exact ⟨_, ws, (n : Nat), .ref p2, rfl, rfl, SqL.of hp, atI_nat g4, hq _ _ _ _ _ q2 hp2 k'⟩
  | _ => unfold getP at e5; cases e5
end
end Hd
namespace Hd
/-! ### the value layer: methods at places; calls that are shown owned lists -/
section
open PySem PySem.Spec PyProof.Rows L2
variable {K : PySem.W.Frag} {W : WX} {H H' : Hp} {Y : Fx} {vs tv : List (Option V)} {os to env : List O} {v : V} {d : D} {o : O} {σ : L2.St} {X : Cx} {A : List Addr}
theorem Ok.putLP {i : Nat} {π : List PSt} {p : Addr} {ds : List D} (k : Ok K Y vs os H) (h : os[i]? = some o) (hc : getP o π = some (.ol p ds)) : ∃ F xs, OwA K (Y.A ++ F) H vs os F ∧ H p = some (.lst xs) ∧ xs.length ≤ sizeLine ∧ RpA K (Y.A ++ F) H xs ds ∧
    ∀ ys es, ys.length ≤ sizeLine → RpA K (Y.A ++ F) H ys es → Ok K Y vs (os.set i (setP o π (.ol p es))) (upd H p (.lst ys)) := by
  obtain ⟨F, x, y, L, F2, R, w, nd, e1, e2, c, up⟩ := k.path h hc
  cases c with
  | @ol _ xs _ hp z r =>
    refine ⟨F, xs, w, hp, z, r, fun ys es hz ry => ?_⟩
    have st : Stp [p] H (upd H p (.lst ys)) := .put hp
    refine up st (fun a ha => .inl ha) (by simp) fun A' hA => .ol upd_same hz ?_
    exact (ry.mono (st.mono fun a ha => by rw [e2]; simp at ha ⊢; simp [ha])).sub fun a ha => by rw [e2]; exact hA a ha
noncomputable def vMtP (g : List D → List D → (O → List D → Prop) → Prop) (tp : VTL) (ta : VTA) : VT := fun env Q x => tp env (fun i π e => (match cellAt e i π with
  | some (.ol p _) => ta e (fun ds e2 => match cellAt e2 i π with
    | some (.ol p2 l) => p2 = p ∧ g l ds fun o l' => Q o (putAt e2 i π (.ol p2 l'))
    | _ => False) x
  | _ => False)) x
theorem cellAt_inv {i : Nat} {π : List PSt} {c : O} (h : cellAt env i π = some c) : ∃ o, env[i]? = some o ∧ getP o π = some c := by
  unfold cellAt at h
  cases e : env[i]? with
  | none => rw [e] at h; cases h
  | some o => rw [e] at h; exact ⟨o, rfl, h⟩
theorem mtP_lift {n : Nat} {g : List D → List D → (O → List D → Prop) → Prop} {tp : VTL} {ta : VTA} {r : V → List V → Hp → VK → Prop} {Q : VK}
    (hr : ∀ (Y : Fx) (vs : List (Option V)) (os : List O) (j : Nat) (π : List PSt) (ob : O) (p : Addr) (l ds : List D) (xs : List V) (H : Hp) (Q : VK) (Qd : O → List D → Prop), Ok K Y (xs.map some ++ vs) (ds.map O.sh ++ os) H → xs.length = n → ds.length = n → os[j]? = some ob → getP ob π = some (.ol p l) → g l ds Qd →
      (∀ o l' v H', Qd o l' → Ok K Y (some v :: vs) (o :: os.set j (setP ob π (.ol p l'))) H' → Q v H') → r (.ref p) xs H Q)
    (h : lE K W (vMtP g tp ta) σ H Q) : tBM K "list" r (lL K W tp) (lA K W n ta) σ H Q := by
  obtain ⟨Y, tv, to, env, Qd, xd, l, k, t, hq, hx⟩ := h
  refine ⟨Y, tv, to, env, _, xd, l, k, t, fun i π e p H' q hp k' => ?_, hx⟩
  split at q
  · rename_i p0 l0 e0
    obtain ⟨o0, e1, e2⟩ := cellAt_inv e0
    have ep : p = p0 := by
      unfold rootAt at hp
      rw [e0] at hp
      have hp : some p0 = some p := hp
      injection hp with hp
      exact hp.symm
    subst ep
    obtain ⟨F, xs, w, h1, _⟩ := k'.putLP (i := to.length + i) (ix_app.trans e1) e2
    refine ⟨.inl ⟨rfl, xs, SqL.of h1⟩, Y, tv, to, e, _, xd, l, k', q, fun ds en vs H2 q2 l1 l2 k2 => ?_, hx⟩
    split at q2
    · rename_i p2 l' e3
      obtain ⟨rfl, q2⟩ := q2
      obtain ⟨o2, f1, f2⟩ := cellAt_inv e3
      refine hr Y (tv ++ σ) (to ++ en) (to.length + i) π o2 p2 l' ds vs H2 Q _ k2 l1 l2 (ix_app.trans f1) f2 q2 fun o l3 v H' q k3 => hq _ _ _ _ q ?_
      rw [set_app] at k3
      unfold putAt
      rw [f1]
      exact k3
    · exact q2.elim
  · exact q.elim
section
variable {e ob : Expr} {apos cpos : Pos} {ta : VTA} {tp : VTL}
theorem ve_appendP (ho : VL X W ob tp) (ha : VA X W [e] 1 ta) (hbase : attributeBase ob "append" X.env (eval ob X.env) = eval ob X.env := by rfl) (hline : (apos.endLine == cpos.line) = true := by rfl) (hs : starEach [e] X.env = (false, eval e X.env) :: starEach [] X.env := by rfl)
    (hfew : ((backTo cpos (starEach [e] X.env)).all (fun x => !x.1) && (backToKw cpos (keywordEach [] X.env)).all (fun x => x.1.isSome) && decide ([e].length + ([] : List Keyword).length + (if ([] : List Keyword).isEmpty then 0 else 1) < 30)) = true := by rfl) (hplain : (backTo cpos (starEach [] X.env)).any (·.1) = false := by rfl) :
    VE X W (.Call (.Attribute ob "append" apos) [e] [] cpos) (vMtP gAppend tp ta) := by
  refine PE.imp (pe_bm PySem.F.plainAttrs_list PySem.F.slot_list_append PySem.F.type_list_append mt_append ho ha hbase hfew hline hs hplain) fun σ H Q h => mtP_lift (n := 1) (fun Y vs os j π ob p l ds xs H Q Qd k l1 l2 e1 e2 t hq => ?_) h
  match ds, l2, xs, l1 with
  | [d], _, [y], _ =>
    have k2 : Ok X.K Y (some y :: vs) (.sh d :: os) H := k
    obtain ⟨F, zs, w, hp, z, r, up⟩ := k2.putLP (i := j + 1) (by simpa using e1) e2
    cases w with
    | cons c _ =>
      cases c with
      | sh ry =>
        refine ⟨p, zs, y, rfl, rfl, hp, by rw [r.len]; exact t.1, hq _ _ _ _ t.2 ?_⟩
        have k3 := up (zs ++ [y]) (l ++ [d]) (by rw [List.length_append, r.len]; exact t.1) (r.app (.cons ry .nil))
        exact (show Ok X.K Y (some y :: vs) (.sh d :: os.set j (setP ob π (.ol p (l ++ [d])))) _ from k3).pop.push (F := []) fun _ => .non
theorem mtP0_lift {g : List D → List D → (O → List D → Prop) → Prop} {tp : VTL} {r : V → List V → Hp → VK → Prop} {Q : VK}
    (hr : ∀ (Y : Fx) (vs : List (Option V)) (os : List O) (j : Nat) (π : List PSt) (ob : O) (p : Addr) (l : List D) (H : Hp) (Q : VK) (Qd : O → List D → Prop), Ok K Y vs os H → os[j]? = some ob → getP ob π = some (.ol p l) → g l [] Qd →
      (∀ o l' v H', Qd o l' → Ok K Y (some v :: vs) (o :: os.set j (setP ob π (.ol p l'))) H' → Q v H') → r (.ref p) [] H Q)
    (h : lE K W (vMtP g tp vANil) σ H Q) : tBM0 K "list" r (lL K W tp) σ H Q := by
  obtain ⟨Y, tv, to, env, Qd, xd, l, k, t, hq, hx⟩ := mtP_lift (n := 0) (fun Y vs os j π ob p l ds xs H Q Qd k l1 l2 e1 e2 t hq => by
    obtain rfl : xs = [] := List.eq_nil_of_length_eq_zero l1
    obtain rfl : ds = [] := List.eq_nil_of_length_eq_zero l2
    exact hr Y vs os j π ob p l H Q Qd k e1 e2 t hq) h
  refine ⟨Y, tv, to, env, Qd, xd, l, k, t, fun i π e p H' q hp k' => ?_, hx⟩
  obtain ⟨ty, Y2, tv2, to2, env2, Qd2, xd2, l2, k2, t2, hq2, hx2⟩ := hq i π e p H' q hp k'
  exact ⟨ty, hq2 [] env2 [] H' t2 rfl rfl k2⟩
theorem ve_reverseP (ho : VL X W ob tp) (hbase : attributeBase ob "reverse" X.env (eval ob X.env) = eval ob X.env := by rfl) (hline : (apos.endLine == cpos.line) = true := by rfl) :
    VE X W (.Call (.Attribute ob "reverse" apos) [] [] cpos) (vMtP gReverse tp vANil) := by
  refine PE.imp (pe_bm0 PySem.F.plainAttrs_list PySem.F.slot_list_reverse PySem.F.type_list_reverse mt_reverse ho hbase hline) fun σ H Q h => mtP0_lift (fun Y vs os j π ob p l H Q Qd k e1 e2 t hq => ?_) h
  obtain ⟨F, zs, w, hp, z, r, up⟩ := k.putLP e1 e2
  exact ⟨p, zs, rfl, rfl, hp, hq _ _ _ _ t ((up zs.reverse l.reverse (by rw [List.length_reverse]; exact z) r.reverse).push (F := []) fun _ => .non)⟩
theorem ve_clearP (ho : VL X W ob tp) (hbase : attributeBase ob "clear" X.env (eval ob X.env) = eval ob X.env := by rfl) (hline : (apos.endLine == cpos.line) = true := by rfl) :
    VE X W (.Call (.Attribute ob "clear" apos) [] [] cpos) (vMtP gClear tp vANil) := by
  refine PE.imp (pe_bm0 PySem.F.plainAttrs_list PySem.F.slot_list_clear PySem.F.type_list_clear mt_clear ho hbase hline) fun σ H Q h => mtP0_lift (fun Y vs os j π ob p l H Q Qd k e1 e2 t hq => ?_) h
  obtain ⟨F, zs, w, hp, z, r, up⟩ := k.putLP e1 e2
  exact ⟨p, zs, rfl, rfl, hp, hq _ _ _ _ t ((up [] [] (Nat.zero_le _) .nil).push (F := []) fun _ => .non)⟩
end
/-! ### a list of owned things -/
def vLstO (ta : VTO) : VT := fun env Q x => ta env (fun os e => ∀ p, Q (.ll p os) e) x
theorem Ok.ownL {p : Addr} {xs : List V} {us : List O} (k : Ok K Y (xs.map some ++ vs) (us ++ os) H) (l : xs.length = us.length) (z : xs.length ≤ sizeLine) (n : Nw H H' p (.lst xs)) : Ok K Y (some (.ref p) :: vs) (.ll p us :: os) H' := by
  obtain ⟨F, w0, nd, b⟩ := k.ex
  have np : p ∉ F := fun z => w0.has p z n.n
  have nx : ∀ a, a ∈ Y.A ++ (p :: F) → a ∉ Y.A ++ F → H a = none := fun a ha q => by
    simp only [List.mem_append, List.mem_cons] at ha q
    rcases ha with z | z | z
    · exact absurd (.inl z) q
    · rw [z]; exact n.n
    · exact absurd (.inr z) q
  have w2 : OwA K (Y.A ++ (p :: F)) H' (xs.map some ++ vs) (us ++ os) F := (w0.avoid nx).mono (n.s []) (by simp) (by simp)
  obtain ⟨F1, F2, e, w3, w4⟩ := w2.split (by simpa using l)
  refine ⟨⟨(p :: F1) ++ F2, OwA.cons (OwC.ll n.a z ?_) ?_, ?_, fun a ha => ?_⟩, k.st.trans (n.s _), k.al, k.ba⟩
  · rw [e] at w3; exact w3
  · rw [e] at w4; exact w4
  · show (p :: (F1 ++ F2)).Nodup
    rw [← e]
    exact List.nodup_cons.mpr ⟨np, nd⟩
  · rcases List.mem_cons.mp (show a ∈ p :: (F1 ++ F2) from ha) with z | z
    · rw [z]; exact .inr (k.fr n.n).1
    · rw [← e] at z; exact b a z
theorem ve_lstO {es : List Expr} {n : Nat} {ta : VTO} {pos : Pos} (h : VO X W es n ta) (hn : n ≤ 1000 := by decide) : VE X W (.List es pos) (vLstO ta) := by
  refine PE.imp (pe_lstN h) fun σ H Q ⟨Y, tv, to, env, Qd, xd, l, k, t, hq, hx⟩ => ?_
  refine ⟨Y, tv, to, env, _, xd, l, k, t, fun ds e vs H' q l1 l2 k => ⟨by rw [sizeLine_eq]; omega, fun p H2 n2 => ?_⟩, hx⟩
  exact hq _ _ _ _ (q p) (k.ownL (by omega) (by rw [sizeLine_eq]; omega) n2)
/-! ### shown to a call -/
noncomputable def vShow (tp : VTL) : VT := fun env Q x => tp env (fun i π e => match rootAt e i π with
  | some p => Q (.lent p) e
  | none => False) x
theorem ve_show {e : Expr} {tp : VTL} (h : VL X W e tp) : VE X W e (vShow tp) := PE.imp h fun σ H Q ⟨Y, tv, to, env, Qd, xd, l, k, t, hq, hx⟩ =>
  ⟨Y, tv, to, env, _, xd, l, k, t, fun i π e p H' q hp k' => by
    rw [hp] at q
    refine hq _ _ _ _ q ?_
    obtain ⟨F, w, nd, b⟩ := k'.ex
    exact ⟨⟨F, OwA.cons (F := []) (.lent p) w, nd, b⟩, k'.st, k'.al, k'.ba⟩, hx⟩
mutual
/-- no list in it -/
def D.noL : D → Bool
  | .lst _ => false
  | .exc _ _ _ _ => false
  | .tup ds => noLs ds
  | .dic _ kvs => noLK kvs
  | .obj _ _ fs => noLF fs
  | _ => true
def noLs : List D → Bool
  | [] => true
  | d :: ds => d.noL && noLs ds
def noLK : List (D × D) → Bool
  | [] => true
  | (_, d) :: ds => d.noL && noLK ds
def noLF : List (Str × D) → Bool
  | [] => true
  | (_, d) :: ds => d.noL && noLF ds
end
theorem noLK_s : ∀ {es : List (D × D)}, noLK es = noLs (es.map (·.2))
  | [] => rfl
  | (_, d) :: es => by unfold noLK; rw [List.map_cons]; unfold noLs; rw [noLK_s]
theorem noLF_s : ∀ {es : List (Str × D)}, noLF es = noLs (es.map (·.2))
  | [] => rfl
  | (_, d) :: es => by unfold noLF; rw [List.map_cons]; unfold noLs; rw [noLF_s]
mutual
theorem Rp.addL {B : List Addr} (h : ∀ q ∈ B, q ∈ A ∨ ∃ xs, H q = some (.lst xs)) : ∀ {v : V} {d : D}, d.noL = true → Rp K A H v d → Rp K B H v d
  | _, _, _, .non => .non
  | _, _, _, .bl b => .bl b
  | _, _, _, .int i => .int i
  | _, _, _, .str x => .str x
  | _, _, n, .lst _ _ _ => by cases n
  | _, _, n, .tup q z t => .tup q z (RpA.addL h n t)
  | _, _, n, .dic q z m t e => .dic q z (fun y => by
      rcases h _ y with w | ⟨xs, w⟩
      · exact m w
      · rcases q with q | ⟨_, q⟩ <;> rw [w] at q <;> cases q) (RpA.addL h (noLK_s.symm.trans n) t) e
  | _, _, n, .dicT q z m t e => .dicT q z (fun y => by
      rcases h _ y with w | ⟨xs, w⟩
      · exact m w
      · rcases q with q | ⟨_, q⟩ <;> rw [w] at q <;> cases q) (RpA.addL h (noLK_s.symm.trans n) t) e
  | _, _, n, .obj q m t e => .obj q (fun y => by
      rcases h _ y with w | ⟨xs, w⟩
      · exact m w
      · rw [w] at q; cases q) (RpA.addL h (noLF_s.symm.trans n) t) e
  | _, _, _, .ref a => .ref a
  | _, _, n, .exc _ _ _ => by cases n
theorem RpA.addL {B : List Addr} (h : ∀ q ∈ B, q ∈ A ∨ ∃ xs, H q = some (.lst xs)) : ∀ {vs : List V} {ds : List D}, noLs ds = true → RpA K A H vs ds → RpA K B H vs ds
  | _, _, _, .nil => .nil
  | _ :: _, d :: ds, n, .cons q t => .cons (Rp.addL h (Bool.and_eq_true_iff.mp (show (d.noL && noLs ds) = true from n)).1 q) (RpA.addL h (Bool.and_eq_true_iff.mp (show (d.noL && noLs ds) = true from n)).2 t)
end
mutual
/-- .. nor any shared one in a cell -/
def O.noL : O → Bool
  | .sh d => d.noL
  | .ol _ ds => noLs ds
  | .od _ _ kvs => noLK kvs
  | .oo _ _ fs => noLOF fs
  | .dd _ _ kvs => noLOK kvs
  | .ll _ os => noLO os
  | _ => true
def noLO : List O → Bool
  | [] => true
  | d :: ds => d.noL && noLO ds
def noLOK : List (D × O) → Bool
  | [] => true
  | (_, d) :: ds => d.noL && noLOK ds
def noLOF : List (Str × O) → Bool
  | [] => true
  | (_, d) :: ds => d.noL && noLOF ds
end
theorem noLOK_s : ∀ {es : List (D × O)}, noLOK es = noLO (es.map (·.2))
  | [] => rfl
  | (_, d) :: es => by unfold noLOK; rw [List.map_cons]; unfold noLO; rw [noLOK_s]
theorem noLOF_s : ∀ {es : List (Str × O)}, noLOF es = noLO (es.map (·.2))
  | [] => rfl
  | (_, d) :: es => by unfold noLOF; rw [List.map_cons]; unfold noLO; rw [noLOF_s]
mutual
theorem OwC.addL {B : List Addr} (h : ∀ q ∈ B, q ∈ A ∨ ∃ xs, H q = some (.lst xs)) : ∀ {v : Option V} {o : O} {F : List Addr}, o.noL = true → OwC K A H v o F → OwC K B H v o F
  | _, _, _, _, .un v => .un v
  | _, _, _, n, .sh r => .sh (r.addL h n)
  | _, _, _, _, .lent p => .lent p
  | _, _, _, _, .src q => .src q
  | _, _, _, _, .ho q m => .ho q m
  | _, _, _, n, .ol q z t => .ol q z (t.addL h n)
  | _, _, _, n, .od q z t e => .od q z (t.addL h (noLK_s.symm.trans n)) e
  | _, _, _, n, .odT q z t e => .odT q z (t.addL h (noLK_s.symm.trans n)) e
  | _, _, _, n, .oo q t e => .oo q (OwA.addL h (noLOF_s.symm.trans n) t) e
  | _, _, _, n, .dd q z t e => .dd q z (OwA.addL h (noLOK_s.symm.trans n) t) e
  | _, _, _, n, .ddT q z t e => .ddT q z (OwA.addL h (noLOK_s.symm.trans n) t) e
  | _, _, _, n, .ll q z t => .ll q z (OwA.addL h n t)
theorem OwA.addL {B : List Addr} (h : ∀ q ∈ B, q ∈ A ∨ ∃ xs, H q = some (.lst xs)) : ∀ {vs : List (Option V)} {os : List O} {F : List Addr}, noLO os = true → OwA K A H vs os F → OwA K B H vs os F
  | _, _, _, _, .nil => .nil
  | _ :: _, o :: os, _, n, .cons q t => .cons (OwC.addL h (Bool.and_eq_true_iff.mp (show (o.noL && noLO os) = true from n)).1 q) (OwA.addL h (Bool.and_eq_true_iff.mp (show (o.noL && noLO os) = true from n)).2 t)
end
/-- cells in hand, and what of them is shown to a callee -/
inductive ShowRel (os : List O) : List O → List O → List Addr → Prop
  | nil : ShowRel os [] [] []
  | keep {u : O} {us us' : List O} {qs : List Addr} : ShowRel os us us' qs → ShowRel os (u :: us) (u :: us') qs
  | shw {q : Addr} {l : List D} {i : Nat} {o : O} {π : List PSt} {us us' : List O} {qs : List Addr} : os[i]? = some o → getP o π = some (.ol q l) → ShowRel os us us' qs → ShowRel os (.lent q :: us) (.sh (.lst l) :: us') (q :: qs)
theorem OwA.place {i : Nat} {π : List PSt} {q : Addr} {l : List D} {F : List Addr} (w : OwA K A H vs os F) (h : os[i]? = some o) (hc : getP o π = some (.ol q l)) : q ∈ F ∧ ∃ xs, H q = some (.lst xs) ∧ xs.length ≤ sizeLine ∧ RpA K A H xs l := by
  obtain ⟨x, F1, F2, F3, e1, e2, c, _⟩ := w.at_ h
  obtain ⟨y, L, G, R, e3, c1, _⟩ := c.path hc
  cases c1 with
  | @ol _ xs _ hp z r => exact ⟨by rw [e2, e3]; simp, xs, hp, z, r⟩
/-- a call that is shown lists which the caller owns; what it gives back has no shared list -/
theorem Ok.callS {xs : List (Option V)} {us us' : List O} {qs : List Addr} (l : xs.length = us.length) (k : Ok K Y (xs ++ vs) (us ++ os) H) (sr : ShowRel os us us' qs) : ∃ A F, OwA K (A ++ F) H xs us' F ∧ F.Nodup ∧ (∀ p ∈ F, p ∉ A) ∧ (∀ p ∈ A, Mut (H p)) ∧
    ∀ {ys : List (Option V)} {ws : List O} {H'}, noLO ws = true → Ok K ⟨A, F, H⟩ ys ws H' → Ok K Y (ys ++ vs) (ws ++ os) H' := by
  obtain ⟨F, w, nd, b⟩ := k.ex
  obtain ⟨F1, F2, e, w1, w2⟩ := w.split l
  subst e
  have nd' := List.nodup_append.mp nd
  have qF2 : ∀ {us us' qs}, ShowRel os us us' qs → ∀ q ∈ qs, q ∈ F2 ∧ ∃ xs, H q = some (.lst xs) := by
    intro us us' qs s
    induction s with
    | nil => intro q hq; cases hq
    | keep _ ih => exact ih
    | shw h1 h2 _ ih =>
      intro q hq
      rcases List.mem_cons.mp hq with z | z
      · obtain ⟨a, xs, c, _⟩ := w2.place h1 h2
        rw [z]
        exact ⟨a, xs, c⟩
      · exact ih q z
  refine ⟨Y.A ++ F2.filter (fun a => decide (a ∉ qs)), F1, ?_, nd'.1, fun p hp z => ?_, fun p hp => ?_, fun {ys ws H'} hn k2 => ?_⟩
  · have sub : ∀ a ∈ (Y.A ++ F2.filter (fun a => decide (a ∉ qs))) ++ F1, a ∈ Y.A ++ (F1 ++ F2) := fun a ha => by
      simp only [List.mem_append, List.mem_filter] at ha ⊢
      rcases ha with (z | z) | z
      · exact .inl z
      · exact .inr (.inr z.1)
      · exact .inr (.inl z)
    have go : ∀ {us us' qs' xs E}, ShowRel os us us' qs' → (∀ q ∈ qs', q ∈ qs) → (∀ p ∈ E, p ∈ F1) → OwA K (Y.A ++ (F1 ++ F2)) H xs us E → OwA K ((Y.A ++ F2.filter (fun a => decide (a ∉ qs))) ++ F1) H xs us' E := by
      intro us us' qs' xs E s
      induction s generalizing xs E with
      | nil => intro _ _ t; cases t; exact .nil
      | keep _ ih =>
        intro hq hE t
        cases t with
        | cons c t => exact OwA.cons (c.avoid fun a ha n => absurd (sub a ha) n) (ih hq (fun p hp => hE p (List.mem_append_right _ hp)) t)
      | @shw q l i o π us us' qs' h1 h2 _ ih =>
        intro hq hE t
        cases t with
        | cons c t =>
          cases c with
          | lent _ =>
            refine OwA.cons (F := []) (.sh ?_) (ih (fun q hq' => hq q (List.mem_cons_of_mem _ hq')) (fun p hp => hE p hp) t)
            obtain ⟨a, zs, hz, z, r⟩ := w2.place h1 h2
            refine .lst (.of hz fun y => ?_) z (r.sub sub)
            simp only [List.mem_append, List.mem_filter, decide_eq_true_eq] at y
            rcases y with (y | y) | y
            · rcases b q (List.mem_append_right _ a) with y2 | y2
              · exact k.ba q y2 y
              · exact mut_ne (k.al q y) y2
            · exact y.2 (hq q (by simp))
            · exact nd'.2.2 q y q a rfl
    exact go sr (fun q h => h) (fun p h => h) w1
  · rcases List.mem_append.mp z with z | z
    · rcases b p (List.mem_append_left _ hp) with y | y
      · exact k.ba p y z
      · exact mut_ne (k.al p z) y
    · exact nd'.2.2 p hp p (List.mem_filter.mp z).1 rfl
  · rcases List.mem_append.mp hp with z | z
    · exact k.alH p z
    · exact w2.mut p (List.mem_filter.mp z).1
  · obtain ⟨G, g, ng, bg⟩ := k2.ex
    have st2 : Stp F1 H H' := k2.st
    have new : ∀ p ∈ G, p ∈ F1 ∨ H p = none := bg
    have w3 : OwA K (Y.A ++ (F1 ++ (G ++ F2))) H vs os F2 := w2.avoid fun a ha n => by
      simp only [List.mem_append] at ha n
      rcases ha with z | z | z | z
      · exact absurd (.inl z) n
      · exact absurd (.inr (.inl z)) n
      · rcases new a z with y | y
        · exact absurd (.inr (.inl y)) n
        · exact y
      · exact absurd (.inr (.inr z)) n
    have w4 := w3.mono st2 (fun a ha => by simp [ha]) fun a ha z => nd'.2.2 a ha a z rfl
    refine ⟨⟨G ++ F2, ?_, ?_, fun p hp => ?_⟩, k.st.via st2 fun p hp => b p (List.mem_append_left _ hp), k.al, k.ba⟩
    · refine OwA.app (g.addL (fun a ha => ?_) hn) (w4.avoid fun a ha n => absurd ?_ n)
      · simp only [List.mem_append] at ha ⊢
        by_cases hq : a ∈ qs
        · obtain ⟨h1, xs, h2⟩ := qF2 sr a hq
          exact .inr ⟨xs, st2.k a _ (fun z => nd'.2.2 a z a h1 rfl) h2⟩
        · rcases ha with z | z | z
          · exact .inl (.inl (.inl z))
          · exact .inl (.inr z)
          · exact .inl (.inl (.inr (List.mem_filter.mpr ⟨z, by simpa using hq⟩)))
      · simp only [List.mem_append] at ha ⊢
        rcases ha with z | z | z
        · exact .inl z
        · exact .inr (.inr (.inl z))
        · exact .inr (.inr (.inr z))
    · refine List.nodup_append.mpr ⟨ng, nd'.2.1, fun a ha c hc e => ?_⟩
      subst e
      rcases new a ha with y | y
      · exact nd'.2.2 a y a hc rfl
      · exact w2.has a hc y
    · rcases List.mem_append.mp hp with z | z
      · rcases new p z with y | y
        · exact b p (List.mem_append_left _ y)
        · exact .inr (k.st.f p y)
      · exact b p (List.mem_append_right _ z)
end
end Hd
namespace Hd
/-! ### the value layer: makers and calls that are shown owned lists -/
section
open PySem PySem.Spec PyProof.Rows L2
variable {K : PySem.W.Frag} {W : WX} {H H' : Hp} {Y : Fx} {vs tv : List (Option V)} {os to env : List O} {v : V} {d : D} {o : O} {σ : L2.St} {X : Cx} {A : List Addr}
noncomputable def fillSh : List (Option (Nat × List PSt)) → DE → List O → (List O → Prop) → Prop
  | [], _, us, k => k us
  | _ :: _, _, [], _ => False
  | none :: r, e, u :: us, k => fillSh r e us fun us' => k (u :: us')
  | some (i, π) :: r, e, u :: us, k => match u, cellAt e i π with
    | .lent q, some (.ol p l) => p = q ∧ fillSh r e us fun us' => k (.sh (.lst l) :: us')
    | _, _ => False
theorem ShowRel.all : ∀ us : List O, ShowRel os us us []
  | [] => .nil
  | _ :: us => .keep (ShowRel.all us)
theorem ShowRel.app : ∀ {us us' ws : List O} {qs : List Addr}, ShowRel os us us' qs → ShowRel os (us ++ ws) (us' ++ ws) qs
  | _, _, ws, _, .nil => ShowRel.all ws
  | _, _, _, _, .keep s => .keep s.app
  | _, _, _, _, .shw h1 h2 s => .shw h1 h2 s.app
theorem ShowRel.len : ∀ {us us' : List O} {qs : List Addr}, ShowRel os us us' qs → us.length = us'.length
  | _, _, _, .nil => rfl
  | _, _, _, .keep s => congrArg Nat.succ s.len
  | _, _, _, .shw _ _ s => congrArg Nat.succ s.len
theorem fill_rel : ∀ {ss : List (Option (Nat × List PSt))} {us : List O} {k : List O → Prop}, fillSh ss env us k → ∃ us' qs, k us' ∧ ShowRel (to ++ env) us us' qs
  | [], us, k, h => ⟨us, [], h, ShowRel.all us⟩
  | _ :: _, [], _, h => by unfold fillSh at h; exact h.elim
  | none :: r, u :: us, k, h => by
    unfold fillSh at h
    obtain ⟨us', qs, h1, h2⟩ := fill_rel h
    exact ⟨_, qs, h1, .keep h2⟩
  | some (i, π) :: r, u :: us, k, h => by
    unfold fillSh at h
    split at h
    · rename_i q p l e
      obtain ⟨rfl, h⟩ := h
      obtain ⟨us', qs, h1, h2⟩ := fill_rel h
      obtain ⟨ob, e1, e2⟩ := cellAt_inv e
      exact ⟨_, _, h1, .shw (ix_app.trans e1) e2 h2⟩
    · exact h.elim
/-- two blocks change places -/
theorem Ok.swapB {xs ys : List (Option V)} {us ws : List O} (l1 : xs.length = us.length) (l2 : ys.length = ws.length) (k : Ok K Y (xs ++ (ys ++ vs)) (us ++ (ws ++ os)) H) : Ok K Y (ys ++ (xs ++ vs)) (ws ++ (us ++ os)) H := by
  obtain ⟨F, w, nd, b⟩ := k.ex
  obtain ⟨F1, F2, e, w1, w2⟩ := w.split l1
  obtain ⟨F3, F4, e2, w3, w4⟩ := w2.split l2
  subst e2
  subst e
  have pm : (F3 ++ (F1 ++ F4)).Perm (F1 ++ (F3 ++ F4)) := by
    rw [← List.append_assoc, ← List.append_assoc]
    exact (List.perm_append_comm).append_right _
  refine ⟨⟨F3 ++ (F1 ++ F4), (w3.app (w1.app w4)).avoid fun a ha n => absurd ?_ n, pm.nodup_iff.mpr nd, fun p hp => b p (pm.mem_iff.mp hp)⟩, k.st, k.al, k.ba⟩
  rcases List.mem_append.mp ha with z | z
  · exact List.mem_append_left _ z
  · exact List.mem_append_right _ (pm.mem_iff.mp z)
def KRel (K : PySem.W.Frag) (gW : List V → List V) (gD : List D → List D) : Prop := ∀ {A H zs es}, RpA K A H zs es → RpA K A H (gW zs) (gD es)
noncomputable def vMkS (c : Str) (m : VM) (ss : List (Option (Nat × List PSt))) (gD : List D → List D) (ta : VTO) (tk : VTA) : VT := fun env Q x => ta env (fun os e => tk e (fun es e2 => fillSh ss e2 os fun os' => ∀ p, m (.oo p c [] :: (os' ++ (gD es).map O.sh)) (fun o bk => o = .sh .non ∧ (match bk with
  | [b] => b.root = some p ∧ b.noL = true ∧ Q b e2
  | _ => False)) (fun c f d _ => d.noL = true ∧ x c f d e2)) x) x
theorem mkS_lift {c : Str} {n mk N : Nat} {m : VM} {ss : List (Option (Nat × List PSt))} {gV : List V → List V → List V} {gW : List V → List V} {gD : List D → List D} {ta : VTO} {tk : VTA} {Q : VK} (hs : ∀ x vs zs, vs.length = n → gV (x :: vs) zs = x :: (vs ++ gW zs)) (hg : KRel K gW gD) (hl : ∀ zs : List V, zs.length = mk → (gW zs).length = N)
    (h : lE K W (vMkS c m ss gD ta tk) σ H Q) : tMakeKS (He.ga K c) n mk (spV K (n + N + 1) m) gV (WE W) (lO K W n ta) (lA K W mk tk) σ H Q := by
  obtain ⟨Y, tv, to, env, Qd, xd, l, k, t, hq, hx⟩ := h
  refine ⟨Y, tv, to, env, _, xd, l, k, t, fun os e vs H1 q l1 l2 k1 => ?_, hx⟩
  refine ⟨Y, vs.map some ++ tv, os ++ to, e, _, xd, by simp [l, l1, l2], by simpa using k1, q, fun es e2 zs H2 q2 m1 m2 k2 => ⟨l1, m1, fun x dx hx0 hdx ne => ?_⟩, xOk.pushn (by simp [l1, l2]) hx⟩
  obtain ⟨os', qs, q3, sr⟩ := fill_rel (to := to) q2
  have k3 : Ok K Y (zs.map some ++ (vs.map some ++ (tv ++ σ))) (es.map O.sh ++ (os ++ (to ++ e2))) H2 := by simpa using k2
  have k4 : Ok K Y ((gW zs).map some ++ (vs.map some ++ (tv ++ σ))) ((gD es).map O.sh ++ (os ++ (to ++ e2))) H2 := k3.remap (by simp [m1, m2]) fun r => hg r
  have lg : (gW zs).length = (gD es).length := by
    have := k4.len
    have h1 := k1.len
    have h2 := k2.len
    simp at this h1 h2
    omega
  have k5 := Ok.swapB (xs := (gW zs).map some) (us := (gD es).map O.sh) (ys := vs.map some) (ws := os) (by simp [lg]) (by simp [l1, l2]) k4
  have k6 := k5.nw (.mk' (o := .own x) hdx)
  have k7 : Ok K Y (some (.ref x) :: (vs.map some ++ ((gW zs).map some ++ (tv ++ σ)))) (.oo x c [] :: (os ++ ((gD es).map O.sh ++ (to ++ e2)))) (upd (upd H2 dx (.own x)) x (.ins (He.ga K c) dx [])) :=
    k6.own (F0 := []) (.mk' (by rw [upd_ne (Ne.symm ne)]; exact hx0)) fun A F w nx => OwC.oo (F := []) (es := []) upd_same .nil rfl
  have sr2 : ShowRel (to ++ e2) (.oo x c [] :: (os ++ (gD es).map O.sh)) (.oo x c [] :: (os' ++ (gD es).map O.sh)) qs := .keep sr.app
  obtain ⟨A, F, w, nd, fa, al, up⟩ := Ok.callS (xs := (V.ref x :: (vs ++ gW zs)).map some) (us := .oo x c [] :: (os ++ (gD es).map O.sh)) (vs := tv ++ σ) (os := to ++ e2) (by simp [l1, l2, lg]) (by simpa using k7) sr2
  rw [hs _ _ _ l1]
  refine ⟨A, F, _, _, _, by simp [l1, hl zs m1], w, nd, fa, al, q3 x, fun o bk v ws H' q k2 => ?_, fun c f d bk v a ws H' q k2 ea => ?_⟩
  · obtain ⟨rfl, q⟩ := q
    match bk, q with
    | [b], ⟨q1, qn, q2⟩ =>
      have k3 := up (by show ((D.non).noL && (b.noL && true)) = true; rw [qn]; rfl) k2
      obtain ⟨_, r⟩ := k2.one
      refine ⟨r.non_inv, ?_⟩
      match ws, k2.len with
      | [w1], _ =>
        have k4 : Ok K Y (some v :: w1 :: (tv ++ σ)) (.sh .non :: b :: (to ++ e2)) H' := by simpa using k3
        have k5 := k4.pop
        obtain ⟨F', w', _⟩ := k5.ex
        cases w' with
        | cons c _ =>
          obtain ⟨rfl, _⟩ := c.root q1
          exact hq _ _ _ _ q2 k5
  · have k3 : Ok K ⟨A, F, _⟩ (some v :: []) (.sh d :: []) H' := Ok.dropn (xs := ws) (ys := bk) (vs := []) (os := []) (Nat.succ.inj k2.len) (by simpa using k2)
    have k4 := up (by show (d.noL && true) = true; rw [q.1]; rfl) k3
    exact hx _ _ _ _ _ _ _ q.2 (by simpa using k4) ea
theorem ve_mkS {e : Expr} {es : List Expr} {kws : List Keyword} {x : Str} {p pos : Pos} {k n N : Nat} {ps ks : List Str} {f : Addr} {c : Str} {m : VM} {ta : VTO} {tk : VTA} {ss : List (Option (Nat × List PSt))} {gV : List V → List V → List V} {gW : List V → List V} {gD : List D → List D} (M : Mk X.K (He.ga X.K c) f) (C : CalK X.prog X.w X.K X.mg X.base k f ps (spV X.K (n + N + 1) m) (n + 1) ks gV) (hs : ∀ x vs zs, vs.length = n → gV (x :: vs) zs = x :: (vs ++ gW zs)) (hrel : KRel X.K gW gD) (hl : ∀ zs : List V, zs.length = ks.length → (gW zs).length = N) (hr : Room (k + 1) X.A) (hg : Gl X x) (hm : X.mg x = some (.ref (He.ga X.K c))) (hp : ∀ σ, PassesAt (L2.CX X.prog X.w) X σ (WE W σ)) (ha : VO X W (e :: es) n ta) (hkw : VKw X W kws ks.length tk)
    (hall : (backToKw pos (keywordEach kws X.env)).all (·.1.isSome) = true := by rfl) (hks : (backToKw pos (keywordEach kws X.env)).filterMap (·.1) = ks := by rfl) (hdb : (x == ("__debug__" : Str)) = false := by decide)
    (he : starEach (e :: es) X.env = (false, eval e X.env) :: starEach es X.env := by rfl) (hpl : ((backTo pos (starEach (e :: es) X.env)).any (·.1) || (backToKw pos (keywordEach kws X.env)).any (·.1.isNone)) = false := by rfl) :
    VE X W (.Call (.Name x p) (e :: es) kws pos) (vMkS c m ss gD ta tk) := PE.imp (pe_mk M C hr hg hm hp ha hkw hall hks hdb he hpl) fun _ _ _ h => mkS_lift hs hrel hl h
end
end Hd
namespace Hd
/-! ### the value layer: a pure look at what is owned -/
section
open PySem PySem.Spec PyProof.Rows L2
variable {K : PySem.W.Frag} {W : WX} {H H' : Hp} {Y : Fx} {vs tv : List (Option V)} {os to env : List O} {v : V} {d : D} {o : O} {σ : L2.St} {X : Cx} {A : List Addr}
/-- a cell as a reader sees it -/
def O.seen (o : O) : O := match o.toD with
  | some d => .sh d
  | none => .un
theorem OwA.seen : ∀ {vs : List (Option V)} {os : List O} {F B : List Addr}, OwA K A H vs os F → (∀ a ∈ B, a ∈ A) → (∀ p ∈ F, p ∉ B) → OwA K B H vs (os.map O.seen) []
  | _, _, _, _, .nil, _, _ => .nil
  | _, _, _, _, .cons (o := o) c t, sub, n => by
    rw [List.map_cons]
    refine OwA.cons (F := []) (G := []) ?_ (t.seen sub fun p hp => n p (List.mem_append_right _ hp))
    unfold O.seen
    cases e : o.toD with
    | none => exact .un _
    | some d =>
      obtain ⟨v, rfl, r⟩ := c.toRp sub e fun p hp => n p (List.mem_append_left _ hp)
      exact .sh r
theorem Ok.look (k : Ok K Y vs os H) : Ok K ⟨Y.A, [], H⟩ vs (os.map O.seen) H := by
  obtain ⟨F, w, nd, b⟩ := k.ex
  refine ⟨⟨[], ?_, List.nodup_nil, by simp⟩, .refl H, k.alH, by simp⟩
  refine w.seen (fun a ha => ?_) fun p hp z => ?_
  · rw [List.append_nil] at ha
    exact List.mem_append_left _ ha
  · rw [List.append_nil] at z
    rcases b p hp with y | y
    · exact k.ba p y z
    · exact mut_ne (k.al p z) y
theorem Ok.looked {ws : List (Option V)} {us : List O} (k : Ok K Y vs os H) (k2 : Ok K ⟨Y.A, [], H⟩ ws us H') : Ok K Y vs os H' := by
  have st : Stp [] H H' := k2.st
  obtain ⟨F, w, nd, b⟩ := k.ex
  exact ⟨⟨F, w.mono st (by simp) (by simp), nd, b⟩, k.st.via st (by simp), k.al, k.ba⟩
theorem flat4_rp {H2 : Hp} {B : List Addr} (h : flat4 d = true) (r : Rp K A H v d) : Rp K B H2 v d := by
  cases r <;> first | (cases h; done) | constructor
/-- a test that only looks -/
def vPeekB (t : VTT) : VTT := fun env Q x => t (env.map O.seen) (fun b _ => Q b env) (fun c f d _ => flat4 d = true ∧ x c f d env)
def vPeek (t : VT) : VT := fun env Q x => t (env.map O.seen) (fun o _ => ∃ d, o = .sh d ∧ flat4 d = true ∧ Q (.sh d) env) (fun c f d _ => flat4 d = true ∧ x c f d env)
theorem xOk.look {xd : XD} (k : Ok K Y (tv ++ σ) (to ++ env) H) (h : xOk K W Y tv to σ xd) : xOk K W ⟨Y.A, [], H⟩ tv (to.map O.seen) σ (fun c f d _ => flat4 d = true ∧ xd c f d env) := fun c f d e v a H' ⟨q1, q2⟩ k2 ea => by
  obtain ⟨A2, r⟩ := k2.one
  exact h c f d env v a H' q2 ((k.looked k2).push (F := []) fun _ => flat4_rp q1 r) ea
theorem vb_peek {e : Expr} {t : VTT} (h : VB X W e t) : VB X W e (vPeekB t) := PT.imp h fun σ H Q ⟨Y, tv, to, env, Qd, xd, l, k, t, hq, hx⟩ =>
  ⟨⟨Y.A, [], H⟩, tv, to.map O.seen, env.map O.seen, _, _, by simp [l], by simpa using k.look, t, fun b e H' q k2 => hq b env H' q (k.looked k2), hx.look k⟩
theorem ve_peek {e : Expr} {t : VT} (h : VE X W e t) : VE X W e (vPeek t) := PE.imp h fun σ H Q ⟨Y, tv, to, env, Qd, xd, l, k, t, hq, hx⟩ =>
  ⟨⟨Y.A, [], H⟩, tv, to.map O.seen, env.map O.seen, _, _, by simp [l], by simpa using k.look, t, fun o e v H' ⟨d, eo, q1, q2⟩ k2 => by
    subst eo
    obtain ⟨A2, r⟩ := k2.one
    exact hq _ env v H' q2 ((k.looked k2).push (F := []) fun _ => flat4_rp q1 r), hx.look k⟩
end
end Hd
namespace Hd
/-! ### the value layer: what is lent changes hands at the call, not before -/
section
open PySem PySem.Spec PyProof.Rows L2
variable {K : PySem.W.Frag} {W : WX} {H H' : Hp} {Y : Fx} {vs tv : List (Option V)} {os to env : List O} {v : V} {d : D} {o : O} {σ : L2.St} {X : Cx} {A : List Addr}
def vHold (i : Nat) : VT := fun env Q _ => match env[i]? with
  | some o => (match o.root with
    | some p => Q (.lent p) env
    | none => False)
  | none => False
def swapIn : List (Option Nat) → DE → List O → (List O → DE → Prop) → Prop
  | [], e, us, k => k us e
  | _ :: _, _, [], _ => False
  | none :: r, e, u :: us, k => swapIn r e us fun us' e' => k (u :: us') e'
  | some i :: r, e, u :: us, k => match u, e[i]? with
    | .lent q, some o => o.root = some q ∧ swapIn r (e.set i (.lent q)) us fun us' e' => k (o :: us') e'
    | _, _ => False
theorem swapIn_rel (l : tv.length = to.length) : ∀ {ss : List (Option Nat)} {xs zs : List (Option V)} {us ws : List O} {env : DE} {k : List O → DE → Prop}, zs.length = ws.length → xs.length = us.length → Ok K Y (zs ++ (xs ++ (tv ++ σ))) (ws ++ (us ++ (to ++ env))) H → swapIn ss env us k →
    ∃ us' e', k us' e' ∧ us'.length = us.length ∧ Ok K Y (zs ++ (xs ++ (tv ++ σ))) (ws ++ (us' ++ (to ++ e'))) H
  | [], xs, zs, us, ws, env, k, lz, lx, q, h => ⟨us, env, h, rfl, q⟩
  | _ :: _, _, _, [], _, _, _, _, _, _, h => by unfold swapIn at h; exact h.elim
  | _ :: _, [], _, _ :: _, _, _, _, _, lx, _, _ => by cases lx
  | none :: r, x :: xs, zs, u :: us, ws, env, k, lz, lx, q, h => by
    unfold swapIn at h
    have q2 : Ok K Y ((zs ++ [x]) ++ (xs ++ (tv ++ σ))) ((ws ++ [u]) ++ (us ++ (to ++ env))) H := by simpa using q
    obtain ⟨us', e', h1, h2, h3⟩ := swapIn_rel l (by simp [lz]) (Nat.succ.inj lx) q2 h
    exact ⟨_, e', h1, by simp [h2], by simpa using h3⟩
  | some i :: r, x :: xs, zs, u :: us, ws, env, k, lz, lx, q, h => by
    unfold swapIn at h
    split at h
    · rename_i p o ei
      obtain ⟨h0, h⟩ := h
      have lx' := Nat.succ.inj lx
      have q1 : Ok K Y (x :: (zs ++ (xs ++ (tv ++ σ)))) (.lent p :: (ws ++ (us ++ (to ++ env)))) H := Ok.rot (xs := zs) (ys := ws) lz (by simpa using q)
      have ex : x = some (.ref p) := by
        obtain ⟨F, w, _⟩ := q1.ex
        cases w with
        | cons c _ => cases c; rfl
      have q2 := q1.pop
      have lw : ws.length + (us.length + to.length) = (zs ++ (xs ++ tv)).length := by simp [lz, lx', l]
      have ei2 : (ws ++ (us ++ (to ++ env)))[ws.length + (us.length + to.length) + i]? = some o := by
        have : ws ++ (us ++ (to ++ env)) = (ws ++ (us ++ to)) ++ env := by simp
        rw [this, show ws.length + (us.length + to.length) + i = (ws ++ (us ++ to)).length + i from by simp, ix_app]
        exact ei
      obtain ⟨_, q3⟩ := q2.lend ei2 h0
      have es : (ws ++ (us ++ (to ++ env))).set (ws.length + (us.length + to.length) + i) (.lent p) = ws ++ (us ++ (to ++ env.set i (.lent p))) := by
        rw [List.set_append_right _ _ (by omega), List.set_append_right _ _ (by omega), List.set_append_right _ _ (by omega)]
        congr 4
        omega
      rw [es] at q3
      have q4 : Ok K Y ((zs ++ [some (.ref p)]) ++ (xs ++ (tv ++ σ))) ((ws ++ [o]) ++ (us ++ (to ++ env.set i (.lent p)))) H := by
        have := Ok.unrot (xs := zs) (ys := ws) lz q3
        simpa using this
      obtain ⟨us', e', h1, h2, h3⟩ := swapIn_rel l (by simp [lz]) lx' q4 h
      subst ex
      exact ⟨_, e', h1, by simp [h2], by simpa using h3⟩
    · exact h.elim
def vCallL (m : VM) (ss : List (Option Nat)) (bi : List Nat) (ta : VTO) : VT := fun env Q x => ta env (fun os e => swapIn ss e os fun os' e1 => m os' (fun o bk => putBack bi bk e1 fun e' => Q o e') (fun c f d bk => putBack bi bk e1 fun e' => x c f d e')) x
theorem callL_lift {n : Nat} {m : VM} {ta : VTO} {ss : List (Option Nat)} {bi : List Nat} {Q : VK} (h : lE K W (vCallL m ss bi ta) σ H Q) : tCallS (spV K n m) (WE W) (lO K W n ta) σ H Q := by
  obtain ⟨Y, tv, to, env, Qd, xd, l, k, t, hq, hx⟩ := h
  refine ⟨Y, tv, to, env, _, xd, l, k, t, fun ds0 e0 vs H1 q0 l1 l20 k10 => ?_, hx⟩
  obtain ⟨ds, e, q, l2', k1'⟩ := swapIn_rel (zs := []) (ws := []) (xs := vs.map some) l rfl (by simp [l1, l20]) (by simpa using k10) q0
  have l2 : ds.length = n := l2'.trans l20
  have k1 : Ok K Y (vs.map some ++ (tv ++ σ)) (ds ++ (to ++ e)) H1 := by simpa using k1'
  obtain ⟨A, F, w, nd, fa, al, up⟩ := Ok.call (xs := vs.map some) (us := ds) (by simp [l1, l2]) k1
  refine ⟨A, F, _, _, _, l1, w, nd, fa, al, q, fun o bk v ws H' q k2 => ?_, fun c f d bk v a ws H' q k2 ea => ?_⟩
  · have lw : ws.length = bk.length := Nat.succ.inj k2.len
    have k3 := up k2
    have k4 : Ok K Y (ws ++ ((some v :: tv) ++ σ)) (bk ++ ((o :: to) ++ e)) H' := by
      have := Ok.unrot (xs := ws) (ys := bk) (x := some v) (o := o) (vs := tv ++ σ) (os := to ++ e) lw (by simpa using k3)
      simpa using this
    obtain ⟨e2, q2, k5⟩ := Ok.putBack (by simp [l]) lw k4 q
    exact hq _ _ _ _ q2 (by simpa using k5)
  · have lw : ws.length = bk.length := Nat.succ.inj k2.len
    have k3 := up k2
    have k4 : Ok K Y (ws ++ ((some v :: tv) ++ σ)) (bk ++ ((.sh d :: to) ++ e)) H' := by
      have := Ok.unrot (xs := ws) (ys := bk) (x := some v) (o := .sh d) (vs := tv ++ σ) (os := to ++ e) lw (by simpa using k3)
      simpa using this
    obtain ⟨e2, q2, k5⟩ := Ok.putBack (by simp [l]) lw k4 q
    exact hx _ _ _ _ _ _ _ q2 (by simpa using k5) ea
theorem ve_callL {e : Expr} {es : List Expr} {x : Str} {p pos : Pos} {k n : Nat} {ps : List Str} {f : Addr} {m : VM} {ta : VTO} {ss : List (Option Nat)} {bi : List Nat} (C : Cal X.prog X.w X.K X.mg X.base k f ps (spV X.K n m)) (hr : Room k X.A) (hg : Gl X x) (hm : X.mg x = some (.ref f)) (hp : ∀ σ, PassesAt (L2.CX X.prog X.w) X σ (WE W σ)) (ha : VO X W (e :: es) n ta)
    (hdb : (x == ("__debug__" : Str)) = false := by decide) (he : starEach (e :: es) X.env = (false, eval e X.env) :: starEach es X.env := by rfl) (hpl : (backTo pos (starEach es X.env)).any (·.1) = false := by rfl) :
    VE X W (.Call (.Name x p) (e :: es) [] pos) (vCallL m ss bi ta) := PE.imp (pe_cal C hr hg hm hp ha hdb he hpl) fun _ _ _ h => callL_lift h
theorem ve_hold (i : Nat) {x : Str} {pos : Pos} (hN : X.N[i]? = some x := by rfl) (hv : Vis X.env.scope x := by first | exact Or.inl rfl | exact Or.inr (Or.inl rfl) | exact Or.inr (Or.inr rfl)) (hd : (x == ("__debug__" : Str)) = false := by decide) (hcd : (x == ("__classdict__" : Str)) = false := by decide) :
    VE X W (.Name x pos) (vHold i) := PE.imp (ve_show (vl_name i hN hv hd hcd)) fun σ H Q ⟨Y, tv, to, env, Qd, xd, l, k, t, hq, hx⟩ => by
  refine ⟨Y, tv, to, env, Qd, xd, l, k, ?_, hq, hx⟩
  unfold vHold at t
  unfold vShow vlName rootAt cellAt
  cases e : env[i]? with
  | none => rw [e] at t; exact t.elim
  | some o =>
    rw [e] at t
    cases e2 : o.root with
    | none => simp only [e2] at t
    | some p =>
      simp only [e2] at t
      simp only [e, Option.bind_some, getP, e2]
      exact ⟨rfl, t⟩
end
end Hd
namespace Hd
/-! ### the value layer: stores by targets, dict(..), == of dicts -/
section
open PySem PySem.Spec PyProof.Rows L2
variable {K : PySem.W.Frag} {W : WX} {H H' : Hp} {Y : Fx} {vs tv : List (Option V)} {os to env : List O} {v : V} {d : D} {o : O} {σ : L2.St} {X : Cx} {A : List Addr}
/-- xs[k] = .., xs owned in slot i -/
def vgLPut (i : Nat) (tk : VT) : VTG := fun o env Q x => o.fz fun dv => match env[i]? with
  | some (.ol _ _) => tk env (fun o2 e2 => o2.fz fun dk => match e2[i]? with
    | some (.ol p l) => (match dk with
      | .int z => ∃ j, L2.ixN l.length z = some j ∧ Q (e2.set i (.ol p (l.set j dv)))
      | _ => False)
    | _ => False) x
  | _ => False
theorem vg_lput {i : Nat} {oe ie : Expr} {tk : VT} {pos : Pos} (ho : PE X oe (tVar i)) (hk : VE X W ie tk)
    (ha : ∀ v, assign (.Subscript oe ie pos) X.env v = (do
      let ov ← holding [v] (eval oe X.env)
      let iv ← holding [v, ov] (eval ie X.env)
      standAt pos
      holding [v, ov, iv] (setItem ov iv v)
      release [v, ov, iv] []) := by intro _; rfl) : VG X W (.Subscript oe ie pos) [] (vgLPut i tk) := by
  refine PG.imp (pg_sub ho hk set_list ha) fun v σ H Q ⟨Y, tv, to, env, o, Qd, xd, l, k, t, hq, hx⟩ => ?_
  obtain ⟨dv, t, k⟩ := k.fz t
  split at t
  · rename_i p0 l0 e0
    have s0 : σ[i]? = some (some (.ref p0)) := by
      have := (k.pop.olAt (i := to.length + i) (ix_app.trans e0)).1
      rw [← l, ix_app] at this
      exact this
    refine ⟨_, s0, ?_⟩
    refine ⟨Y, some v :: tv, .sh dv :: to, env, _, xd, by simp [l], k, t, fun o2 e2 y H2 q2 k2 => ?_, (hx σ).push⟩
    obtain ⟨dk, q2, k2⟩ := k2.fz q2
    split at q2
    · rename_i p l' e3
      split at q2
      · rename_i z
        obtain ⟨j, hj, q2⟩ := q2
        have s1 : σ[i]? = some (some (.ref p)) := by
          have k2' : Ok X.K Y (tv ++ σ) (to ++ e2) H2 := k2.pop.pop
          have := (k2'.olAt (i := to.length + i) (ix_app.trans e3)).1
          rw [← l, ix_app] at this
          exact this
        have ep : p = p0 := by
          rw [s0] at s1
          injection s1 with s1
          injection s1 with s1
          injection s1 with s1
          exact s1.symm
        subst ep
        obtain ⟨F, xs, w, _, hp, hz, r, up⟩ := k2.putL (i := to.length + i + 2) (p := p) (ds := l') (by
          show (to ++ e2)[to.length + i]? = _
          rw [ix_app]; exact e3)
        cases w with
        | cons cy w =>
          cases cy with
          | sh ry =>
            cases w with
            | cons cv w =>
              cases cv with
              | sh rv =>
                have ey := ry.int_inv
                subst ey
                refine ⟨p, xs, z, j, rfl, rfl, hp, by rw [r.len]; exact hj, ?_⟩
                have k3 := up (xs.set j v) (l'.set j dv) (by simpa using hz) (r.set j rv)
                have eset : (O.sh (.int z) :: O.sh dv :: (to ++ e2)).set (to.length + i + 2) (.ol p (l'.set j dv)) = O.sh (.int z) :: O.sh dv :: (to ++ e2.set i (.ol p (l'.set j dv))) := by
                  show O.sh (.int z) :: O.sh dv :: (to ++ e2).set (to.length + i) _ = _
                  rw [set_app]
                have k4 : Ok X.K Y (some (V.int z) :: some v :: (tv ++ σ)) (O.sh (.int z) :: O.sh dv :: (to ++ e2.set i (.ol p (l'.set j dv)))) (upd H2 p (.lst (xs.set j v))) := by
                  rw [← eset]; exact k3
                exact hq _ _ _ q2 ⟨rfl, fun _ _ => rfl⟩ k4.pop.pop
      · exact q2.elim
    · exact q2.elim
  · exact t.elim
/-- d[k] = .., d owned in slot i -/
noncomputable def vgDPut (i : Nat) (tk : VT) : VTG := fun o env Q x => o.fz fun dv => match env[i]? with
  | some (.od _ _ _) => tk env (fun o2 e2 => o2.fz fun dk => match e2[i]? with
    | some (.od p t es) => keyOk dk = true ∧ tupKey dk = t ∧ es.length < sizeLine ∧ Q (e2.set i (.od p t (dPut es dk dv)))
    | _ => False) x
  | _ => False
theorem vg_dput {i : Nat} {oe ie : Expr} {tk : VT} {pos : Pos} (hu : X.A.units + 1 < cLine) (ho : PE X oe (tVar i)) (hk : VE X W ie tk)
    (ha : ∀ v, assign (.Subscript oe ie pos) X.env v = (do
      let ov ← holding [v] (eval oe X.env)
      let iv ← holding [v, ov] (eval ie X.env)
      standAt pos
      holding [v, ov, iv] (setItem ov iv v)
      release [v, ov, iv] []) := by intro _; rfl) : VG X W (.Subscript oe ie pos) [] (vgDPut i tk) := by
  refine PG.imp (pg_sub ho hk (set_dict hu) ha) fun v σ H Q ⟨Y, tv, to, env, o, Qd, xd, l, k, t, hq, hx⟩ => ?_
  obtain ⟨dv, t, k⟩ := k.fz t
  split at t
  · rename_i p0 t0 es0 e0
    have s0 : σ[i]? = some (some (.ref p0)) := by
      have := k.pop.odAt (i := to.length + i) (ix_app.trans e0)
      rw [← l, ix_app] at this
      exact this
    refine ⟨_, s0, ?_⟩
    refine ⟨Y, some v :: tv, .sh dv :: to, env, _, xd, by simp [l], k, t, fun o2 e2 y H2 q2 k2 => ?_, (hx σ).push⟩
    obtain ⟨dk, q2, k2⟩ := k2.fz q2
    split at q2
    · rename_i p t es e3
      obtain ⟨c1, c2, c3, c4⟩ := q2
      have s1 : σ[i]? = some (some (.ref p)) := by
        have k2' : Ok X.K Y (tv ++ σ) (to ++ e2) H2 := k2.pop.pop
        have := k2'.odAt (i := to.length + i) (ix_app.trans e3)
        rw [← l, ix_app] at this
        exact this
      have ep : p = p0 := by
        rw [s0] at s1
        injection s1 with s1
        injection s1 with s1
        injection s1 with s1
        exact s1.symm
      subst ep
      obtain ⟨F, w, cc, _, up⟩ := k2.putG (i := to.length + i + 2) (c := .od p t es) (p := p) (u := .own 0) (by
        show (to ++ e2)[to.length + i]? = _
        rw [ix_app]; exact e3) od_owc
      cases w with
      | cons cy w =>
        cases cy with
        | sh ry =>
          cases w with
          | cons cv w =>
            cases cv with
            | sh rv =>
              have fin : ∀ {u : HO}, Ok X.K Y (some y :: some v :: (tv ++ σ)) (.sh dk :: .sh dv :: (to ++ e2.set i (.od p t (dPut es dk dv)))) (upd H2 p u) → Q σ (upd H2 p u) := fun {u} k3 => hq _ _ _ c4 ⟨rfl, fun _ _ => rfl⟩ k3.pop.pop
              have eset : (O.sh dk :: O.sh dv :: (to ++ e2)).set (to.length + i + 2) (.od p t (dPut es dk dv)) = O.sh dk :: O.sh dv :: (to ++ e2.set i (.od p t (dPut es dk dv))) := by
                show O.sh dk :: O.sh dv :: (to ++ e2).set (to.length + i) _ = _
                rw [set_app]
              cases cc with
              | @od _ kvs _ hp z ra ek =>
                rcases key_of c1 ry with ⟨_, q1, rfl, rfl⟩ | ⟨h1, _⟩
                · refine ⟨p, _, rfl, DPut.k hp (by have := congrArg List.length ek; simp at this; omega), fin ?_⟩
                  rw [← eset]
                  refine up _ _ fun A u1 u2 => ?_
                  obtain ⟨g1, g2⟩ := dput_rel keyD_inj q1 rv ra ek
                  exact .od upd_same (Nat.le_trans (putK_len _ _ _) (by have := congrArg List.length ek; simp at this; omega)) (u2 g1) g2
                · rw [h1] at c2; cases c2
              | @odT _ kvs _ hp z ra ek =>
                rcases key_of c1 ry with ⟨h1, _⟩ | ⟨_, b, qs, rfl, hb, rfl⟩
                · rw [h1] at c2; cases c2
                · refine ⟨p, _, rfl, DPut.t hp hb (by have := congrArg List.length ek; simp at this; omega), fin ?_⟩
                  rw [← eset]
                  refine up _ _ fun A u1 u2 => ?_
                  obtain ⟨g1, g2⟩ := dput_rel keysD_inj qs rv ra ek
                  exact .odT upd_same (Nat.le_trans (putK_len _ _ _) (by have := congrArg List.length ek; simp at this; omega)) (u2 g1) g2
    · exact q2.elim
  · exact t.elim
/-! ### dict(d), dict([(k, v), ..]) -/
theorem RpA.prs : ∀ {ps : List (D × D)} {xs : List V}, (∀ q ∈ ps, keyOk q.1 = true ∧ tupKey q.1 = false) → RpA K A H xs (ps.map fun q => D.tup [q.1, q.2]) →
    ∃ (as : List Addr) (ks : List Key) (vs : List V), xs = as.map V.ref ∧ Paired (fun p kv => SqT K H p [kV kv.1, kv.2]) as (ks.zip vs) ∧ ps.map (·.1) = ks.map keyD ∧ vs.length = ks.length ∧ RpA K A H vs (ps.map (·.2))
  | [], xs, _, r => by
    cases r
    exact ⟨[], [], [], rfl, .nil, rfl, rfl, .nil⟩
  | p :: ps, xs, h, r => by
    rw [List.map_cons] at r
    cases r with
    | cons r1 rt =>
      obtain ⟨as, ks, vs, e1, pr, e2, lv, ra⟩ := RpA.prs (fun q hq => h q (List.mem_cons_of_mem _ hq)) rt
      subst e1
      cases r1 with
      | @tup a ys _ ht hz rr =>
        cases rr with
        | cons rk rr =>
          cases rr with
          | cons rv rr =>
            cases rr
            rcases key_of (h p List.mem_cons_self).1 rk with ⟨_, q0, e0, ek⟩ | ⟨h1, _⟩
            · subst e0
              exact ⟨a :: as, q0 :: ks, _ :: vs, rfl, .cons ht.sq pr, by rw [List.map_cons, List.map_cons, ek, e2], by simp [lv], .cons rv ra⟩
            · rw [(h p List.mem_cons_self).2] at h1; cases h1
noncomputable def gDict : GC := fun ds Q => match ds with
  | [.dic t kvs] => t = false ∧ ∀ p, Q (.od p false kvs)
  | [.lst xs] => ∃ ps : List (D × D), xs = ps.map (fun q => D.tup [q.1, q.2]) ∧ (∀ q ∈ ps, keyOk q.1 = true ∧ tupKey q.1 = false) ∧ ∀ p, Q (.od p false (dMerge ps))
  | _ => False
theorem call_dictD : CallR X (.type "dict") (fun xs H Q => ∃ (a : Addr) (kvs : List (Key × V)), xs = [.ref a] ∧ Rd H a (.dK kvs) ∧ ∀ p, H p = none → Q (.ref p) (upd H p (.dK kvs))) := by
  intro pins s σ H xs us Q I r ⟨a, kvs, e, hr, q⟩
  subst e
  obtain ⟨u, rfl, rx⟩ := vals1 r
  obtain rfl : u = Value.ref a := rx
  exact d_copyOf I hr fun p s' hp I' => ⟨.ref p, _, I', rfl, q p hp⟩
theorem Ok.ownF {p : Addr} {u : HO} {F : List Addr} (k : Ok K Y vs os H) (w0 : OwA K (Y.A ++ F) H vs os F) (nd : F.Nodup) (b : ∀ p ∈ F, p ∈ Y.B ∨ Y.H0 p = none) (n : Nw H H' p u)
    (hc : ∀ A, (∀ a, a ∈ A → a ∉ Y.A ++ F → H a = none) → OwC K A H' (some (.ref p)) o [p]) : Ok K Y (some (.ref p) :: vs) (o :: os) H' := by
  have k2 := k.nw n
  have np : p ∉ F := fun z => w0.has p z n.n
  have nx : ∀ a, a ∈ Y.A ++ ([p] ++ F) → a ∉ Y.A ++ F → H a = none := fun a ha q => by
    simp only [List.mem_append] at ha q
    rcases ha with z | z | z
    · exact absurd (.inl z) q
    · have e : a = p := by simpa using z
      rw [e]; exact n.n
    · exact absurd (.inr z) q
  have w2 : OwA K (Y.A ++ ([p] ++ F)) H' vs os F := (w0.avoid nx).mono (n.s []) (by simp) (by simp)
  refine ⟨⟨[p] ++ F, OwA.cons (hc _ nx) w2, ?_, fun a ha => ?_⟩, k2.st, k2.al, k2.ba⟩
  · exact List.nodup_cons.mpr ⟨np, nd⟩
  · rcases List.mem_append.mp ha with z | z
    · have e : a = p := by simpa using z
      rw [e]; exact .inr (k.fr n.n).1
    · exact b a z
theorem c_dict (hc : X.calm = true) : CallR X (.type "dict") (rC X.K gDict) := rC1 (CallR.or call_dictD (call_dictP hc)) (fun ds Q h => by
    unfold gDict at h
    split at h <;> first | exact ⟨_, rfl⟩ | exact h.elim) fun x d H Q Y vs os Qd k t hq => by
  cases d <;> first | exact t.elim | skip
  · -- a list
    obtain ⟨ps, e, hk, t⟩ := t
    subst e
    obtain ⟨F, w, nd, b⟩ := k.ex
    have w' := w
    cases w with
    | cons c w =>
      cases c with
      | sh r =>
        cases r with
        | @lst a xs _ hl hz ra =>
          obtain ⟨as, ks, zs, e1, pr, e2, lv, rz⟩ := ra.prs hk
          subst e1
          refine .inr ⟨a, as, ks.zip zs, rfl, hl.sq, pr, fun p hp => hq _ _ _ (t p) ?_⟩
          have n : Nw H (upd H p (.dK (mergeK [] (ks.zip zs)))) p (.dK (mergeK [] (ks.zip zs))) := .mk' hp
          refine Ok.drop1 (k.ownF w' nd b n fun A nx => ?_)
          obtain ⟨h1, h2, h3⟩ := merge_rel (kvs := []) (es := []) e2 lv rz .nil rfl
          refine .od upd_same (Nat.le_trans h3 ?_) ((h1.avoid nx).mono (n.s _)) h2
          have := congrArg List.length e2
          have l2 := ra.len
          simp at this l2 hz ⊢
          omega
  · obtain ⟨rfl, t⟩ := t
    obtain ⟨F, w, nd, b⟩ := k.ex
    have w' := w
    cases w with
    | cons c w =>
      cases c with
      | sh r =>
        cases r with
        | @dic a kvs _ hr hz hA ra ek =>
          refine .inl ⟨a, kvs, rfl, hr, fun p hp => hq _ _ _ (t p) ?_⟩
          have n : Nw H (upd H p (.dK kvs)) p (.dK kvs) := .mk' hp
          exact Ok.drop1 (k.ownF w' nd b n fun A nx => .od upd_same hz ((ra.avoid nx).mono (n.s _)) ek)
/-! ### == of dicts -/
noncomputable def dEq (es fs : List (D × D)) : Bool := (es.length == fs.length) && es.all fun p => match dGet fs p.1 with
  | some v => eqD p.2 v
  | none => false
noncomputable def gEqDc (neg : Bool) : G2 := fun a b Q => match a, b with
  | .dic false es, .dic false fs => es.all (fun p => lay p.2) = true ∧ fs.all (fun p => lay p.2) = true ∧ Q (.sh (.bl (neg ^^ dEq es fs)))
  | _, _ => False
theorem hits_rp {A' : Around} {s : Shared} {pins : List (Addr × Obj)} (I : Inv X pins σ H s) (hu : A'.units + 64 < cLine) {kvs : List (Key × V)} {vb : List (Key × Value)} {fs : List (D × D)} (rb : KV kvs vb)
    (rB : RpA X.K A H (kvs.map (·.2)) (fs.map (·.2))) (eB : fs.map (·.1) = kvs.map fun p => keyD p.1) (lB : fs.all (fun p => lay p.2) = true) {ks : List (Key × V)} {va : List (Key × Value)} (ra : KV ks va) :
    ∀ {es : List (D × D)}, RpA X.K A H (ks.map (·.2)) (es.map (·.2)) → es.map (·.1) = ks.map (fun p => keyD p.1) → es.all (fun p => lay p.2) = true →
      PySem.W.KeqHits A' s vb va (es.all fun p => match dGet fs p.1 with
        | some v => eqD p.2 v
        | none => false) := by
  unfold KV at ra
  induction ra with
  | nil =>
    intro es r e _
    cases es with
    | nil => exact .nil
    | cons _ _ => cases e
  | @cons p q ps qs h t ih =>
    intro es r e la
    cases es with
    | nil => cases e
    | cons x es =>
      obtain ⟨h1, h2⟩ := h
      obtain ⟨k, v⟩ := q
      have h1' : p.1 = k := h1
      simp only [List.map_cons] at r e
      injection e with e1 e2
      simp only [List.all_cons, Bool.and_eq_true] at la
      cases r with
      | cons r1 rt =>
        have := ih rt e2 la.2
        rw [List.all_cons, e1, h1']
        rcases dget_rel (f := keyD) keyD_inj k rB eB with ⟨c1, c2⟩ | ⟨dy, y, c1, c2, c3⟩
        · rw [c1]
          exact .miss (RelO.none_of (by rw [← c2]; exact rb.val k))
        · rw [c1]
          have rr : RelO (some y) (valueAt vb k) := by rw [← c2]; exact rb.val k
          obtain ⟨uy, hy, ry⟩ := rr.some_of
          refine .hit hy ?_ this
          have ly : lay dy = true := by
            have hm : (fs.find? fun p => decide (p.1 = keyD k)).map (·.2) = some dy := c1
            obtain ⟨z, hz, ez⟩ := Option.map_eq_some_iff.mp hm
            rw [← ez]
            exact List.all_eq_true.mp lB z (List.mem_of_find?_eq_some hz)
          have l1 := la.1
          unfold lay at l1 ly
          rw [Bool.and_eq_true] at l1 ly
          obtain ⟨as, q1⟩ := Dp.reads I _ _ _ (r1.dp l1.1) h2
          obtain ⟨bs, q2⟩ := Dp.reads I _ _ _ (c3.dp ly.1) ry
          exact SeqAt.eqAt_reads _ _ _ _ _ _ _ _ q1 q2 (SeqAt.canLay_of_shaped l1.2) (SeqAt.canLay_of_shaped ly.2) (SeqAt.room_of_shaped l1.2 hu)
theorem two_dic {x y : V} {es fs : List (D × D)} {Y : Fx} (k : Ok K Y (some y :: some x :: vs) (.sh (.dic false fs) :: .sh (.dic false es) :: os) H) : ∃ (A : List Addr) (a b : Addr) (ks ls : List (Key × V)), x = .ref a ∧ y = .ref b ∧ Rd H a (.dK ks) ∧ Rd H b (.dK ls) ∧
    RpA K A H (ks.map (·.2)) (es.map (·.2)) ∧ es.map (·.1) = ks.map (fun p => keyD p.1) ∧ RpA K A H (ls.map (·.2)) (fs.map (·.2)) ∧ fs.map (·.1) = ls.map (fun p => keyD p.1) := by
  obtain ⟨A, r1, r2⟩ := k.two
  cases r1 with
  | dic h1 z1 a1 ra1 e1 =>
    cases r2 with
    | dic h2 z2 a2 ra2 e2 => exact ⟨A, _, _, _, _, rfl, rfl, h1, h2, ra1, e1, ra2, e2⟩
theorem o_eqDc (hu : X.A.units + 65 < cLine) : OpR X (compareOp .Eq) (rV X.K (gEqDc false)) := by
  intro pins s σ H x y v u Q I rx ry ⟨Y, vs, os, d1, d2, Qd, k, t, hq⟩
  unfold gEqDc at t
  split at t
  · rename_i es fs
    obtain ⟨t1, t2, t3⟩ := t
    obtain ⟨A, a, b, ks, ls, rfl, rfl, h1, h2, ra1, e1, ra2, e2⟩ := two_dic k
    obtain rfl : v = Value.ref a := rx
    obtain rfl : u = Value.ref b := ry
    obtain ⟨_, ya, va, ra, da⟩ := dk_rd I.hok h1
    obtain ⟨_, yb, vb, rb, db⟩ := dk_rd I.hok h2
    have hl : va.length = es.length := by rw [← ra.length]; have := congrArg List.length e1; simp at this; omega
    have hl2 : vb.length = fs.length := by rw [← rb.length]; have := congrArg List.length e2; simp at this; omega
    refine PySem.W.keq_eq (knd := mixKind X.prog X.w) ya yb da db (by omega) (fun _ => hits_rp I (show X.A.in1.units + 64 < cLine by show X.A.units + 1 + 64 < cLine; omega) rb ra2 e2 t2 ra ra1 e1 t1) ?_
    refine ⟨.bl (dEq es fs), H, I, ?_, hq _ _ _ t3 (by
      obtain ⟨_, _, _, up⟩ := k.two'
      simpa using up (.bl _))⟩
    show Value.bool _ = Value.bool _
    rw [hl, hl2]; rfl
  · exact t.elim
theorem o_neDc (hu : X.A.units + 65 < cLine) : OpR X (compareOp .NotEq) (rV X.K (gEqDc true)) := by
  intro pins s σ H x y v u Q I rx ry ⟨Y, vs, os, d1, d2, Qd, k, t, hq⟩
  unfold gEqDc at t
  split at t
  · rename_i es fs
    obtain ⟨t1, t2, t3⟩ := t
    obtain ⟨A, a, b, ks, ls, rfl, rfl, h1, h2, ra1, e1, ra2, e2⟩ := two_dic k
    obtain rfl : v = Value.ref a := rx
    obtain rfl : u = Value.ref b := ry
    obtain ⟨_, ya, va, ra, da⟩ := dk_rd I.hok h1
    obtain ⟨_, yb, vb, rb, db⟩ := dk_rd I.hok h2
    have hl : va.length = es.length := by rw [← ra.length]; have := congrArg List.length e1; simp at this; omega
    have hl2 : vb.length = fs.length := by rw [← rb.length]; have := congrArg List.length e2; simp at this; omega
    refine PySem.W.keq_ne (knd := mixKind X.prog X.w) ya yb da db (by omega) (fun _ => hits_rp I (show X.A.in1.units + 64 < cLine by show X.A.units + 1 + 64 < cLine; omega) rb ra2 e2 t2 ra ra1 e1 t1) ?_
    refine ⟨.bl (!dEq es fs), H, I, ?_, hq _ _ _ t3 (by
      obtain ⟨_, _, _, up⟩ := k.two'
      simpa using up (.bl _))⟩
    show Value.bool _ = Value.bool _
    rw [hl, hl2]; rfl
  · exact t.elim
end
end Hd
namespace Hd
/-! ### the value layer: ==, != by an own __eq__, len and str of own things -/
section
open PySem PySem.Spec PyProof.Rows L2
variable {prog : Program} {w : World} {A : Around} {E : Value → Shared → Prop} {s : Shared} {K : PySem.W.Frag} {x C L f : Addr} {h₀ : Heap} {m : Str → Option Value} {ox : Obj} {od : Option Obj} {b : Value}
theorem ifBound_objNe {M : Model} {args : List Value} {Q : Option Value → Shared → Prop} (X : K.In s.heap) (I : PySem.W.InstAt s.heap x ox C od) (hs : PySem.W.findIn K (.ref C) "__ne__" = some (some (.builtin "object.__ne__")))
    (h : wpAny M A (call (.builtin "object.__ne__") (.ref x :: args)) (fun v => Q (some v)) E s) : wpAny M A (callSpecialIfBound? (.ref x) "__ne__" args) Q E s := by
  simp only [callSpecialIfBound?, bindSpecialIfBound?]
  refine wpAny_holding (wpAny_bind (wpAny_bind (wpAny_bind (I.type.here ((PySem.W.looks_findIn X hs).here ?_)))))
  refine wpAny_bind (wpAny_askSetting (wpAny_ite ?_))
  have fin : wpAny M A (call (.builtin "object.__ne__") ([.ref x] ++ args) >>= fun v => pure (some v)) Q E s := wpAny_bind (wpAny_mono h (fun v s' h' => wpAny_pure h') fun _ _ h' => h')
  split
  · exact wpAny_bind (wpAny_of_eq (F.cmp_object.ne.bind _) (wpAny_pure (by exact fin)))
  · exact wpAny_tryCatch (wpAny_bind (wpAny_of_eq (F.cmp_object.ne.bind _) (wpAny_pure (by exact fin))))
theorem entry_ne {M : Model} {Q : Fin → Shared → Prop} (hu : A.units < cLine) (X : K.In s.heap) (I : PySem.W.InstAt s.heap x ox C od) (he : PySem.W.findIn K (.ref C) "__eq__" = some (some (.ref f))) (hf : PySem.W.isFn K (.ref f) = true)
    (h : wpAny M A (call (.ref f) [.ref x, b]) (fun v s' => ∃ r, v = .bool r ∧ Q (.done (.ret (.bool (!r)))) s') E s) : wpAny M A (Builtin.«object.__ne__» ⟨[.ref x, b], []⟩) Q E s := by
  unfold Builtin.«object.__ne__»
  repeat (first
    | with_reducible refine wpAny_cRoomFor hu ?_
    | (refine wpAny_bind (m := callSpecialIfBound? (.ref x) (Str.ofString "__eq__") [b])
        (PySem.W.ifBound_K X I he hf (wpAny_mono h (fun r s' hr => by
          obtain ⟨b, rfl, hq⟩ := hr
          repeat (first | exact hq | exact wpAny_pure hq | exact wpAny_truthy_bool hq | (refine wpAny_bind (m := truthy (.bool _)) (wpAny_truthy_bool ?_)) | wp_step)) fun _ _ e => e)))
    | wp_step)
theorem cmp_ne_K {tb : Value} {Q : Value → Shared → Prop} (hu : A.units + 1 < cLine) (X : K.In s.heap) (I : PySem.W.InstAt s.heap x ox C od) (hb : PySem.W.Looks (model prog w) s.heap (typeOf b) tb) (hn : PySem.W.notFirst K C tb = true)
    (hs : PySem.W.findIn K (.ref C) "__ne__" = some (some (.builtin "object.__ne__"))) (hm : PySem.W.mroIn K C (.type "object") = some true) (he : PySem.W.findIn K (.ref C) "__eq__" = some (some (.ref f))) (hf : PySem.W.isFn K (.ref f) = true)
    (h : wpAny (model prog w) A.in1 (call (.ref f) [.ref x, b]) (fun v s' => ∃ r, v = .bool r ∧ Q (.bool (!r)) s') E s) : wpAny (model prog w) A (richCompare .NotEq (.ref x) b) Q E s := by
  have one : wpAny (model prog w) A (tryCompare (.ref x) "__ne__" b) (fun r s' => ∃ v, r = some v ∧ Q v s') E s := by
    unfold tryCompare
    refine wpAny_bind (ifBound_objNe X I hs (wpAny_call (codeAny_call_builtin F.cmp_object.ne.plain F.cmpEntry_ne (PySem.W.check_slot F.cmpKind_ne F.cmpSplit_ne (I.type.andThen (PySem.W.looks_mroIn X hm)) (F.cmpArgs_ne _ _)
      (entry_ne hu X I he hf (wpAny_mono h (fun v s' hv => ?_) fun _ _ e => e))))))
    obtain ⟨r, rfl, hq⟩ := hv
    first | exact ⟨r, rfl, wpAny_pure ⟨_, rfl, hq⟩⟩ | exact ⟨r, rfl, _, rfl, hq⟩
  unfold richCompare
  simp only [oneThing_ref]
  refine wpAny_holding (wpAny_bind (wpAny_cRoomFor (Nat.lt_of_succ_lt hu) ?_))
  refine wpAny_bind (I.type.here (wpAny_bind (hb.here ?_)))
  split
  · rename_i q
    have e : PySem.W.subIn K tb (.ref C) = some false := by
      rcases Bool.or_eq_true_iff.mp hn with e | e
      · rw [beq_iff_eq.mp e] at q; simp at q
      · exact beq_iff_eq.mp e
    refine wpAny_bind ((PySem.W.looks_subIn X e).here ?_)
    simp only [Bool.false_eq_true, if_false]
    refine wpAny_bind (wpAny_mono one (fun r s' z => ?_) fun _ _ e => e)
    obtain ⟨v, rfl, hq⟩ := z
    exact wpAny_pure hq
  · refine wpAny_bind (wpAny_pure ?_)
    simp only [Bool.false_eq_true, if_false]
    refine wpAny_bind (wpAny_mono one (fun r s' z => ?_) fun _ _ e => e)
    obtain ⟨v, rfl, hq⟩ := z
    exact wpAny_pure hq
/-- x == y, x of a built-in kind that declines, y an own instance -/
theorem cmp_back_K {a : Value} {T ida : String} {Q : Value → Shared → Prop} (hu : A.units < cLine) (X : K.In s.heap) (ha : s.TypeIs a T) (I : PySem.W.InstAt s.heap x ox C od)
    (hsub : PySem.W.mroIn K C (.type T) = some false) (h1 : Slot T (cmpInfo .Eq).2.1 ida) (hc1 : ∀ Q' : Value → Shared → Prop, Q' .notImplemented s → wpAny (model prog w) A (call (.builtin ida) [a, .ref x]) Q' E s)
    (he : PySem.W.findIn K (.ref C) "__eq__" = some (some (.ref f))) (hf : PySem.W.isFn K (.ref f) = true)
    (h : wpAny (model prog w) A (call (.ref f) [.ref x, a]) (fun v s' => ∃ r, v = .bool r ∧ Q (.bool r) s') E s) : wpAny (model prog w) A (richCompare .Eq a (.ref x)) Q E s := by
  have one : wpAny (model prog w) A (tryCompare (.ref x) "__eq__" a) (fun r s' => ∃ v, r = some v ∧ Q v s') E s := by
    unfold tryCompare
    refine wpAny_bind (PySem.W.ifBound_K X I he hf (wpAny_mono h (fun v s' hv => ?_) fun _ _ e => e))
    obtain ⟨r, rfl, hq⟩ := hv
    exact wpAny_pure ⟨_, rfl, hq⟩
  rcases hi : cmpInfo CmpOp.Eq with ⟨sym, f1, r1⟩
  have hr1 : r1 = "__eq__" := by
    have : cmpInfo CmpOp.Eq = (("==", "__eq__", "__eq__") : String × Str × Str) := rfl
    rw [this] at hi
    exact (congrArg (fun z : String × Str × Str => z.2.2) hi).symm
  rw [hi] at h1
  simp only [richCompare, hi, ha.oneThing_none]
  try with_reducible refine wpAny_holding ?_
  refine wpAny_bind (wpAny_cRoomFor hu ?_)
  refine wpAny_bind (wpAny_typeOf ha (wpAny_bind (I.type.here ?_)))
  split
  · refine wpAny_bind ((PySem.W.looks_mroIn X hsub).here ?_)
    simp only [Bool.false_eq_true, if_false, Bool.not_false, if_true]
    refine wpAny_bind (m := tryCompare a _ (.ref x)) (wpAny_tryCompare_declines ha h1 (hc1 _ ⟨rfl, ?_⟩))
    subst hr1
    refine wpAny_bind (m := tryCompare (.ref x) _ a) (wpAny_mono one (fun r s' z => ?_) fun _ _ e => e)
    obtain ⟨v, rfl, hq⟩ := z
    exact wpAny_pure hq
  · rename_i q
    exact absurd (by simp) q
theorem inst_not {M : Model} {T : String} {Q : Bool → Shared → Prop} (X : K.In s.heap) (I : PySem.W.InstAt s.heap x ox C od) (hm : PySem.W.mroIn K C (.type T) = some false) (hq : Q false s) : wpAny M A (isInstance (.ref x) (.type T)) Q E s := by
  simp only [isInstance]; exact wpAny_bind (I.type.here ((PySem.W.looks_mroIn X hm).here hq))
theorem decl_list {l : Addr} {items : Array Value} {Q : Value → Shared → Prop} (X : K.In s.heap) (I : PySem.W.InstAt s.heap x ox C od) (hm : PySem.W.mroIn K C (.type "list") = some false) (hl : s.heap.IsList l items) (hq : Q .notImplemented s) :
    wpAny (model prog w) A (call (.builtin "list.__eq__") [.ref l, .ref x]) Q E s := by
  obtain ⟨⟨cls, dd, data, sl⟩, ho, hc, n, hd⟩ := id hl
  simp only at hc hd
  subst hc hd
  refine wpAny_call_entry F.slot_list_eq ⟨_, ho, rfl⟩ F.entry_list_eq ?_ (F.args_list_eq_2 _ _)
  have hI : ∀ {Q' : Bool → Shared → Prop} {E' : Value → Shared → Prop} {A' : Around}, Q' false s → wpAny (model prog w) A' (isInstance (.ref x) (.type "list")) Q' E' s := fun q => inst_not X I hm q
  obtain ⟨hp, g, d, tk, os⟩ := s
  wp_walk using wpAny_loadPart' ho, hI
  exact ⟨_, rfl, hq⟩
theorem decl_tuple {l : Addr} {items : Array Value} {Q : Value → Shared → Prop} (X : K.In s.heap) (I : PySem.W.InstAt s.heap x ox C od) (hm : PySem.W.mroIn K C (.type "tuple") = some false) (hl : s.heap.IsTuple l items) (hq : Q .notImplemented s) :
    wpAny (model prog w) A (call (.builtin "tuple.__eq__") [.ref l, .ref x]) Q E s := by
  obtain ⟨⟨cls, dd, data, sl⟩, ho, hc, n, hd⟩ := id hl
  simp only at hc hd
  subst hc hd
  refine wpAny_call_entry F.slot_tuple_eq ⟨_, ho, rfl⟩ F.entry_tuple_eq ?_ (F.args_tuple_eq_2 _ _)
  have hI : ∀ {Q' : Bool → Shared → Prop} {E' : Value → Shared → Prop} {A' : Around}, Q' false s → wpAny (model prog w) A' (isInstance (.ref x) (.type "tuple")) Q' E' s := fun q => inst_not X I hm q
  obtain ⟨hp, g, d, tk, os⟩ := s
  wp_walk using wpAny_loadPart' ho, hI
  exact ⟨_, rfl, hq⟩
theorem decl_str {b : Str} {u : Tok} {dx : Addr} {Q : Value → Shared → Prop} (ho : s.heap.get? x = some (PySem.W.instObj C dx)) (hq : Q .notImplemented s) : wpAny (model prog w) A (call (.builtin "str.__eq__") [.str b u, .ref x]) Q E s := by
  refine wpAny_call_entry F.slot_str_eq (typeIs_str s b u) F.entry_str_eq ?_ (F.args_str_eq_2 _ _)
  obtain ⟨hp, g, d, tk, os⟩ := s
  unfold PySem.W.instObj at ho
  wp_walk using wpAny_loadPart' ho, wpAny_load ho
  exact ⟨_, rfl, hq⟩
theorem decl_int {b : Int} {u : Tok} {dx : Addr} {Q : Value → Shared → Prop} (ho : s.heap.get? x = some (PySem.W.instObj C dx)) (hq : Q .notImplemented s) : wpAny (model prog w) A (call (.builtin "int.__eq__") [.int b u, .ref x]) Q E s := by
  refine wpAny_call_entry F.slot_int_eq (typeIs_int s b u) F.entry_int_eq ?_ (F.args_int_eq_2 _ _)
  obtain ⟨hp, g, d, tk, os⟩ := s
  unfold PySem.W.instObj at ho
  wp_walk using wpAny_loadPart' ho, wpAny_load ho
  exact ⟨_, rfl, hq⟩
end
end Hd
namespace Hd
/-! ### the value layer: own kinds: isinstance, ==, !=, len, str -/
section
open PySem PySem.Spec PyProof.Rows L2
variable {K : PySem.W.Frag} {W : WX} {H H' : Hp} {Y : Fx} {vs tv : List (Option V)} {os to env : List O} {v : V} {d : D} {o : O} {σ : L2.St} {X : Cx} {A : List Addr}
def kinds7 : List String := ["NoneType", "bool", "int", "str", "list", "tuple", "dict"]
/-- what is known of an own class that stands right under object -/
structure OwnK (K : PySem.W.Frag) (c : Str) : Prop where
  ne : PySem.W.findIn K (.ref (He.ga K c)) "__ne__" = some (some (.builtin "object.__ne__"))
  mo : PySem.W.mroIn K (He.ga K c) (.type "object") = some true
  cla : PySem.W.findIn K (.ref (He.ga K c)) "__class__" = some (some (.builtin "object.__class__"))
  spc : PySem.W.specialIn K (.builtin "object.__class__") "__get__" = some (some (.builtin "getset_descriptor.__get__"))
  tak : PySem.W.takesIn K (.builtin "object.__class__") = some true
  kis : PySem.W.kitOne K (.ref (He.ga K c)) (.ref (He.ga K c)) = some true
  all : ∀ T ∈ kinds7, PySem.W.mroIn K (He.ga K c) (.type T) = some false ∧ PySem.W.subIn K (.type T) (.ref (He.ga K c)) = some false ∧ PySem.W.kitOne K (.type T) (.ref (He.ga K c)) = some false ∧ PySem.W.kitOne K (.ref (He.ga K c)) (.type T) = some false
def ownKB (K : PySem.W.Frag) (c : Str) : Bool :=
  decide (PySem.W.findIn K (.ref (He.ga K c)) "__ne__" = some (some (.builtin "object.__ne__"))) && (decide (PySem.W.mroIn K (He.ga K c) (.type "object") = some true) && (decide (PySem.W.findIn K (.ref (He.ga K c)) "__class__" = some (some (.builtin "object.__class__"))) &&
  (decide (PySem.W.specialIn K (.builtin "object.__class__") "__get__" = some (some (.builtin "getset_descriptor.__get__"))) && (decide (PySem.W.takesIn K (.builtin "object.__class__") = some true) && (decide (PySem.W.kitOne K (.ref (He.ga K c)) (.ref (He.ga K c)) = some true) &&
  kinds7.all fun T => decide (PySem.W.mroIn K (He.ga K c) (.type T) = some false) && (decide (PySem.W.subIn K (.type T) (.ref (He.ga K c)) = some false) && (decide (PySem.W.kitOne K (.type T) (.ref (He.ga K c)) = some false) && decide (PySem.W.kitOne K (.ref (He.ga K c)) (.type T) = some false))))))))
theorem ownKB_ok {c : Str} (h : ownKB K c = true) : OwnK K c := by
  unfold ownKB at h
  simp only [Bool.and_eq_true, decide_eq_true_eq, List.all_eq_true] at h
  obtain ⟨h1, h2, h3, h4, h5, h6, h7⟩ := h
  exact ⟨h1, h2, h3, h4, h5, h6, h7⟩
/-- the kind of a known thing, or of an own one of class c -/
def eqArg (c : Str) : D → Bool
  | .obj _ c' _ => decide (c' = c)
  | .set _ => false
  | .ref _ => false
  | .exc _ _ _ _ => false
  | .dic t _ => !t
  | _ => true
theorem kind_mem {d : D} (h : known7 d = true) : d.kind ∈ kinds7 := by cases d <;> first | (cases h; done) | simp [D.kind, kinds7]
theorem Rp.ty2 {c : Str} (hk : OwnK K c) (hcl : Cls K (He.ga K c)) (h : Rp K A H v d) (he : eqArg c d = true) : (known7 d = true ∧ TyX K H v (.type d.kind)) ∨ (∃ a fs, d = .obj a c fs ∧ TyX K H v (.ref (He.ga K c))) := by
  cases d with
  | obj a c' fs =>
    have e : c' = c := of_decide_eq_true he
    subst e
    cases h with
    | obj ha _ _ _ => exact .inr ⟨_, _, rfl, .base (.ins ha hcl hk.cla hk.spc hk.tak hk.mo)⟩
  | set _ => cases he
  | ref _ => cases he
  | exc _ _ _ _ => cases he
  | dic t es =>
    have et : t = false := by simpa [eqArg] using he
    subst et
    exact .inl ⟨rfl, h.ty rfl fun kvs e => by cases e⟩
  | _ => exact .inl ⟨rfl, h.ty rfl fun kvs e => by cases e⟩
/-- isinstance(x, C), C an own class -/
def vIsO (c : Str) (ta : VT) : VT := fun env Q x => ta env (fun o e => o.fz fun d => eqArg c d = true ∧ Q (.sh (.bl (!known7 d))) e) x
theorem ve_isO {c : Str} {e ce : Expr} {ta : VT} {p pos : Pos} (hk : OwnK X.K c) (hcl : Cls X.K (He.ga X.K c)) (hg : Gl X "isinstance") (hm : X.mg "isinstance" = none) (ha : VE X W e ta) (hc : PE X ce (tC (.ref (He.ga X.K c))))
    (he : starEach [e, ce] X.env = (false, eval e X.env) :: starEach [ce] X.env := by rfl) (hs2 : starEach [ce] X.env = (false, eval ce X.env) :: starEach [] X.env := by rfl) (hpl : (backTo pos (starEach [ce] X.env)).any (·.1) = false := by rfl) :
    VE X W (.Call (.Name "isinstance" p) [e, ce] [] pos) (vIsO c ta) := by
  refine PE.imp (pe_callB call_isi hg hm (by decide +kernel) (pa_cons ha (pa_cons hc pa_nil hs2) he) (by decide) (by decide) he hpl) fun σ H Q ⟨Y, tv, to, env, Qd, xd, l, k, t, hq, hx⟩ => ?_
  refine ⟨Y, tv, to, env, _, xd, l, k, t, fun o e v H' q k' => ?_, hx⟩
  obtain ⟨d, ⟨t1, t2⟩, k'⟩ := k'.fz q
  obtain ⟨A, r, up⟩ := k'.one'
  rcases r.ty2 hk hcl t1 with ⟨h7, ty⟩ | ⟨a, fs, rfl, ty⟩
  · rw [h7] at t2
    exact ⟨v, .ref (He.ga X.K c), _, .ref (He.ga X.K c), false, rfl, .own _, ty, (hk.all _ (kind_mem h7)).2.2.1, hq _ _ _ _ t2 (up (.bl _))⟩
  · exact ⟨v, .ref (He.ga X.K c), _, .ref (He.ga X.K c), true, rfl, .own _, ty, hk.kis, hq _ _ _ _ t2 (up (.bl _))⟩
/-! ### by the own __eq__ -/
theorem spV_two {m : VM} {x y : V} {d1 d2 : D} {Qd : O → List O → Prop} {Q : VK} (k : Ok K Y (some y :: some x :: vs) (.sh d2 :: .sh d1 :: os) H) (t : m [.sh d1, .sh d2] Qd x0)
    (hq : ∀ o bk v H', Qd o bk → Ok K Y (some v :: vs) (o :: os) H' → Q v H') : spV K 2 m [x, y] H Q E0 := by
  obtain ⟨A, F, w, nd, fa, al, up⟩ := Ok.call (xs := [some x, some y]) (us := [.sh d1, .sh d2]) rfl k.swap
  exact ⟨A, F, _, _, _, rfl, w, nd, fa, al, t, fun o bk v ws H' q k2 => hq _ _ _ _ q (Ok.dropn (xs := ws) (ys := bk) (Nat.succ.inj k2.len) (by simpa using up k2)), fun c f d bk v a ws H' q => q.elim⟩
theorem spV_one {m : VM} {x : V} {d1 : D} {Qd : O → List O → Prop} {Q : VK} (k : Ok K Y (some x :: vs) (.sh d1 :: os) H) (t : m [.sh d1] Qd x0)
    (hq : ∀ o bk v H', Qd o bk → Ok K Y (some v :: vs) (o :: os) H' → Q v H') : spV K 1 m [x] H Q E0 := by
  obtain ⟨A, F, w, nd, fa, al, up⟩ := Ok.call (xs := [some x]) (us := [.sh d1]) rfl k
  exact ⟨A, F, _, _, _, rfl, w, nd, fa, al, t, fun o bk v ws H' q k2 => hq _ _ _ _ q (Ok.dropn (xs := ws) (ys := bk) (Nat.succ.inj k2.len) (by simpa using up k2)), fun c f d bk v a ws H' q => q.elim⟩
def gEqO (neg : Bool) (c : Str) (m : VM) : G2 := fun a b Q => match a with
  | .obj _ c' _ => c' = c ∧ eqArg c b = true ∧ m [.sh a, .sh b] (fun o _ => ∃ r, o = .sh (.bl r) ∧ Q (.sh (.bl (neg ^^ r)))) x0
  | _ => False
variable {k : Nat} {ps : List Str} {f : Addr} {c : Str} {m : VM}
theorem looks_of {tb : Value} {y : V} {u : Value} {pins : List (Addr × Obj)} {s : Shared} (I : Inv X pins σ H s) (ry : RelV y u) (ty : TyX X.K H y tb) : PySem.W.Looks (model X.prog X.w) s.heap (typeOf u) tb := by
  obtain ⟨P, Z, p, _⟩ := kit_of I ry ty
  exact Z.ty _ _ I.kIn p
theorem o_eqO (hk : OwnK X.K c) (hcl : Cls X.K (He.ga X.K c)) (hm : Meth X.K (He.ga X.K c) "__eq__" f) (F : Cal X.prog X.w X.K X.mg X.base k f ps (spV X.K 2 m)) (hr : Room k X.A) : OpR X (compareOp .Eq) (rV X.K (gEqO false c m)) := by
  intro pins s σ H x y u v Q I rx ry ⟨Y, vs, os, d1, d2, Qd, k1, t, hq⟩
  obtain ⟨fd, F, b⟩ := F.ex
  unfold gEqO at t
  split at t
  · rename_i a0 c' fs0
    obtain ⟨rfl, t1, t2⟩ := t
    obtain ⟨A, r1, r2⟩ := k1.two
    cases r1 with
    | @obj a _ dx fs _ ha _ _ _ =>
      cases (show u = Value.ref a0 from rx)
      obtain ⟨mA, J, _⟩ := ins_get I.hok ha
      obtain ⟨od, J, _⟩ := J.look
      obtain ⟨m0, hF⟩ := I.fr
      have run : wpAny (model X.prog X.w) X.A (call (.ref f) [.ref a0, v]) (PySem.W.CmpBack (EP X pins σ Q)) X.xe s := by
        refine wpAny_mono (run_sub (us := [.ref a0, v]) (vs := [.ref a0, y]) F b hr rfl I (.cons rfl (.cons ry .nil)) (spV_two k1 t2 (Q := fun w H' => ∃ r, w = .bl r ∧ Q (.bl r) H') fun o bk v H' ⟨r, e, q⟩ k2 => by
          subst e
          obtain ⟨_, r3⟩ := k2.one
          have := r3.bl_inv
          subst this
          exact ⟨r, rfl, hq _ _ _ (by simpa using q) k2⟩)) (fun w s' hv => ?_) fun _ _ z => z
        obtain ⟨y', H', I', ry', r, rfl, q'⟩ := hv
        cases ry'
        exact ⟨.bl r, H', I', rfl, q'⟩
      show wpAny (model X.prog X.w) X.A (richCompare .Eq _ _) (EP X pins σ Q) X.xe s
      rcases r2.ty2 hk hcl t1 with ⟨h7, ty⟩ | ⟨a, fs, rfl, ty⟩
      · exact PySem.W.cmp_K (op := .Eq) hr.units0 hF I.ok.mod.kin J (looks_of I ry ty) (by simp [PySem.W.notFirst, (hk.all _ (kind_mem h7)).2.1]) hm.at_ hm.fn run
      · exact PySem.W.cmp_K (op := .Eq) hr.units0 hF I.ok.mod.kin J (looks_of I ry ty) (by simp [PySem.W.notFirst]) hm.at_ hm.fn run
  · exact t.elim
theorem o_neO (hk : OwnK X.K c) (hcl : Cls X.K (He.ga X.K c)) (hm : Meth X.K (He.ga X.K c) "__eq__" f) (F : Cal X.prog X.w X.K X.mg X.base k f ps (spV X.K 2 m)) (hr : Room (k + 1) X.A) : OpR X (compareOp .NotEq) (rV X.K (gEqO true c m)) := by
  intro pins s σ H x y u v Q I rx ry ⟨Y, vs, os, d1, d2, Qd, k1, t, hq⟩
  obtain ⟨fd, F, b⟩ := F.ex
  unfold gEqO at t
  split at t
  · rename_i a0 c' fs0
    obtain ⟨rfl, t1, t2⟩ := t
    obtain ⟨A, r1, r2⟩ := k1.two
    cases r1 with
    | @obj a _ dx fs _ ha _ _ _ =>
      cases (show u = Value.ref a0 from rx)
      obtain ⟨mA, J, _⟩ := ins_get I.hok ha
      obtain ⟨od, J, _⟩ := J.look
      obtain ⟨m0, hF⟩ := I.fr
      have run : wpAny (model X.prog X.w) X.A.in1 (call (.ref f) [.ref a0, v]) (fun w s' => ∃ r, w = .bool r ∧ EP X pins σ Q (.bool (!r)) s') X.xe s := by
        refine wpAny_mono (run_sub (us := [.ref a0, v]) (vs := [.ref a0, y]) F b hr.in1 rfl I (.cons rfl (.cons ry .nil)) (spV_two k1 t2 (Q := fun w H' => ∃ r, w = .bl r ∧ Q (.bl (!r)) H') fun o bk v H' ⟨r, e, q⟩ k2 => by
          subst e
          obtain ⟨_, r3, up⟩ := k2.one'
          have := r3.bl_inv
          subst this
          exact ⟨r, rfl, hq _ _ _ q (by simpa using up (.bl (true ^^ r)))⟩)) (fun w s' hv => ?_) fun _ _ z => z
        obtain ⟨y', H', I', ry', r, rfl, q'⟩ := hv
        cases ry'
        exact ⟨r, rfl, .bl (!r), H', I', rfl, q'⟩
      show wpAny (model X.prog X.w) X.A (richCompare .NotEq _ _) (EP X pins σ Q) X.xe s
      have hu : X.A.units + 1 < cLine := by have := hr.un; omega
      rcases r2.ty2 hk hcl t1 with ⟨h7, ty⟩ | ⟨a, fs, rfl, ty⟩
      · exact cmp_ne_K hu I.kIn J (looks_of I ry ty) (by simp [PySem.W.notFirst, (hk.all _ (kind_mem h7)).2.1]) hk.ne hk.mo hm.at_ hm.fn run
      · exact cmp_ne_K hu I.kIn J (looks_of I ry ty) (by simp [PySem.W.notFirst]) hk.ne hk.mo hm.at_ hm.fn run
  · exact t.elim
/-- x == y, x a text, number, list or tuple, y an own thing -/
def backOk : D → Bool
  | .str _ => true
  | .int _ => true
  | .lst _ => true
  | .tup _ => true
  | _ => false
def gEqB (c : Str) (m : VM) : G2 := fun a b Q => match b with
  | .obj _ c' _ => c' = c ∧ backOk a = true ∧ m [.sh b, .sh a] (fun o _ => ∃ r, o = .sh (.bl r) ∧ Q (.sh (.bl r))) x0
  | _ => False
theorem o_eqB (hk : OwnK X.K c) (hm : Meth X.K (He.ga X.K c) "__eq__" f) (F : Cal X.prog X.w X.K X.mg X.base k f ps (spV X.K 2 m)) (hr : Room k X.A) : OpR X (compareOp .Eq) (rV X.K (gEqB c m)) := by
  intro pins s σ H x y u v Q I rx ry ⟨Y, vs, os, d1, d2, Qd, k1, t, hq⟩
  obtain ⟨fd, F, b⟩ := F.ex
  unfold gEqB at t
  split at t
  · rename_i a0 c' fs0
    obtain ⟨rfl, t1, t2⟩ := t
    obtain ⟨A, r1, r2⟩ := k1.two
    cases r2 with
    | @obj a _ dx fs _ ha _ _ _ =>
      cases (show v = Value.ref a0 from ry)
      obtain ⟨mA, J, _⟩ := ins_get I.hok ha
      have ho := J.obj
      obtain ⟨od, J, _⟩ := J.look
      have run : wpAny (model X.prog X.w) X.A (call (.ref f) [.ref a0, u]) (fun w s' => ∃ r, w = .bool r ∧ EP X pins σ Q (.bool r) s') X.xe s := by
        refine wpAny_mono (run_sub (us := [.ref a0, u]) (vs := [.ref a0, x]) F b hr rfl I (.cons rfl (.cons rx .nil)) (spV_two k1.swap t2 (Q := fun w H' => ∃ r, w = .bl r ∧ Q (.bl r) H') fun o bk v H' ⟨r, e, q⟩ k2 => by
          subst e
          obtain ⟨_, r3⟩ := k2.one
          have := r3.bl_inv
          subst this
          exact ⟨r, rfl, hq _ _ _ q k2⟩)) (fun w s' hv => ?_) fun _ _ z => z
        obtain ⟨y', H', I', ry', r, rfl, q'⟩ := hv
        cases ry'
        exact ⟨r, rfl, .bl r, H', I', rfl, q'⟩
      show wpAny (model X.prog X.w) X.A (richCompare .Eq _ _) (EP X pins σ Q) X.xe s
      have al := hk.all
      cases r1 with
      | str z =>
        obtain ⟨tk, rfl⟩ := rx
        exact cmp_back_K hr.units0 I.kIn (typeIs_str s _ _) J (al "str" (by simp [kinds7])).1 PySem.F.slot_str_eq (fun Q' q => decl_str ho q) hm.at_ hm.fn run
      | int z =>
        obtain ⟨tk, rfl⟩ := rx
        exact cmp_back_K hr.units0 I.kIn (typeIs_int s _ _) J (al "int" (by simp [kinds7])).1 PySem.F.slot_int_eq (fun Q' q => decl_int ho q) hm.at_ hm.fn run
      | @lst l xs ds hl hz ra =>
        cases rx
        obtain ⟨its, rv, pl, _⟩ := I.list hl.sq
        have il := pl.isList
        obtain ⟨o1, g1, g2, _⟩ := id il
        exact cmp_back_K hr.units0 I.kIn ⟨o1, g1, g2⟩ J (al "list" (by simp [kinds7])).1 PySem.F.slot_list_eq (fun Q' q => decl_list I.kIn J (al "list" (by simp [kinds7])).1 il q) hm.at_ hm.fn run
      | @tup l xs ds hl hz ra =>
        cases rx
        obtain ⟨its, rv, il, _⟩ := I.tuple hl.sq
        obtain ⟨o1, g1, g2, _⟩ := id il
        exact cmp_back_K hr.units0 I.kIn ⟨o1, g1, g2⟩ J (al "tuple" (by simp [kinds7])).1 PySem.F.slot_tuple_eq (fun Q' q => decl_tuple I.kIn J (al "tuple" (by simp [kinds7])).1 il q) hm.at_ hm.fn run
      | _ => cases t1
  · exact t.elim
/-! ### len, str -/
def gLenO (c : Str) (m : VM) : GC := fun ds Q => match ds with
  | [.obj a c' fs] => c' = c ∧ m [.sh (.obj a c' fs)] (fun o _ => ∃ i : Int, o = .sh (.int i) ∧ 0 ≤ i ∧ i < 2 ^ 63 ∧ Q (.sh (.int i))) x0
  | _ => False
theorem c_lenO (hm : Meth X.K (He.ga X.K c) "__len__" f) (F : Cal X.prog X.w X.K X.mg X.base k f ps (spV X.K 1 m)) (hr : Room (k + 1) X.A) : CallR X (.builtin "len") (rC X.K (gLenO c m)) := rC1 (call_lenO hm F hr) (fun ds Q h => by
    unfold gLenO at h
    split at h <;> first | exact ⟨_, rfl⟩ | exact h.elim) fun x d H Q Y vs os Qd k t hq => by
  cases d <;> first | exact t.elim | skip
  obtain ⟨rfl, t⟩ := t
  obtain ⟨A, r⟩ := k.one
  cases r with
  | obj ha _ _ _ =>
    refine ⟨_, _, _, rfl, ha, spV_one k t fun o bk v H' ⟨i, e, h0, h1, q⟩ k2 => ?_⟩
    subst e
    obtain ⟨_, r3⟩ := k2.one
    have := r3.int_inv
    subst this
    exact ⟨i, rfl, h0, h1, hq _ _ _ q k2⟩
def gStrO (c : Str) (m : VM) : GC := fun ds Q => match ds with
  | [.obj a c' fs] => c' = c ∧ m [.sh (.obj a c' fs)] (fun o _ => ∃ z : Str, o = .sh (.str z) ∧ Q (.sh (.str z))) x0
  | _ => False
theorem c_strO (hm : Meth X.K (He.ga X.K c) "__str__" f) (F : Cal X.prog X.w X.K X.mg X.base k f ps (spV X.K 1 m)) (hr : Room (k + 2) X.A) : CallR X (.type "str") (rC X.K (gStrO c m)) := rC1 (call_strO hm F hr) (fun ds Q h => by
    unfold gStrO at h
    split at h <;> first | exact ⟨_, rfl⟩ | exact h.elim) fun x d H Q Y vs os Qd k t hq => by
  cases d <;> first | exact t.elim | skip
  obtain ⟨rfl, t⟩ := t
  obtain ⟨A, r⟩ := k.one
  cases r with
  | obj ha _ _ _ =>
    refine ⟨_, _, _, rfl, ha, spV_one k t fun o bk v H' ⟨z, e, q⟩ k2 => ?_⟩
    subst e
    obtain ⟨_, r3⟩ := k2.one
    have := r3.str_inv
    subst this
    exact ⟨z, rfl, hq _ _ _ q k2⟩
end
end Hd
namespace Hd
/-! ### the value layer: f'..' -/
section
open PySem PySem.Spec PyProof.Rows L2
variable {K : PySem.W.Frag} {W : WX} {H H' : Hp} {Y : Fx} {vs tv : List (Option V)} {os to env : List O} {v : V} {d : D} {o : O} {σ : L2.St} {X : Cx} {A : List Addr}
def vFmt (t : VT) : VT := fun env Q x => t env (fun o e => o.fz fun d => match d with
  | .str y => y.length ≤ sizeLine ∧ Q (.sh (.str y)) e
  | .int i => i.natAbs.log2 < 1920 ∧ Q (.sh (.str (toString i))) e
  | _ => False) x
theorem ve_fmt {e : Expr} {t : VT} {pos : Pos} (h : VE X W e t) : VE X W (.FormattedValue e (-1) none pos) (vFmt t) := by
  refine PE.imp (pe_fmt h) fun σ H Q ⟨Y, tv, to, env, Qd, xd, l, k, t, hq, hx⟩ => ?_
  refine ⟨Y, tv, to, env, _, xd, l, k, t, fun o e v H' q k' => ?_, hx⟩
  obtain ⟨d, q, k'⟩ := k'.fz q
  obtain ⟨A, r, up⟩ := k'.one'
  cases d <;> first | exact q.elim | skip
  · have e := r.int_inv
    subst e
    exact .inr ⟨_, rfl, q.1, hq _ _ _ _ q.2 (up (.str _))⟩
  · have e := r.str_inv
    subst e
    exact .inl ⟨_, rfl, q.1, hq _ _ _ _ q.2 (up (.str _))⟩
def vJs : List VT → Str → DE → (Str → DE → Prop) → XD → Prop
  | [], acc, env, Q, _ => Q acc env
  | t :: ts, acc, env, Q, x => t env (fun o e => match o with
    | .sh (.str y) => (acc ++ y).length ≤ sizeLine ∧ vJs ts (acc ++ y) e Q x
    | _ => False) x
def vFStr (ts : List VT) : VT := fun env Q x => vJs ts Str.empty env (fun z e => Q (.sh (.str z)) e) x
theorem js_lift : ∀ (ts : List VT) {acc : Str} {tv : List (Option V)} {to : List O} {env : DE} {H : Hp} {Q : Str → Hp → Prop} {Qd : Str → DE → Prop} {xd : XD}, tv.length = to.length → Ok K Y (tv ++ σ) (to ++ env) H → vJs ts acc env Qd xd →
    (∀ z e H', Qd z e → Ok K Y (tv ++ σ) (to ++ e) H' → Q z H') → xOk K W Y tv to σ xd → tJs (ts.map (lE K W)) acc σ H Q
  | [], acc, tv, to, env, H, Q, Qd, xd, l, k, t, hq, hx => hq _ _ _ t k
  | t :: ts, acc, tv, to, env, H, Q, Qd, xd, l, k, h, hq, hx => by
    refine ⟨Y, tv, to, env, _, xd, l, k, h, fun o e v H' q k' => ?_, hx⟩
    split at q
    · rename_i y
      obtain ⟨A, r⟩ := k'.one
      have e := r.str_inv
      subst e
      exact ⟨y, rfl, q.1, js_lift ts l k'.pop q.2 hq hx⟩
    · exact q.elim
theorem ve_fstr {v1 v2 : Expr} {rest : List Expr} {ts : List VT} {pos : Pos} (h : PJ X (v1 :: v2 :: rest) (ts.map (lE X.K W))) : VE X W (.JoinedStr (v1 :: v2 :: rest) pos) (vFStr ts) := by
  refine PE.imp (pe_joined h) fun σ H Q ⟨Y, tv, to, env, Qd, xd, l, k, t, hq, hx⟩ => ?_
  refine js_lift ts l k t (fun z e H' q k' => hq _ _ _ _ q ?_) hx
  exact k'.pushR fun F w => .str z
end
end Hd
namespace Hd
/-! ### the value layer: try .. except .. as e -/
section
open PySem PySem.Spec PyProof.Rows L2
variable {K : PySem.W.Frag} {W : WX} {H H' : Hp} {Y : Fx} {vs tv : List (Option V)} {os to env : List O} {v : V} {d : D} {o : O} {σ : L2.St} {X : Cx}
/-- an own error of class c whose field f is d was caught: e is it -/
def vTry (i : Nat) (c : Str) (tb : VTS) (ts : Addr → Addr → VTS) : VTS := fun env E => tb env { nx := E.nx, rt := E.rt, bk := E.bk, ct := E.ct, xx := fun c' f d e => c' = c ∧ ∀ a dd, ts a dd (e.set i (.sh (.exc a dd f d))) { nx := fun e' => E.nx (e'.set i .un), rt := E.rt, bk := fun e' => E.bk (e'.set i .un), ct := fun e' => E.ct (e'.set i .un), xx := fun _ _ _ _ => False } }
theorem Ok.unSlot {i : Nat} (l : tv.length = to.length) (k : Ok K Y (tv ++ σ) (to ++ env) H) : Ok K Y (tv ++ σ.set i none) (to ++ env.set i .un) H := by
  have k1 := k.un1 (i := to.length + i) none
  rw [set_app, ← l, set_app] at k1
  exact k1
theorem vs_tryAs {i : Nat} {n x c : Str} {body suite : List Stmt} {b₀ : Stmt} {np pos pos' : Pos} {tb : VTS} {ts : Addr → Addr → VTS} (hs : X.stack = X.env :: X.outer) (hf : X.env.frame = some X.env.locals) (hN : X.N.Nodup) (hi : X.N[i]? = some n) (hln : X.env.kindOf n = some .local)
    (hc : Names X x (.ref (He.ga X.K c))) (tk : Takes X W) (hx : PySem.W.exmOne X.K (.ref (He.ga X.K c)) (.ref (He.ga X.K c)) = some true)
    (hb : ∀ (W' : WX) (pn : List (Addr × Obj)) (xe : Value → Shared → Prop), Takes (X.tr pn xe) W' → PassesOwn (model X.prog X.w) X.A X.env xe → VSs (X.tr pn xe) W' body tb)
    (hsu : ∀ (a : Addr) (oe : Obj) (dd : Addr) (pn : List (Addr × Obj)), Zc (.ref (He.ga X.K c)) (some dd) oe → (∃ vs, oe.data = .fields vs) → VSs (X.suite a ((a, oe) :: pn)) W0 (b₀ :: suite) (ts a dd)) :
    VS X W (.Try body [.ExceptHandler (some (.Name x np)) (some n) (b₀ :: suite) pos'] [] [] pos) (vTry i c tb ts) := by
  refine PS.imp (ps_try_as (Wout := W) (tb := fun W' => lS X.K W' tb) (ts := fun a cls d => fun D σ H => ∃ dd, cls = .ref (He.ga X.K c) ∧ d = some dd ∧ lS X.K W0 (ts a dd) D σ H) hs hf hN hi hln hc tk hb ?_) fun D σ H ⟨Y, tv, to, env, E, l, k, t, s⟩ => ?_
  · intro a oe cls d pn hz hf
    refine ⟨fun pins s σ H D I h => ?_⟩
    obtain ⟨dd, e1, e2, h⟩ := h
    subst e1
    subst e2
    exact (hsu a oe dd pn hz hf).run pins s σ H D I h
  · refine ⟨Y, tv, to, env, _, l, k, t, ⟨s.nx, s.rt, s.bk, s.ct, fun σ c' f d e v dd H' q k' ea => ?_⟩⟩
    obtain ⟨e1, q⟩ := q
    subst e1
    refine ⟨true, hx, fun _ a ha => ⟨dd, rfl, rfl, Y, tv, to, e.set i (.sh (.exc a dd f d)), _, l, ?_, q a dd, ?_⟩, fun z => by cases z⟩
    · have k2 : Ok X.K Y (some (.ref a) :: some v :: (tv ++ σ)) (.sh (.exc a dd f d) :: .sh d :: (to ++ e)) H' := k'.pushR fun F w => by
        refine .exc ea (fun z => ?_) ?_
        · have m : Mut (H' dd) := by
            rcases List.mem_append.mp z with z | z
            · exact k'.alH dd z
            · exact w.mut dd z
          rw [ea] at m
          exact m
        · cases w with
          | cons c w =>
            cases c with
            | sh r => exact r
      exact Ok.setSlot l k2.drop1
    · refine ⟨fun e' σ' H2 q2 k2 => s.nx _ _ _ q2 (Ok.unSlot l k2), s.rt, fun e' σ' H2 q2 k2 => s.bk _ _ _ q2 (Ok.unSlot l k2), fun e' σ' H2 q2 k2 => s.ct _ _ _ q2 (Ok.unSlot l k2), fun σ' c f d e v a H2 z => z.elim⟩
/-- e.f -/
def vXf (i : Nat) (a dd : Addr) (f : Str) : VT := fun env Q _ => match env[i]? with
  | some (.sh (.exc a' dd' f' d)) => a' = a ∧ dd' = dd ∧ f' = f ∧ Q (.sh d) env
  | _ => False
theorem excAt {i : Nat} {a dd : Addr} {f : Str} {d : D} (l : tv.length = to.length) (k : Ok K Y (tv ++ σ) (to ++ env) H) (e : env[i]? = some (.sh (.exc a dd f d))) : σ[i]? = some (some (.ref a)) ∧ ∃ v, H dd = some (.xd [(f, v)]) ∧ Ok K Y (some v :: (tv ++ σ)) (.sh d :: (to ++ env)) H := by
  obtain ⟨x, e1, k2⟩ := k.read (i := to.length + i) (ix_app.trans e)
  rw [← l, ix_app] at e1
  obtain ⟨F, w, nd, b⟩ := k2.ex
  cases w with
  | cons c w =>
    cases c with
    | sh r =>
      cases r with
      | exc h n r => exact ⟨e1, _, h, ⟨⟨_, OwA.cons (F := []) (.sh r) w, nd, b⟩, k2.st, k2.al, k2.ba⟩⟩
theorem ve_xf {i : Nat} {a dd : Addr} {c f : Str} {oe : Obj} {pn : List (Addr × Obj)} {e : Expr} {pos : Pos} (T : ErrC X.K (He.ga X.K c) f) (hz : Zc (.ref (He.ga X.K c)) (some dd) oe) (hf : ∃ vs, oe.data = .fields vs)
    (he : PE (X.suite a ((a, oe) :: pn)) e (tVar i)) (hb : attributeBase e f X.env (eval e X.env) = eval e X.env := by rfl) : VE (X.suite a ((a, oe) :: pn)) W (.Attribute e f pos) (vXf i a dd f) := by
  refine PE.imp (pe_xf T.xf T.no hz hf he hb) fun σ H Q ⟨Y, tv, to, env, Qd, xd, l, k, t, hq, hx⟩ => ?_
  unfold vXf at t
  split at t
  · rename_i a' dd' f' d e0
    obtain ⟨rfl, rfl, rfl, t⟩ := t
    obtain ⟨e1, v, h, k2⟩ := excAt l k e0
    exact ⟨_, e1, rfl, rfl, _, _, v, rfl, h, by simp [List.lookup], hq _ _ _ _ t k2⟩
  · exact t.elim
end
end Hd
namespace Hd
/-! ### the value layer: isinstance of a caught own error -/
section
open PySem PySem.Spec PyProof.Rows PySem.Calls L2
variable {prog : Program} {w : World} {s : Shared} {K : PySem.W.Frag} {x D : Addr} {ox oo : Obj}
/-- e.__class__ of an own error that has a dict -/
theorem exc_class {A : Around} {E : Value → Shared → Prop} {Q : Option Value → Shared → Prop} (C : ExcC K D) (X : K.In s.heap) (I : PySem.W.InstAt s.heap x ox D (some oo)) (q : Q (some (.ref D)) { s with toks := s.toks + 1 }) :
    wpAny (model prog w) A (getAttr? (.ref x) "__class__") Q E s := by
  have fo : PySem.W.findObj K D (some oo) "__class__" = some (.bind (.builtin "getset_descriptor.__get__") (.builtin "object.__class__")) := PySem.W.findObj_data (by
    obtain ⟨cd, e, _⟩ := PySem.W.any_some C.hd
    rw [e]; rfl) C.ha C.hn C.ht
  obtain ⟨hp, gs, dr, tt, oS⟩ := s
  have ty := I.type (M := model prog w)
  have l1 := PySem.W.looks_findIn (M := model prog w) X C.hg
  have l2 := PySem.W.looks_findIn (M := model prog w) X C.hk
  have l3 := PySem.W.looks_find (M := model prog w) X I fo
  have isE : PySem.W.Looks (model prog w) hp (isInstance (.ref x) (.type "BaseException")) true := ty.andThen (PySem.W.looks_subIn X C.hs)
  have ne : (Value.builtin "BaseException.__getattribute__" == Value.builtin "object.__getattribute__") = false := by decide +kernel
  have inner : ∀ {A' : Around} {E' : Value → Shared → Prop} {Q' : Value → Shared → Prop}, Q' (.ref D) ⟨hp, gs, dr, tt + 1, oS⟩ → wpAny (model prog w) A' (call (.builtin "BaseException.__getattribute__") [.ref x, .str "__class__" tt]) Q' E' ⟨hp, gs, dr, tt + 1, oS⟩ := fun {A' E' Q'} h => by
    refine wpAny_call (codeAny_call_builtin PySem.F.excAttr_ValueError.ga.plain PySem.F.entry_bexc_ga (@PySem.W.check_slot (model prog w) _ _ ⟨hp, gs, dr, tt + 1, oS⟩ "BaseException.__getattribute__" "BaseException" "__getattribute__" (.ref x) [.str "__class__" tt] [] _
      (by decide +kernel) (by decide +kernel) isE (PySem.F.args_bexc_ga (.ref x) (.str "__class__" tt)) ?_))
    unfold Builtin.«object.__getattribute__»
    refine wpAny_bind (wpAny_of_eq (a := ((Value.ref x : Value), [Value.str "__class__" tt])) (by first | rfl | (simp only [slotArgs]; rfl)) (wpAny_bind (wpAny_pure (wpAny_bind (ty.at (wpAny_bind (l3.at ?_)))))))
    show wpAny _ _ (holding [Value.builtin "object.__class__"] (call (.builtin "getset_descriptor.__get__") [.builtin "object.__class__", .ref x, .ref D]) >>= ret) _ _ _
    refine wpAny_bind (wpAny_holding (wpAny_call (PySem.W.class_get (s := ⟨hp, gs, dr, tt + 1, oS⟩) (ox := ox) (od := some oo) X I C.hm ?_)))
    exact wpAny_pure h
  unfold getAttr? getAttrBy? getAttrBy
  refine wpAny_bind (wpAny_mkText (wpAny_bind (wpAny_attempt (wpAny_holding (wpAny_bind (ty.at (wpAny_bind (l1.at ?_))))))))
  show wpAny _ _ (if (onTheHeap (Value.ref D) && Value.builtin "BaseException.__getattribute__" == Value.builtin "object.__getattribute__") = true then _ else _) _ _ _
  rw [if_neg (by rw [ne]; simp)]
  unfold getAttrByItsOwn hookBefore
  rw [if_pos (show onTheHeap (Value.ref D) = true from rfl)]
  refine wpAny_bind (l2.at (wpAny_bind (wpAny_attempt (wpAny_holding ?_))))
  unfold callGetattribute
  rw [if_neg (show ¬ (false && onTheHeap (Value.builtin "BaseException.__getattribute__")) = true by simp)]
  unfold boundAndCalled
  rw [PySem.F.excAttr_ValueError.ga.bind (.ref x)]
  refine wpAny_bind (wpAny_pure (inner ?_))
  show wpAny _ _ (handedOut (.ref D)) _ _ _
  rw [PySem.W.handedOut_of (v := .ref D) rfl]
  exact wpAny_pure (wpAny_pure q)
theorem kitx_xd (C : ExcC K D) : PySem.W.KitX K (.ref x) (.ref D) (fun h => PySem.W.InstAt h x ox D (some oo)) := by
  obtain ⟨cd, hcD, _⟩ := PySem.W.any_some C.hd
  unfold PySem.W.clsIn at hcD
  split at hcD
  · rename_i c1 d1 cd1 sl1 ho
    refine ⟨fun _ _ _ I => I.type, fun _ _ X _ A' Q' E' s' kk q => ?_, fun h tp dd its n sl X htp => Bool.eq_false_iff.mpr fun q => ?_, fun X I k => exc_class C X I k⟩
    · unfold isType loadHead
      exact wpAny_bind (wpAny_loadPart (kk _ _ (X _ _ ho)) (wpAny_pure q))
    · have e : D = tp := Value.ref.inj (beq_iff_eq.mp q)
      subst e
      have z := (X _ _ ho).symm.trans htp
      cases z
  · cases hcD
end
section
open PySem PySem.Spec PyProof.Rows L2
variable {K : PySem.W.Frag} {W : WX} {H H' : Hp} {Y : Fx} {vs tv : List (Option V)} {os to env : List O} {v : V} {d : D} {o : O} {σ : L2.St} {X : Cx}
def excCB (K : PySem.W.Frag) (c : Str) : Bool :=
  decide (PySem.W.findIn K (.ref (He.ga K c)) "__getattribute__" = some (some (.builtin "BaseException.__getattribute__"))) && (decide (PySem.W.findIn K (.ref (He.ga K c)) "__getattr__" = some none) && (decide (PySem.W.subIn K (.ref (He.ga K c)) (.type "BaseException") = some true) &&
  (PySem.W.hasDictIn K (He.ga K c) && (decide (PySem.W.findIn K (.ref (He.ga K c)) "__class__" = some (some (.builtin "object.__class__"))) && (decide (PySem.W.specialIn K (.builtin "object.__class__") "__get__" = some (some (.builtin "getset_descriptor.__get__"))) &&
  (decide (PySem.W.takesIn K (.builtin "object.__class__") = some true) && decide (PySem.W.mroIn K (He.ga K c) (.type "object") = some true)))))))
theorem excCB_ok {c : Str} (h : excCB K c = true) : ExcC K (He.ga K c) := by
  unfold excCB at h
  simp only [Bool.and_eq_true, decide_eq_true_eq] at h
  obtain ⟨h1, h2, h3, h4, h5, h6, h7, h8⟩ := h
  exact ⟨h1, h2, h3, h4, h5, h6, h7, h8⟩
theorem inst_xd {pins : List (Addr × Obj)} {s : Shared} {a dd C : Addr} {oe : Obj} {fs : List (Str × V)} {pn : List (Addr × Obj)} (I : Inv (X.suite a ((a, oe) :: pn)) pins σ H s) (hz : Zc (.ref C) (some dd) oe) (hf : ∃ vs, oe.data = .fields vs) (h : H dd = some (.xd fs)) :
    ∃ oo, PySem.W.InstAt s.heap a oe C (some oo) := by
  obtain ⟨ha, _⟩ := I.pin (a, oe) (List.mem_append_left _ List.mem_cons_self)
  obtain ⟨vs, hd⟩ := hf
  obtain ⟨mA, hns, hr⟩ := (show ObjOk X.prog X.w H s.heap dd (.xd fs) from I.hok dd _ h)
  obtain ⟨oo, ho, _⟩ := lookIn_ns hns
  exact ⟨oo, ha, hz.1, by unfold PySem.W.notCls; rw [hd] <;> rfl, by rw [hz.2]; exact ho⟩
theorem call_isX {a dd D : Addr} {oe : Obj} {pn : List (Addr × Obj)} (C : ExcC X.K D) (hz : Zc (.ref D) (some dd) oe) (hf : ∃ vs, oe.data = .fields vs) :
    CallR (X.suite a ((a, oe) :: pn)) (.builtin "isinstance") (fun xs H Q => ∃ (c : V) (u : Value) (fs : List (Str × V)) (b : Bool), xs = [.ref a, c] ∧ ClsV c u ∧ H dd = some (.xd fs) ∧ PySem.W.kitOne X.K (.ref D) u = some b ∧ Q (.bl b) H) := by
  intro pins s σ H xs us Q I r ⟨c, u, fs, b, e0, cv, h, e, q⟩
  subst e0
  obtain ⟨u1, u2, rfl, r1, r2⟩ := vals2 r
  have e2 := cv.eq r2
  subst e2
  cases (show u1 = Value.ref a from r1)
  obtain ⟨oo, J⟩ := inst_xd I hz hf h
  exact PySem.W.kia_one (kitx_xd C) I.kIn J e (fun z => nomatch z) fun tk => ⟨.bl b, H, I.tok tk, rfl, q⟩
theorem call_isXT {a dd D : Addr} {oe : Obj} {pn : List (Addr × Obj)} (C : ExcC X.K D) (hz : Zc (.ref D) (some dd) oe) (hf : ∃ vs, oe.data = .fields vs) :
    CallR (X.suite a ((a, oe) :: pn)) (.builtin "isinstance") (fun xs H Q => ∃ (tp : Addr) (cs : List V) (us : List Value) (fs : List (Str × V)) (b : Bool), xs = [.ref a, .ref tp] ∧ H tp = some (.tup cs) ∧ Paired ClsV cs us ∧ H dd = some (.xd fs) ∧ PySem.W.kitAny X.K (.ref D) us = some b ∧ Q (.bl b) H) := by
  intro pins s σ H xs us Q I r ⟨tp, cs, ws, fs, b, e0, hT, cv, h, e, q⟩
  subst e0
  obtain ⟨u1, u2, rfl, r1, r2⟩ := vals2 r
  cases (show u1 = Value.ref a from r1)
  cases (show u2 = Value.ref tp from r2)
  obtain ⟨oo, J⟩ := inst_xd I hz hf h
  obtain ⟨_, its, rv, ot, h1, h2, n, h3⟩ := (show ObjOk X.prog X.w H s.heap tp (.tup cs) from I.hok tp _ hT)
  have e3 := ClsV.all cv rv
  subst e3
  obtain ⟨oc, od, dt, sl⟩ := ot
  simp only at h2 h3
  subst h2
  subst h3
  exact PySem.W.kia_tup (kitx_xd C) I.kIn J h1 e (fun z => nomatch z) fun tk => ⟨.bl b, H, I.tok tk, rfl, q⟩
/-- isinstance(e, C) -/
def vIsX (i : Nat) (a dd : Addr) (b : Bool) : VT := fun env Q _ => match env[i]? with
  | some (.sh (.exc a' dd' _ _)) => a' = a ∧ dd' = dd ∧ Q (.sh (.bl b)) env
  | _ => False
theorem ve_isX {i : Nat} {a dd : Addr} {c : Str} {oe : Obj} {pn : List (Addr × Obj)} {e ce : Expr} {p pos : Pos} {cv : V} {u : Value} {b : Bool} (C : ExcC X.K (He.ga X.K c)) (hz : Zc (.ref (He.ga X.K c)) (some dd) oe) (hf : ∃ vs, oe.data = .fields vs) (hk : PySem.W.kitOne X.K (.ref (He.ga X.K c)) u = some b) (hv : ClsV cv u)
    (hg : Gl X "isinstance") (hm : X.mg "isinstance" = none) (he : PE (X.suite a ((a, oe) :: pn)) e (tVar i)) (hc : PE (X.suite a ((a, oe) :: pn)) ce (tC cv))
    (hs : starEach [e, ce] X.env = (false, eval e X.env) :: starEach [ce] X.env := by rfl) (hs2 : starEach [ce] X.env = (false, eval ce X.env) :: starEach [] X.env := by rfl) (hpl : (backTo pos (starEach [ce] X.env)).any (·.1) = false := by rfl) :
    VE (X.suite a ((a, oe) :: pn)) W (.Call (.Name "isinstance" p) [e, ce] [] pos) (vIsX i a dd b) := by
  refine PE.imp (pe_callB (call_isX C hz hf) hg hm (by decide +kernel) (pa_cons he (pa_cons hc pa_nil hs2) hs) (by decide) (by decide) hs hpl) fun σ H Q ⟨Y, tv, to, env, Qd, xd, l, k, t, hq, hx⟩ => ?_
  unfold vIsX at t
  split at t
  · rename_i a' dd' f' d e0
    obtain ⟨rfl, rfl, t⟩ := t
    obtain ⟨e1, v, h, k2⟩ := excAt l k e0
    exact ⟨_, e1, _, _, _, b, rfl, hv, h, hk, hq _ _ _ _ t (k.pushR fun F w => .bl b)⟩
  · exact t.elim
/-- isinstance(e, (C1, C2, ..)) -/
theorem ve_isXT {i : Nat} {a dd : Addr} {c : Str} {oe : Obj} {pn : List (Addr × Obj)} {e : Expr} {ces : List Expr} {p pos tp : Pos} {x1} {cs : List V} {us : List Value} {b : Bool} {tc : TA} (C : ExcC X.K (He.ga X.K c)) (hz : Zc (.ref (He.ga X.K c)) (some dd) oe) (hf : ∃ vs, oe.data = .fields vs) (hk : PySem.W.kitAny X.K (.ref (He.ga X.K c)) us = some b) (hv : Paired ClsV cs us) (hl : cs.length ≤ 1000)
    (hg : Gl X "isinstance") (hm : X.mg "isinstance" = none) (he : PE (X.suite a ((a, oe) :: pn)) e (tVar i)) (hc : PA (X.suite a ((a, oe) :: pn)) ces tc) (htc : ∀ σ H Q, Q cs H → tc σ H Q)
    (hs : starEach [e, .Tuple ces x1 tp] X.env = (false, eval e X.env) :: starEach [.Tuple ces x1 tp] X.env := by rfl) (hs2 : starEach [.Tuple ces x1 tp] X.env = (false, eval (.Tuple ces x1 tp) X.env) :: starEach [] X.env := by rfl) (hpl : (backTo pos (starEach [.Tuple ces x1 tp] X.env)).any (·.1) = false := by rfl) :
    VE (X.suite a ((a, oe) :: pn)) W (.Call (.Name "isinstance" p) [e, .Tuple ces x1 tp] [] pos) (vIsX i a dd b) := by
  refine PE.imp (pe_callB (call_isXT C hz hf) hg hm (by decide +kernel) (pa_cons he (pa_cons (pe_tup hc) pa_nil hs2) hs) (by decide) (by decide) hs hpl) fun σ H Q ⟨Y, tv, to, env, Qd, xd, l, k, t, hq, hx⟩ => ?_
  unfold vIsX at t
  split at t
  · rename_i a' dd' f' d e0
    obtain ⟨rfl, rfl, t⟩ := t
    obtain ⟨e1, v, h, k2⟩ := excAt l k e0
    refine ⟨_, e1, htc _ _ _ ⟨by rw [sizeLine_eq]; omega, fun q0 hq0 => ?_⟩⟩
    have nq : dd' ≠ q0 := fun z => by rw [z, hq0] at h; cases h
    exact ⟨q0, cs, us, _, b, rfl, upd_same, hv, by rw [upd_ne nq]; exact h, hk, hq _ _ _ _ t ((k.nw (.mk' hq0)).pushR fun F w => .bl b)⟩
  · exact t.elim
end
end Hd
namespace Hd
/-! ### the value layer: lists taken apart, fields as targets, powers, items of owned lists -/
section
open PySem PySem.Spec PyProof.Rows L2
variable {K : PySem.W.Frag} {W : WX} {H H' : Hp} {Y : Fx} {vs tv : List (Option V)} {os to env : List O} {v : V} {d : D} {o : O} {σ : L2.St} {X : Cx} {A : List Addr}
abbrev gPow : G2 := gIC CPow fun i j => .int (i ^ j.toNat)
theorem o_pow : OpR X (binaryOp .Pow) (rV X.K gPow) := op_ic op_pow fun _ _ _ _ => .int _
/-- a, b, .. = a list -/
def vgLst (n : Nat) (t : VTGs) : VTG := fun o env Q x => o.fz fun d => match d with
  | .lst ds => ds.length = n ∧ t ds env Q x
  | _ => False
theorem vg_lst {es : List Expr} {kk : Nat} {pos : Pos} {t : VTGs} {n : Nat} {ts : List Nat} (hc : X.calm = true) (h : VGs X W es ts n t)
    (hn : (assignEach es X.env).length = n := by rfl) (hst : (assignEach es X.env).findIdx? (·.1) = none := by rfl) : VG X W (.Tuple es kk pos) ts (vgLst n t) := by
  refine PG.imp (pg_lst hc h hn hst) fun v σ H Q ⟨Y, tv, to, env, o, Qd, xd, l, k, t, hq, hx⟩ => ?_
  obtain ⟨d, t, k⟩ := k.fz t
  cases d <;> first | exact t.elim | skip
  obtain ⟨t1, t2⟩ := t
  obtain ⟨a, xs, e, q, z, l1, k2⟩ := k.lst_open
  injection e with e
  subst e
  exact ⟨a, xs, rfl, q, by omega, Y, tv, to, env, _, Qd, xd, l, by omega, t1, by simpa using k2, t2, hq, hx⟩
/-- xs[k], xs an owned list of slot i that stays owned -/
def vIxL (i : Nat) (tk : VT) : VT := fun env Q x => match env[i]? with
  | some (.ol _ _) => tk env (fun o e => match o with
    | .sh (.int z) => (match e[i]? with
      | some (.ol _ l) => (match L2.atI l z with
        | some d => Q (.sh d) e
        | none => False)
      | _ => False)
    | _ => False) x
  | _ => False
theorem ve_ixL {i : Nat} {oe ie : Expr} {tk : VT} {pos : Pos} (ho : PE X oe (tVar i)) (hk : VE X W ie tk) (hs : PlainIx ie) : VE X W (.Subscript oe ie pos) (vIxL i tk) := by
  refine PE.imp (pe_ix ix_list ho hk hs) fun σ H Q ⟨Y, tv, to, env, Qd, xd, l, k, t, hq, hx⟩ => ?_
  unfold vIxL at t
  split at t
  · rename_i p0 l0 e0
    have s0 := (k.olAt (i := to.length + i) (ix_app.trans e0)).1
    rw [← l, ix_app] at s0
    refine ⟨_, s0, Y, tv, to, env, _, xd, l, k, t, fun o e y H1 q k1 => ?_, hx⟩
    split at q
    · rename_i z
      split at q
      · rename_i p l1 e1
        split at q
        · rename_i d e2
          obtain ⟨_, ry⟩ := k1.one
          have ey := ry.int_inv
          subst ey
          have k2 := k1.pop
          obtain ⟨F, xs, w, s1, hp, hz, ra, _⟩ := k2.putL (i := to.length + i) (ix_app.trans e1)
          rw [← l, ix_app, s0] at s1
          have ep : p0 = p := by
            injection s1 with s1
            injection s1 with s1
            injection s1
          subst ep
          obtain ⟨v, e3, rv⟩ := ra.atI e2
          refine ⟨_, xs, z, v, rfl, rfl, SqL.of hp, e3, hq _ _ _ _ q ?_⟩
          obtain ⟨F', w', nd, b⟩ := k2.ex
          obtain ⟨x, F1, F2, F3, g1, g2, c, _⟩ := w'.at_ (i := to.length + i) (ix_app.trans e1)
          cases c with
          | @ol _ xs' _ hp' _ ra' =>
            have ex : xs' = xs := by
              rw [hp] at hp'
              injection hp' with z1
              injection z1 with z1
              exact z1.symm
            subst ex
            obtain ⟨v', e3', rv'⟩ := ra'.atI e2
            rw [e3] at e3'
            injection e3' with e3'
            subst e3'
            exact ⟨⟨F', OwA.cons (F := []) (.sh rv') w', nd, b⟩, k2.st, k2.al, k2.ba⟩
        · exact q.elim
      · exact q.elim
    · exact q.elim
  · exact t.elim
/-! ### fields as targets -/
def gAttr (K : PySem.W.Frag) (ta : TE) (f : Str) : TG := fun v σ H Q => ta σ H fun x H2 => ∃ a C dx fs, x = .ref a ∧ H2 a = some (.ins C dx fs) ∧ Cls K C ∧ NoAttr K C f ∧ fs.length < 1000 ∧ Q σ (upd H2 a (.ins C dx (putF f v fs)))
theorem pg_attr {oe : Expr} {ta : TE} {f : Str} {pos : Pos} (ho : PE X oe ta) (ha : ∀ v, assign (.Attribute oe f pos) X.env v = (do
      let ov ← holding [v] (eval oe X.env)
      standAt pos.atName
      holding [v, ov] (setAttr ov f v)
      release [v, ov] []) := by intro _; rfl) : PG X (.Attribute oe f pos) (gAttr X.K ta f) := by
  refine ⟨fun pins s σ H v u Q I r h => ?_⟩
  rw [ha]
  refine wpAny_bind (wpAny_holding (thn (ho.run pins s σ H _ I h) fun ov s1 ⟨x, H1, I1, r1, a, C, dx, fs, ex, ea, c, n, fl, q⟩ => ?_))
  subst ex
  obtain rfl : ov = Value.ref a := r1
  exact wpAny_bind (wpAny_standAt (wpAny_bind (wpAny_holding (setattr_ok I1 ea c n fl r fun s2 I2 => wpAny_release ⟨σ, _, I2, q⟩))))
def vgFPut (c f : Str) (i : Nat) : VTG := fun o env Q _ => match env[i]? with
  | some (.oo p c' fs) => c' = c ∧ fs.length < 100 ∧ Q (env.set i (.oo p c' (oPut f o fs)))
  | _ => False
theorem vg_fput {c f : Str} {i : Nat} {oe : Expr} {pos : Pos} (hcl : Cls X.K (He.ga X.K c)) (hna : NoAttr X.K (He.ga X.K c) f) (ho : PE X oe (tVar i)) (ha : ∀ v, assign (.Attribute oe f pos) X.env v = (do
      let ov ← holding [v] (eval oe X.env)
      standAt pos.atName
      holding [v, ov] (setAttr ov f v)
      release [v, ov] []) := by intro _; rfl) : VG X W (.Attribute oe f pos) [] (vgFPut c f i) := by
  refine PG.imp (pg_attr ho ha) fun v σ H Q ⟨Y, tv, to, env, o, Qd, xd, l, k, t, hq, hx⟩ => ?_
  unfold vgFPut at t
  split at t
  · rename_i p c' es ei
    obtain ⟨rfl, t1, t2⟩ := t
    obtain ⟨dx, fs, f1, hp, fl, k2⟩ := Ok.fput (f := f) l k ei
    exact ⟨_, f1, p, _, dx, fs, rfl, hp, hcl, hna, by omega, hq _ _ _ t2 ⟨rfl, fun _ _ => rfl⟩ k2⟩
  · exact t.elim
end
end Hd
namespace Hd
/-! ### the value layer: owned things in lists; a look whose answer is new -/
section
open PySem PySem.Spec PyProof.Rows L2
variable {K : PySem.W.Frag} {W : WX} {H H' : Hp} {Y : Fx} {vs tv : List (Option V)} {os to env : List O} {v : V} {d : D} {o : O} {σ : L2.St} {X : Cx} {A B : List Addr}
mutual
/-- nothing in it can change -/
def D.imm : D → Bool
  | .non => true
  | .bl _ => true
  | .int _ => true
  | .str _ => true
  | .tup ds => imms ds
  | _ => false
def imms : List D → Bool
  | [] => true
  | d :: ds => d.imm && imms ds
end
mutual
theorem Rp.imm : ∀ {d : D} {v : V}, d.imm = true → Rp K A H v d → Rp K B H v d
  | _, _, _, .non => .non
  | _, _, _, .bl b => .bl b
  | _, _, _, .int i => .int i
  | _, _, _, .str x => .str x
  | _, _, h, .tup q z t => .tup q z (RpA.imm h t)
  | _, _, h, .lst _ _ _ => by cases h
  | _, _, h, .dic _ _ _ _ _ => by cases h
  | _, _, h, .dicT _ _ _ _ _ => by cases h
  | _, _, h, .obj _ _ _ _ => by cases h
  | _, _, h, .ref _ => by cases h
  | _, _, h, .exc _ _ _ => by cases h
theorem RpA.imm : ∀ {ds : List D} {vs : List V}, imms ds = true → RpA K A H vs ds → RpA K B H vs ds
  | _, _, _, .nil => .nil
  | d :: ds, _, h, .cons q t => .cons (Rp.imm (Bool.and_eq_true_iff.mp (show (d.imm && imms ds) = true from h)).1 q) (RpA.imm (Bool.and_eq_true_iff.mp (show (d.imm && imms ds) = true from h)).2 t)
end
def O.imm1 : O → Bool
  | .sh d => d.imm
  | .ol _ ds => imms ds
  | _ => false
def O.imm : O → Bool
  | .oo _ _ fs => fs.all fun p => p.2.imm1
  | o => o.imm1
theorem OwC.imm1 {x : Option V} {F : List Addr} (h : o.imm1 = true) (c : OwC K A H x o F) : OwC K B H x o F := by
  cases c with
  | sh r => exact .sh (r.imm h)
  | ol q z t => exact .ol q z (t.imm h)
  | _ => cases h
theorem OwA.imm1 : ∀ {os : List O} {vs : List (Option V)} {F : List Addr}, os.all O.imm1 = true → OwA K A H vs os F → OwA K B H vs os F
  | _, _, _, _, .nil => .nil
  | o :: os, _, _, h, .cons c t => by
    rw [List.all_cons, Bool.and_eq_true] at h
    exact .cons (c.imm1 h.1) (OwA.imm1 h.2 t)
theorem OwC.imm {x : Option V} {F : List Addr} (h : o.imm = true) (c : OwC K A H x o F) : OwC K B H x o F := by
  cases c with
  | oo q t e => exact .oo q (OwA.imm1 (by unfold O.imm at h; rw [List.all_map]; exact h) t) e
  | sh r => exact OwC.imm1 h (.sh r)
  | ol q z t => exact OwC.imm1 h (.ol q z t)
  | _ => cases h
/-- what was looked at stays; what was made, and can't hold any of it, is kept -/
theorem Ok.lookedO {x : Option V} {ws : List (Option V)} {us : List O} (k : Ok K Y vs os H) (h : o.imm = true) (k2 : Ok K ⟨Y.A, [], H⟩ (x :: ws) (o :: us) H') : Ok K Y (x :: vs) (o :: os) H' := by
  obtain ⟨F, w, nd, b⟩ := k.ex
  obtain ⟨G, g, ng, bg⟩ := k2.ex
  have st : Stp [] H H' := k2.st
  cases g with
  | @cons _ _ _ _ G1 G2 c t =>
    have new : ∀ p ∈ G1, H p = none := fun p hp => (bg p (List.mem_append_left _ hp)).resolve_left (by simp)
    have w2 : OwA K (Y.A ++ (G1 ++ F)) H' vs os F := (w.avoid fun a ha n => by
      simp only [List.mem_append] at ha n
      rcases ha with z | z | z
      · exact absurd (.inl z) n
      · exact new a z
      · exact absurd (.inr z) n).mono st (by simp) (by simp)
    refine ⟨⟨G1 ++ F, OwA.cons (c.imm h) w2, ?_, fun p hp => ?_⟩, k.st.via st (by simp), k.al, k.ba⟩
    · refine List.nodup_append.mpr ⟨(List.nodup_append.mp ng).1, nd, fun a ha b' hb e => ?_⟩
      subst e
      exact w.has a hb (new a ha)
    · rcases List.mem_append.mp hp with z | z
      · exact .inr (k.st.f p (new p z))
      · exact b p z
def vPeekO (t : VT) : VT := fun env Q x => t (env.map O.seen) (fun o _ => o.imm = true ∧ Q o env) (fun c f d _ => flat4 d = true ∧ x c f d env)
theorem ve_peekO {e : Expr} {t : VT} (h : VE X W e t) : VE X W e (vPeekO t) := PE.imp h fun σ H Q ⟨Y, tv, to, env, Qd, xd, l, k, t, hq, hx⟩ =>
  ⟨⟨Y.A, [], H⟩, tv, to.map O.seen, env.map O.seen, _, _, by simpa using l, by have := k.look; simpa using this, t, fun o e v H' q k' => hq _ _ _ _ q.2 (k.lookedO q.1 k'), xOk.look k hx⟩
/-! ### xs[k] = a new list -/
theorem lset_rel {y : V} {G : List Addr} (c : OwC K A H (some y) o G) : ∀ {ds : List D} {xs : List V} {j : Nat}, j < ds.length → RpA K A H xs ds → OwA K A H ((xs.set j y).map some) ((ds.map O.sh).set j o) G
  | d :: ds, _, 0, _, .cons r t => by
    have := OwA.cons c (OwA.sh_all t)
    simpa using this
  | d :: ds, _, j + 1, h, .cons r t => by
    have := OwA.cons (F := []) (OwC.sh r) (lset_rel c (Nat.lt_of_succ_lt_succ h) t)
    simpa using this
theorem Ok.llput {i j : Nat} {p : Addr} {ds : List D} {e : DE} {H1 : Hp} (l : tv.length = to.length) (k1 : Ok K Y (some v :: (tv ++ σ)) (o :: (to ++ e)) H1) (ei : e[i]? = some (.ol p ds)) (hj : j < ds.length) :
    ∃ xs, σ[i]? = some (some (.ref p)) ∧ H1 p = some (.lst xs) ∧ xs.length = ds.length ∧ Ok K Y (tv ++ σ) (to ++ e.set i (.ll p ((ds.map O.sh).set j o))) (upd H1 p (.lst (xs.set j v))) := by
  obtain ⟨F, w, nd, b⟩ := k1.ex
  cases w with
  | @cons _ _ _ _ G1 G2 cv t =>
    obtain ⟨x, F1, F2, F3, f1, f2, c0, up⟩ := t.at_ (i := to.length + i) (ix_app.trans ei)
    rw [← l, ix_app] at f1
    cases c0 with
    | @ol _ xs _ hp hz ra =>
      refine ⟨xs, f1, hp, ra.len, ?_⟩
      subst f2
      obtain ⟨ndG, ndF, dis⟩ := List.nodup_append.mp nd
      have st : Stp [p] H1 (upd H1 p (.lst (xs.set j v))) := .put hp
      have pG : p ∉ G1 := fun z => dis p z p (by simp) rfl
      have inA : ∀ a ∈ [p], a ∈ Y.A ++ (G1 ++ (F1 ++ [p] ++ F3)) := fun a ha => by
        have e : a = p := by simpa using ha
        rw [e]; simp
      have one : ∀ {a : Addr}, a ∈ [p] → a = p := fun ha => by simpa using ha
      have ndF2 := ndF
      rw [List.append_assoc, List.nodup_append] at ndF2
      obtain ⟨n1, n2, n3⟩ := ndF2
      have n2' := List.nodup_cons.mp (show (p :: F3).Nodup from n2)
      have c1 : OwC K (Y.A ++ (G1 ++ (F1 ++ [p] ++ F3))) (upd H1 p (.lst (xs.set j v))) (some (.ref p)) (.ll p ((ds.map O.sh).set j o)) (p :: G1) :=
        .ll upd_same (by simpa using hz) ((lset_rel cv hj ra).mono st inA fun a ha z => pG (one ha ▸ z))
      have w2 := up (A' := Y.A ++ (G1 ++ (F1 ++ [p] ++ F3))) (H' := upd H1 p (.lst (xs.set j v))) (fun {v o E} hE q => q.mono st inA fun a ha hE2 => by
        rw [one ha] at hE2
        rcases List.mem_append.mp (hE p hE2) with z | z
        · exact n3 p z p (by simp) rfl
        · exact n2'.1 z) (v' := some (.ref p)) c1
      have ev : (tv ++ σ).set (to.length + i) (some (.ref p)) = tv ++ σ := by
        rw [← l]
        exact set_self (by rw [ix_app]; exact f1)
      rw [ev, set_app] at w2
      have pm : (F1 ++ (p :: G1) ++ F3).Perm (G1 ++ (F1 ++ [p] ++ F3)) := by
        have h : ((F1 ++ [p]) ++ G1 ++ F3).Perm (G1 ++ (F1 ++ [p]) ++ F3) := (List.perm_append_comm).append_right F3
        simpa using h
      refine ⟨⟨F1 ++ (p :: G1) ++ F3, w2.avoid fun a ha n => absurd ?_ n, pm.nodup_iff.mpr nd, fun a ha => b a (pm.mem_iff.mp ha)⟩, k1.st.via st fun a ha => ?_, k1.al, k1.ba⟩
      · rcases List.mem_append.mp ha with z | z
        · exact List.mem_append_left _ z
        · exact List.mem_append_right _ (pm.mem_iff.mp z)
      · rw [one ha]
        exact b p (by simp)
/-- xs[k] = .., xs owned in slot i, what is stored stays owned -/
def vgLPutO (i : Nat) (tk : VT) : VTG := fun o env Q x => match env[i]? with
  | some (.ol _ _) => tk env (fun o2 e2 => match o2 with
    | .sh (.int z) => (match e2[i]? with
      | some (.ol p l) => ∃ j, L2.ixN l.length z = some j ∧ j < l.length ∧ Q (e2.set i (.ll p ((l.map O.sh).set j o)))
      | _ => False)
    | _ => False) x
  | _ => False
theorem vg_lputO {i : Nat} {oe ie : Expr} {tk : VT} {pos : Pos} (ho : PE X oe (tVar i)) (hk : VE X W ie tk)
    (ha : ∀ v, assign (.Subscript oe ie pos) X.env v = (do
      let ov ← holding [v] (eval oe X.env)
      let iv ← holding [v, ov] (eval ie X.env)
      standAt pos
      holding [v, ov, iv] (setItem ov iv v)
      release [v, ov, iv] []) := by intro _; rfl) : VG X W (.Subscript oe ie pos) [] (vgLPutO i tk) := by
  refine PG.imp (pg_sub ho hk set_list ha) fun v σ H Q ⟨Y, tv, to, env, o, Qd, xd, l, k, t, hq, hx⟩ => ?_
  unfold vgLPutO at t
  split at t
  · rename_i p0 l0 e0
    have s0 : σ[i]? = some (some (.ref p0)) := by
      have := (k.pop.olAt (i := to.length + i) (ix_app.trans e0)).1
      rw [← l, ix_app] at this
      exact this
    refine ⟨_, s0, Y, some v :: tv, o :: to, env, _, xd, by simp [l], k, t, fun o2 e2 y H2 q2 k2 => ?_, (hx σ).push⟩
    split at q2
    · rename_i z
      split at q2
      · rename_i p l' e3
        obtain ⟨j, hj, hl, q2⟩ := q2
        obtain ⟨_, ry⟩ := k2.one
        have ey := ry.int_inv
        subst ey
        obtain ⟨xs, s1, hp, le, k3⟩ := Ok.llput l k2.pop e3 hl
        have ep : p0 = p := by
          rw [s0] at s1
          injection s1 with s1
          injection s1 with s1
          injection s1
        subst ep
        exact ⟨_, xs, z, j, rfl, rfl, hp, by rw [le]; exact hj, hq _ _ _ q2 ⟨rfl, fun _ _ => rfl⟩ k3⟩
      · exact q2.elim
    · exact q2.elim
  · exact t.elim
end
end Hd
namespace Hd
/-! ### set(xs) of whole numbers and texts; how many it has -/
section
open PySem PySem.Spec PyProof.Rows L2 PySem.SeqAt
variable {P : Program} {w : World} {A : Around} {E : Value → Shared → Prop} {s : Shared}
def memK (ks : List Key) (j : Key) : Bool := ks.any fun x => decide (x = j)
theorem memK_iff {ks : List Key} {j : Key} : memK ks j = true ↔ j ∈ ks := by simp [memK]
theorem memK_snoc (ks : List Key) (k j : Key) : memK (ks ++ [k]) j = (memK ks j || decide (j = k)) := by
  simp [memK, List.any_append, eq_comm]
/-- how many unlike ones -/
noncomputable def dcnt (ks : List Key) : Nat := (uniq (ks.map keyD)).length
theorem dcnt_le (ks : List Key) : dcnt ks ≤ ks.length := by
  have := uniq_le (ks.map keyD)
  rwa [List.length_map] at this
theorem dcnt_snoc (ks : List Key) (k : Key) : dcnt (ks ++ [k]) = if memK ks k = true then dcnt ks else dcnt ks + 1 := by
  unfold dcnt
  rw [List.map_append, List.map_cons, List.map_nil, uniq_snoc]
  have e : keyD k ∈ uniq (ks.map keyD) ↔ k ∈ ks := by
    rw [uniq_mem, List.mem_map]
    exact ⟨fun ⟨x, hx, ex⟩ => keyD_inj ex ▸ hx, fun h => ⟨k, h, rfl⟩⟩
  by_cases h : k ∈ ks
  · rw [if_pos (e.mpr h), if_pos (memK_iff.mpr h)]
  · rw [if_neg fun z => h (e.mp z), if_neg fun z => h (memK_iff.mp z), List.length_append]; rfl
theorem upd_keys {I : Addr} {fp wr : List Addr} {G : Array GenState → Array GenState → Prop} {n : Nat} {Pv : Nat → Value → Prop} {St : Nat → Shared → Prop} {R : Result → Shared → Prop}
    (W : WalksS P w A.in1 I fp wr G n Pv St) (S : Addr) (hSf : S ∉ fp) (ks : List Key) (hn : n = ks.length) (hb : ks.length + 1 < scanBound) (val : ∀ i v, Pv i v → ∃ k, ks[i]? = some k ∧ RelV (kV k) v) :
    ∀ (m i : Nat) (s : Shared), n - i = m → i ≤ n → St i s → s.heap.SetOf (mixKind P w) S (memK (ks.take i)) (dcnt (ks.take i)) →
      (∀ s', Moved (S :: wr) G s s' → s'.heap.SetOf (mixKind P w) S (memK ks) (dcnt ks) → R (.ok (.ret .none)) s') → codeAny (model P w) A (.builtin "set.update.loop" ⟨[.ref S, .ref I], []⟩) R s := by
  have off : S ∉ wr := fun h => hSf (W.sub _ h)
  have more : ∀ b ∈ wr, b ∈ S :: wr := fun b hb => List.mem_cons_of_mem _ hb
  intro m
  induction m with
  | zero =>
    intro i s e hi st hS fin
    obtain rfl : i = n := by omega
    refine codeAny_builtin F.entry_set_update_loop ?_
    rw [Around.under_plainId F.plain_set_update_loop _]
    show wpAny _ A.in1 (pyNext (.ref I) >>= _) _ _ s
    refine wpAny_bind (W.done s _ _ st fun s1 mv => ?_)
    rw [List.take_of_length_le (by omega)] at hS
    exact wpAny_pure (fin s1 (mv.mono more) (setOf_at hS fun o z => mv.heap S o off z))
  | succ m ih =>
    intro i s e hi st hS fin
    have hlt : i < n := by omega
    refine codeAny_builtin F.entry_set_update_loop ?_
    rw [Around.under_plainId F.plain_set_update_loop _]
    show wpAny _ A.in1 (pyNext (.ref I) >>= _) _ _ s
    refine wpAny_bind (W.item i s _ _ hlt st fun v s1 pv st1 mv => ?_)
    obtain ⟨k, hk, rk⟩ := val i v pv
    have hS1 := setOf_at (h' := s1.heap) hS fun o z => mv.heap S o off z
    show wpAny _ A.in1 (holding [v] (setAdd S v) >>= _) _ _ s1
    refine wpAny_bind (wpAny_holding ?_)
    unfold setAdd
    refine wpAny_holding (wpAny_bind ((mixKind P w).pyHash (k := k) (kV_is rk) ?_))
    have few : dcnt (ks.take i) + 1 < scanBound := by
      have := dcnt_le (ks.take i)
      rw [List.length_take] at this
      omega
    refine wpAny_setAddHashed_of (knd := mixKind P w) (s := { s1 with toks := s1.toks + 1 }) (kV_is rk) (key_scan rk) hS1 few fun h' sb hS2 => ?_
    have tk : ks.take (i + 1) = ks.take i ++ [k] := by rw [List.take_add_one, hk]; rfl
    have hS3 : h'.SetOf (mixKind P w) S (memK (ks.take (i + 1))) (dcnt (ks.take (i + 1))) := by
      rw [tk, dcnt_snoc]
      have e1 : memK (ks.take i ++ [k]) = fun j => memK (ks.take i) j || decide (j = k) := funext fun j => memK_snoc _ _ _
      rw [e1]
      exact hS2
    refine wpAny_pure ⟨plainId_quiet F.plain_set_update_loop _, ih (i + 1) _ (by omega) hlt (W.frame _ s1 _ _ st1 (Nat.le_succ _) fun b hb o z => ?_) hS3 fun s2 mv2 hS4 => ?_⟩
    · rw [sb.2 b fun h : b = S => hSf (h ▸ hb)]; exact z
    · refine fin s2 (Moved.trans W.gtrans ((mv.mono more).then_heap (Nat.le_succ _) fun b o hb z => ?_) mv2) hS4
      rw [sb.2 b fun h : b = S => hb (by rw [h]; exact List.mem_cons_self)]; exact z
theorem vals_get {vs : List V} {us : List Value} {i : Nat} {u : Value} (r : Vals vs us) (h : us[i]? = some u) : ∃ v, vs[i]? = some v ∧ RelV v u := by
  induction r generalizing i with
  | nil => simp at h
  | @cons v u' vs us r t ih =>
    cases i with
    | zero =>
      obtain rfl : u' = u := by simpa using h
      exact ⟨v, rfl, r⟩
    | succ i => exact ih (by simpa using h)
/-- the set that a call of set begins with -/
def bareSet0 (w : World) : Obj := { cls := .type "set", dict := none, data := .set #[] 0 (.fresh 0 0 (!w.params.followText "set-order")) }
set_option maxHeartbeats 8000000 in
theorem set_of_keys {l : Addr} {items : Array Value} {ks : List Key} {Q : Value → Shared → Prop} (quiet : A.handled = none)
    (at_ : s.heap.IsList l items) (nums : Vals (ks.map kV) items.toList) (few : ks.length + 1 < scanBound)
    (done : ∀ (h' : Heap) (tk : Nat), h'.SetOf (mixKind P w) s.heap.objs.size (memK ks) (dcnt ks) → (∀ b o, s.heap.get? b = some o → h'.get? b = some o) → Q (.ref s.heap.objs.size) { s with heap := h', toks := tk }) :
    wpAny (model P w) A (call (.type "set") [.ref l]) Q E s := by
  have size : items.size = ks.length := by
    have z := nums.length
    rw [List.length_map, Array.length_toList] at z
    exact z.symm
  obtain ⟨c0, tl0, mro0⟩ := F.called_set.mro
  have made0 := F.called_set.made
  have sub0 := F.called_set.sub
  refine wpAny_call (codeAny_of_tree ?_)
  show wpAny _ _ (callAny (.type "set") _) _ _ _
  refine wpAny_pure ⟨Code.quiet_builtin _ (by decide +kernel), codeAny_builtin F.entry_type_call ?_⟩
  rw [Around.under_plain (weight_type_call_type "set" [.ref l] []) rfl]
  have no0 := F.called_set.notType
  have can0 := F.called_set.canCreate
  have call0 := F.typeCall_set_1 (.ref l)
  repeat (any_goals (first | assumption | wp_step))
  refine codeAny_mono (code_set_led1 (.ref l) (E := E) (Q₁ := fun v s1 => v = .ref s.heap.objs.size ∧ s1 = { s with heap := s.heap.push (bareSet0 w) }) ⟨rfl, rfl⟩) fun r s1 hr => ?_
  match r, hr with
  | .error e, hr => exact hr
  | .ok .next, hr => exact hr.elim
  | .ok .brk, hr => exact hr.elim
  | .ok .cont, hr => exact hr.elim
  | .ok (.ret v), hr =>
    obtain ⟨rfl, rfl⟩ := hr
    have setAt : (s.heap.push (bareSet0 w)).get? s.heap.objs.size = some (bareSet0 w) := Heap.get?_push_size _ rfl
    have isSet : Shared.TypeIs { s with heap := s.heap.push (bareSet0 w) } (.ref s.heap.objs.size) "set" := ⟨_, setAt, rfl⟩
    have look0 := F.called_set.init.lookup
    have bind0 := F.called_set.init.bind (.ref s.heap.objs.size)
    repeat (any_goals (first | assumption | wp_step))
    refine codeAny_mono (codeAny_call_builtin (R := wants (fun r s2 => r = .none ∧ ∃ h' tk, s2 = { s with heap := h', toks := tk } ∧ h'.SetOf (mixKind P w) s.heap.objs.size (memK ks) (dcnt ks) ∧ ∀ b o, s.heap.get? b = some o → h'.get? b = some o) E)
      F.called_set.init.plain F.entry_set_init (check_set_init_1 isSet ?_)) fun r2 s2 hr2 => ?_
    · obtain ⟨⟨ocls, odict, odata, oslots⟩, hol, hcl, nl, hdl⟩ := at_
      simp only at hcl hdl
      subst hcl hdl
      have hol1 : (s.heap.push (bareSet0 w)).get? l = some { cls := .type "list", dict := odict, data := .seq items nl, slots := oslots } := Heap.get?_push_of_some _ hol
      have ls := F.sub_list_set
      have lf := F.sub_list_frozenset
      have ld : (Value.type "list" == Value.type "dict") = false := by decide
      have at1 : (s.heap.push (bareSet0 w)).IsList l items := ⟨_, hol1, rfl, nl, rfl⟩
      unfold Builtin.«set.__init__» noKeywords Builtin.Frozenset.updateFrom
      generalize hIt : pyIter = It0
      wp_walk
      subst hIt
      refine wpAny_pyIter_list at1 (wpAny_bind (wpAny_runValue ?_))
      have below : l < s.heap.objs.size := Heap.lt_size hol
      have q3 : A.in1.in1.in1.handled = none := by simp [quiet]
      have ne1 : l ≠ (s.heap.push (bareSet0 w)).objs.size := by
        rw [Heap.size_push]; exact Nat.ne_of_lt (Nat.lt_succ_of_lt below)
      have out1 : s.heap.objs.size ∉ [(s.heap.push (bareSet0 w)).objs.size, l] := by
        rw [Heap.size_push]
        intro z
        simp only [List.mem_cons, List.not_mem_nil, or_false] at z
        rcases z with z | z
        · exact Nat.ne_of_lt (Nat.lt_succ_self _) z
        · exact Nat.ne_of_gt below z
      refine upd_keys ((Walks.list q3 _ l ne1 items).toS) s.heap.objs.size out1 ks size few (fun i v hv => ?_) (items.size - 0) 0 _ (by omega) (Nat.zero_le _)
        ⟨⟨_, Heap.get?_push_size _ rfl, rfl, rfl⟩, at1.push _⟩ (setOf_at (setK_empty P w s.heap) fun o z => Heap.get?_push_of_some _ z) (fun s' hm hS' => ?_)
      · obtain ⟨y, hy, ry⟩ := vals_get nums (show items.toList[i]? = some v by rw [Array.getElem?_toList]; exact hv)
        rw [List.getElem?_map] at hy
        obtain ⟨k, hk, rfl⟩ := Option.map_eq_some_iff.mp hy
        exact ⟨k, hk, ry⟩
      · obtain ⟨h', g2, d', tk', os'⟩ := s'
        cases (show g2 = s.gens from hm.gens)
        cases (show d' = s.drawn from hm.drawn)
        cases (show os' = s.os from hm.os)
        show wpAny _ _ _ _ _ _
        refine wpAny_pure ?_
        show wpAny _ _ (ret Value.none) _ _ _
        refine wpAny_pure ⟨rfl, h', tk', rfl, hS', fun b o e => ?_⟩
        have hb : b < s.heap.objs.size := Heap.lt_size e
        refine hm.heap b o (fun z => ?_) (Heap.get?_push_of_some _ (Heap.get?_push_of_some _ e))
        rw [Heap.size_push] at z
        simp only [List.mem_cons, List.not_mem_nil, or_false] at z
        rcases z with z | z
        · exact Nat.ne_of_lt hb z
        · exact Nat.ne_of_lt (Nat.lt_succ_of_lt hb) z
    · match r2, hr2 with
      | .error e, hr2 => exact hr2
      | .ok .next, hr2 => exact hr2.elim
      | .ok .brk, hr2 => exact hr2.elim
      | .ok .cont, hr2 => exact hr2.elim
      | .ok (.ret v2), hr2 =>
        obtain ⟨rfl, h', tk, rfl, hS', hk'⟩ := hr2
        repeat (any_goals (first | assumption | wp_step))
        exact done _ _ hS' hk'
end
end Hd
namespace Hd
/-! ### set(xs) of a list of whole numbers, sorted(set(..)) -/
section
open PySem PySem.Spec PyProof.Rows L2 PySem.SeqAt
/-- the set that a call of set begins with -/
def bareSet (w : World) : Obj := { cls := .type "set", dict := none, data := .set #[] 0 (.fresh 0 0 (!w.params.followText "set-order")) }
set_option maxHeartbeats 8000000 in
theorem set_of_list {P : Program} {w : World} {A : Around} {E : Value → Shared → Prop} {s : Shared} {l : Addr} {items : Array Value} {ns : List Int} {Q : Value → Shared → Prop} (quiet : A.handled = none)
    (at_ : s.heap.IsList l items) (nums : IntsAre items.toList ns) (few : ns.length + 1 < scanBound)
    (done : ∀ (h' : Heap) (tk c : Nat), SetR w h' s.heap.objs.size (fun j => decide (j ∈ ns)) c → c ≤ ns.length → (∀ b o, s.heap.get? b = some o → h'.get? b = some o) → Q (.ref s.heap.objs.size) { s with heap := h', toks := tk }) :
    wpAny (model P w) A (call (.type "set") [.ref l]) Q E s := by
  have size : items.size = ns.length := by
    have z := IntsAre.length nums
    rwa [Array.length_toList] at z
  obtain ⟨c0, tl0, mro0⟩ := F.called_set.mro
  have made0 := F.called_set.made
  have sub0 := F.called_set.sub
  refine wpAny_call (codeAny_of_tree ?_)
  show wpAny _ _ (callAny (.type "set") _) _ _ _
  refine wpAny_pure ⟨Code.quiet_builtin _ (by decide +kernel), codeAny_builtin F.entry_type_call ?_⟩
  rw [Around.under_plain (weight_type_call_type "set" [.ref l] []) rfl]
  have no0 := F.called_set.notType
  have can0 := F.called_set.canCreate
  have call0 := F.typeCall_set_1 (.ref l)
  repeat (any_goals (first | assumption | wp_step))
  refine codeAny_mono (code_set_led1 (.ref l) (E := E) (Q₁ := fun v s1 => v = .ref s.heap.objs.size ∧ s1 = { s with heap := s.heap.push (bareSet w) }) ⟨rfl, rfl⟩) fun r s1 hr => ?_
  match r, hr with
  | .error e, hr => exact hr
  | .ok .next, hr => exact hr.elim
  | .ok .brk, hr => exact hr.elim
  | .ok .cont, hr => exact hr.elim
  | .ok (.ret v), hr =>
    obtain ⟨rfl, rfl⟩ := hr
    have setAt : (s.heap.push (bareSet w)).get? s.heap.objs.size = some (bareSet w) := Heap.get?_push_size _ rfl
    have isSet : Shared.TypeIs { s with heap := s.heap.push (bareSet w) } (.ref s.heap.objs.size) "set" := ⟨_, setAt, rfl⟩
    have look0 := F.called_set.init.lookup
    have bind0 := F.called_set.init.bind (.ref s.heap.objs.size)
    repeat (any_goals (first | assumption | wp_step))
    refine codeAny_mono (codeAny_call_builtin (R := wants (fun r s2 => r = .none ∧ ∃ h' tk c, s2 = { s with heap := h', toks := tk } ∧ SetR w h' s.heap.objs.size (fun j => decide (j ∈ ns)) c ∧ c ≤ ns.length ∧ ∀ b o, s.heap.get? b = some o → h'.get? b = some o) E)
      F.called_set.init.plain F.entry_set_init (check_set_init_1 isSet ?_)) fun r2 s2 hr2 => ?_
    · obtain ⟨⟨ocls, odict, odata, oslots⟩, hol, hcl, nl, hdl⟩ := at_
      simp only at hcl hdl
      subst hcl hdl
      have hol1 : (s.heap.push (bareSet w)).get? l = some { cls := .type "list", dict := odict, data := .seq items nl, slots := oslots } := Heap.get?_push_of_some _ hol
      have ls := F.sub_list_set
      have lf := F.sub_list_frozenset
      have ld : (Value.type "list" == Value.type "dict") = false := by decide
      have at1 : (s.heap.push (bareSet w)).IsList l items := ⟨_, hol1, rfl, nl, rfl⟩
      unfold Builtin.«set.__init__» noKeywords Builtin.Frozenset.updateFrom
      generalize hIt : pyIter = It0
      wp_walk
      subst hIt
      refine wpAny_pyIter_list at1 (wpAny_bind (wpAny_runValue ?_))
      have below : l < s.heap.objs.size := Heap.lt_size hol
      have q3 : A.in1.in1.in1.handled = none := by simp [quiet]
      have ne1 : l ≠ (s.heap.push (bareSet w)).objs.size := by
        rw [Heap.size_push]; exact Nat.ne_of_lt (Nat.lt_succ_of_lt below)
      have out1 : s.heap.objs.size ∉ [(s.heap.push (bareSet w)).objs.size, l] := by
        rw [Heap.size_push]
        intro z
        simp only [List.mem_cons, List.not_mem_nil, or_false] at z
        rcases z with z | z
        · exact Nat.ne_of_lt (Nat.lt_succ_self _) z
        · exact Nat.ne_of_gt below z
      refine set_update_ints ((Walks.list q3 _ l ne1 items).toS) s.heap.objs.size out1 ns size few (fun i v hv => ?_) (items.size - 0) 0 _ (by omega) (Nat.zero_le _)
        ⟨⟨_, Heap.get?_push_size _ rfl, rfl, rfl⟩, at1.push _⟩ ⟨0, Nat.le_refl 0, setR_new_at (Heap.get?_push_of_some _ setAt)⟩ (fun s' c' hm hc' hS' => ?_)
      · have hi : i < ns.length := by rw [← size]; exact (Array.getElem?_eq_some_iff.mp hv).1
        obtain ⟨t, e⟩ := IntsAre.int_at nums i v (by rw [Array.getElem?_toList]; exact hv)
        refine ⟨ns[i], t, List.getElem?_eq_getElem hi, ?_⟩
        rw [e, List.getD_eq_getElem?_getD, List.getElem?_eq_getElem hi] <;> rfl
      · obtain ⟨h', g2, d', tk', os'⟩ := s'
        cases (show g2 = s.gens from hm.gens)
        cases (show d' = s.drawn from hm.drawn)
        cases (show os' = s.os from hm.os)
        show wpAny _ _ _ _ _ _
        refine wpAny_pure ?_
        show wpAny _ _ (ret Value.none) _ _ _
        rw [size] at hc'
        refine wpAny_pure ⟨rfl, h', tk', c', rfl, hS', hc', fun b o e => ?_⟩
        have hb : b < s.heap.objs.size := Heap.lt_size e
        refine hm.heap b o (fun z => ?_) (Heap.get?_push_of_some _ (Heap.get?_push_of_some _ e))
        rw [Heap.size_push] at z
        simp only [List.mem_cons, List.not_mem_nil, or_false] at z
        rcases z with z | z
        · exact Nat.ne_of_lt hb z
        · exact Nat.ne_of_lt (Nat.lt_succ_of_lt hb) z
    · match r2, hr2 with
      | .error e, hr2 => exact hr2
      | .ok .next, hr2 => exact hr2.elim
      | .ok .brk, hr2 => exact hr2.elim
      | .ok .cont, hr2 => exact hr2.elim
      | .ok (.ret v2), hr2 =>
        obtain ⟨rfl, h', tk, c', rfl, hS', hc', hk'⟩ := hr2
        repeat (any_goals (first | assumption | wp_step))
        exact done _ _ _ hS' hc' hk'
/-- set(xs), xs a list of whole numbers -/
theorem call_setL {X : Cx} (hc : X.calm = true) : CallR X (.type "set") (fun xs H Q => ∃ (l : Addr) (ns : List Int), xs = [.ref l] ∧ SqL X.K H l (ns.map V.int) ∧ ns.length < 60 ∧ ∀ p H' c, c ≤ ns.length → Nw H H' p (SetO X.w p (fun j => decide (j ∈ ns)) c) → Q (.ref p) H') := by
  intro pins s σ H xs us Q I r h
  obtain ⟨l, ns, rfl, hl, few, q⟩ := h
  obtain ⟨u, rfl, rx⟩ := vals1 r
  cases rx
  obtain ⟨its, rv, pl, _⟩ := I.list hl
  refine set_of_list (I.ok.hd hc) pl.isList (by simpa using intsAre_of rv) (by have : scanBound = scanBound := rfl; unfold scanBound; omega) fun h' tk c hS hc' k => ?_
  have hf : H s.heap.objs.size = none := I.hok.fresh (Nat.le_refl _)
  exact ⟨.ref s.heap.objs.size, _, I.laid (t' := tk) k (Nat.le_refl _) (setO_new hS), rfl, q _ _ c hc' (.mk' hf)⟩
end
end Hd
namespace Hd
/-! ### the value layer: len(set(xs)), sorted(set(xs)) -/
section
open PySem PySem.Spec PyProof.Rows L2
variable {K : PySem.W.Frag} {W : WX} {H H' : Hp} {Y : Fx} {vs tv : List (Option V)} {os to env : List O} {v : V} {d : D} {o : O} {σ : L2.St} {X : Cx}
theorem call_setK (hc : X.calm = true) : CallR X (.type "set") (fun xs H Q => ∃ (l : Addr) (ks : List Key), xs = [.ref l] ∧ SqL X.K H l (ks.map kV) ∧ ks.length < 4000 ∧ ∀ p H', Nw H H' p (SetK X.prog X.w p (memK ks) (dcnt ks)) → Q (.ref p) H') := by
  intro pins s σ H xs us Q I r ⟨l, ks, e, hl, few, q⟩
  subst e
  obtain ⟨u, rfl, rx⟩ := vals1 r
  cases rx
  obtain ⟨its, rv, pl, _⟩ := I.list hl
  refine set_of_keys (I.ok.hd hc) pl.isList (by simpa using rv) (by unfold scanBound; omega) fun h' tk hS k => ?_
  have hf : H s.heap.objs.size = none := I.hok.fresh (Nat.le_refl _)
  exact ⟨.ref s.heap.objs.size, _, I.laid (t' := tk) k (Nat.le_refl _) (setK_new hS), rfl, q _ _ (.mk' hf)⟩
theorem RpA.keys {A : List Addr} : ∀ {ks : List Key} {xs : List V}, RpA K A H xs (ks.map keyD) → xs = ks.map kV
  | [], _, r => by cases r; rfl
  | .inl i :: ks, _, r => by
    rw [List.map_cons] at r
    cases r with
    | cons h t =>
      have e : _ = V.int i := Rp.int_inv h
      rw [RpA.keys t, e]; rfl
  | .inr z :: ks, _, r => by
    rw [List.map_cons] at r
    cases r with
    | cons h t =>
      have e : _ = V.str z := Rp.str_inv h
      rw [RpA.keys t, e]; rfl
noncomputable def vLenSet (ta : VTA) : VT := fun env Q x => ta env (fun ds e => match ds with
  | [.lst xs] => ∃ ks : List Key, xs = ks.map keyD ∧ ks.length < 4000 ∧ Q (.sh (.int (uniq xs).length)) e
  | _ => False) x
theorem ve_lenSet {e : Expr} {ta : VTA} {p p2 pos pos2 : Pos} (hc : X.calm = true) (hg : Gl X "len") (hm : X.mg "len" = none) (hg2 : Gl X "set") (hm2 : X.mg "set" = none) (ha : VA X W [e] 1 ta)
    (he : starEach [e] X.env = (false, eval e X.env) :: starEach [] X.env := by rfl) (hpl : (backTo pos2 (starEach [] X.env)).any (·.1) = false := by rfl)
    (he2 : starEach [.Call (.Name "set" p2) [e] [] pos2] X.env = (false, eval (.Call (.Name "set" p2) [e] [] pos2) X.env) :: starEach [] X.env := by rfl) (hpl2 : (backTo pos (starEach [] X.env)).any (·.1) = false := by rfl) :
    VE X W (.Call (.Name "len" p) [.Call (.Name "set" p2) [e] [] pos2] [] pos) (vLenSet ta) := by
  refine PE.imp (pe_callB call_lenSk hg hm (by decide +kernel) (pa_cons (pe_callTy (call_setK hc) hg2 hm2 (by decide +kernel) ha (by decide) (by decide) he hpl) pa_nil he2) (by decide) (by decide) he2 hpl2) fun σ H Q ⟨Y, tv, to, env, Qd, xd, l, k, t, hq, hx⟩ => ?_
  refine ⟨Y, tv, to, env, _, xd, l, k, t, fun ds e vs H1 q l1 l2 k1 => ?_, hx⟩
  split at q
  · rename_i xs
    obtain ⟨ks, ex, few, q⟩ := q
    subst ex
    match vs, l1 with
    | [v], _ =>
      have k2 : Ok X.K Y (some v :: (tv ++ σ)) (.sh (.lst (ks.map keyD)) :: (to ++ e)) H1 := k1
      obtain ⟨A, r⟩ := k2.one
      cases r with
      | @lst a xs _ hl hz ra =>
        have ex := ra.keys
        subst ex
        refine ⟨a, ks, rfl, hl.sq, few, fun p H' n => ⟨p, _, _, rfl, n.a, hq _ _ _ _ q ?_⟩⟩
        exact (k2.pop.nw n).pushR fun F w => .int _
  · exact q.elim
def vSortSet (ta : VTA) : VT := fun env Q x => ta env (fun ds e => match ds with
  | [.lst xs] => ∃ ns : List Int, xs = ns.map D.int ∧ ns.length < 60 ∧ ∀ (p : Addr) (ms : List Int), ms.Pairwise (· < ·) → (∀ k, k ∈ ms ↔ k ∈ ns) → Q (.ol p (ms.map D.int)) e
  | _ => False) x
theorem ve_sortSet {e : Expr} {ta : VTA} {p p2 pos pos2 : Pos} (hc : X.calm = true) (hg : Gl X "sorted") (hm : X.mg "sorted" = none) (hg2 : Gl X "set") (hm2 : X.mg "set" = none) (ha : VA X W [e] 1 ta)
    (he : starEach [e] X.env = (false, eval e X.env) :: starEach [] X.env := by rfl) (hpl : (backTo pos2 (starEach [] X.env)).any (·.1) = false := by rfl)
    (he2 : starEach [.Call (.Name "set" p2) [e] [] pos2] X.env = (false, eval (.Call (.Name "set" p2) [e] [] pos2) X.env) :: starEach [] X.env := by rfl) (hpl2 : (backTo pos (starEach [] X.env)).any (·.1) = false := by rfl) :
    VE X W (.Call (.Name "sorted" p) [.Call (.Name "set" p2) [e] [] pos2] [] pos) (vSortSet ta) := by
  refine PE.imp (pe_callB (cr_sortedSet hc) hg hm (by decide +kernel) (pa_cons (pe_callTy (call_setL hc) hg2 hm2 (by decide +kernel) ha (by decide) (by decide) he hpl) pa_nil he2) (by decide) (by decide) he2 hpl2) fun σ H Q ⟨Y, tv, to, env, Qd, xd, l, k, t, hq, hx⟩ => ?_
  refine ⟨Y, tv, to, env, _, xd, l, k, t, fun ds e vs H1 q l1 l2 k1 => ?_, hx⟩
  split at q
  · rename_i xs
    obtain ⟨ns, ex, few, q⟩ := q
    subst ex
    match vs, l1 with
    | [v], _ =>
      have k2 : Ok X.K Y (some v :: (tv ++ σ)) (.sh (.lst (ns.map D.int)) :: (to ++ e)) H1 := k1
      obtain ⟨A, r⟩ := k2.one
      cases r with
      | @lst a xs _ hl hz ra =>
        have ex := ra.ints (xs := [])
        subst ex
        refine ⟨a, ns, rfl, hl.sq, few, fun p H' c hc n => ⟨p, _, c, rfl, n.a, by omega, fun ms p2 hs hm hl2 hp2 => hq _ _ _ _ (q p2 ms hs fun k => by rw [hm k]; simp) ?_⟩⟩
        have k3 := k2.pop.nw n
        have k4 : Ok X.K Y ((ms.map V.int).map some ++ (tv ++ σ)) ((ms.map D.int).map O.sh ++ (to ++ e)) H' := by
          obtain ⟨F, w, nd, b⟩ := k3.ex
          exact ⟨⟨_, (OwA.sh_all (RpA.ofInts ms)).app w, nd, b⟩, k3.st, k3.al, k3.ba⟩
        exact k4.lst (by simp) (by rw [List.length_map, sizeLine_eq]; omega) (.mk' hp2)
  · exact q.elim
end
end Hd
namespace Hd
/-! ### the value layer: list(xs) of an owned list that stays owned -/
section
open PySem PySem.Spec PyProof.Rows L2
variable {K : PySem.W.Frag} {W : WX} {H H' : Hp} {Y : Fx} {vs tv : List (Option V)} {os to env : List O} {v : V} {d : D} {o : O} {σ : L2.St} {X : Cx}
def vListL (i : Nat) : VT := fun env Q _ => match env[i]? with
  | some (.ol _ l) => ∀ p, Q (.ol p l) env
  | _ => False
theorem ve_listL {i : Nat} {e : Expr} {p pos : Pos} (hg : Gl X "list") (hm : X.mg "list" = none) (ho : PE X e (tVar i))
    (he : starEach [e] X.env = (false, eval e X.env) :: starEach [] X.env := by rfl) (hpl : (backTo pos (starEach [] X.env)).any (·.1) = false := by rfl) : VE X W (.Call (.Name "list" p) [e] [] pos) (vListL i) := by
  refine PE.imp (pe_callTy call_listN hg hm (by decide +kernel) (pa_cons ho pa_nil he) (by decide) (by decide) he hpl) fun σ H Q ⟨Y, tv, to, env, Qd, xd, l, k, t, hq, hx⟩ => ?_
  unfold vListL at t
  split at t
  · rename_i p0 ds e0
    obtain ⟨F, w, nd, b⟩ := k.ex
    obtain ⟨x, F1, F2, F3, g1, g2, c, _⟩ := w.at_ (i := to.length + i) (ix_app.trans e0)
    rw [← l, ix_app] at g1
    cases c with
    | @ol _ xs _ hp hz ra =>
      refine ⟨_, g1, _, xs, rfl, .inl (SqL.of hp), fun q H2 n => hq _ _ _ _ (t q) ?_⟩
      exact k.ownF w nd b n fun A nx => .ol n.a hz ((ra.avoid nx).mono (n.s _))
  · exact t.elim
end
end Hd
namespace Hd
/-! ### plain laws: loops, and how the mirrors are unfolded -/
section
open PySem PySem.Spec PyProof.Rows L2
theorem vSeq_i {t u : VTS} {env : DE} {E : VX} (h : ∀ N : DE → Prop, (∀ e, u e E → N e) → t env { nx := N, rt := E.rt, bk := E.bk, ct := E.ct, xx := E.xx }) : vSeq t u env E := h _ fun _ q => q
theorem vForL_inv {g : VTG} {b : VTS} {E : VX} (J : Nat → DE → Prop) : ∀ {ds : List D} {e : DE}, (∀ i d, ds[i]? = some d → ∀ e, J i e → ∀ Nx : DE → Prop, (∀ e', J (i + 1) e' → Nx e') →
      g (.sh d) e (fun e1 => b e1 { nx := Nx, rt := E.rt, bk := E.nx, ct := Nx, xx := E.xx }) E.xx) → J 0 e → (∀ e, J ds.length e → E.nx e) → vForL g b ds e E
  | [], e, _, h0, hn => by
    unfold vForL
    exact hn e h0
  | d :: ds, e, h, h0, hn => by
    unfold vForL
    refine h 0 d rfl e h0 _ fun e' h1 => ?_
    exact vForL_inv (fun i => J (i + 1)) (fun i d hd => h (i + 1) d (by simpa using hd)) h1 hn
theorem vLcL_inv {ns : List Nat} {g : VTG} {tt : VTT} {te : VT} {Q : List D → DE → Prop} (J : Nat → List D → DE → Prop) : ∀ {ds acc : List D} {e : DE}, (∀ i d, ds[i]? = some d → ∀ acc e, J i acc e → ∀ Nx : List D → DE → Prop, (∀ acc' e', J (i + 1) acc' e' → Nx acc' e') →
      g (.sh d) e (fun e1 => tt e1 (fun b e2 => if b = true then te e2 (fun o e3 => o.fz fun d' => Nx (acc ++ [d']) (wipeE e3 ns)) x0 else Nx acc (wipeE e2 ns)) x0) x0) → J 0 acc e → (∀ acc e, J ds.length acc e → Q acc e) → vLcL ns g tt te ds acc e Q
  | [], acc, e, _, h0, hn => by
    unfold vLcL
    exact hn acc e h0
  | d :: ds, acc, e, h, h0, hn => by
    unfold vLcL
    refine h 0 d rfl acc e h0 (fun acc e => vLcL ns g tt te ds acc e Q) fun acc' e' h1 => ?_
    exact vLcL_inv (fun i => J (i + 1)) (fun i d hd => h (i + 1) d (by simpa using hd)) h1 hn
/-- a comprehension that changes nothing: a map -/
theorem vLcL_map {α : Type} {ns : List Nat} {g : VTG} {tt : VTT} {te : VT} {Q : List D → DE → Prop} {E : DE} (s : α → D) (f : α → D) : ∀ {xs : List α} {acc : List D}, (∀ x ∈ xs, ∀ acc, ∀ Nx : List D → DE → Prop, Nx (acc ++ [f x]) E →
      g (.sh (s x)) E (fun e1 => tt e1 (fun b e2 => if b = true then te e2 (fun o e3 => o.fz fun d' => Nx (acc ++ [d']) (wipeE e3 ns)) x0 else Nx acc (wipeE e2 ns)) x0) x0) → Q (acc ++ xs.map f) E → vLcL ns g tt te (xs.map s) acc E Q
  | [], acc, _, hn => by
    unfold vLcL
    simpa using hn
  | x :: xs, acc, h, hn => by
    rw [List.map_cons]
    unfold vLcL
    refine h x (List.mem_cons_self ..) acc (fun acc e => vLcL ns g tt te (xs.map s) acc e Q) ?_
    exact vLcL_map s f (fun y hy => h y (List.mem_cons_of_mem _ hy)) (by simpa using hn)
/-- with a test -/
theorem vLcL_fmap {α : Type} {ns : List Nat} {g : VTG} {tt : VTT} {te : VT} {Q : List D → DE → Prop} {E : DE} (s : α → D) (f : α → D) (p : α → Bool) : ∀ {xs : List α} {acc : List D}, (∀ x ∈ xs, ∀ acc, ∀ Nx : List D → DE → Prop, Nx (if p x = true then acc ++ [f x] else acc) E →
      g (.sh (s x)) E (fun e1 => tt e1 (fun b e2 => if b = true then te e2 (fun o e3 => o.fz fun d' => Nx (acc ++ [d']) (wipeE e3 ns)) x0 else Nx acc (wipeE e2 ns)) x0) x0) → Q (acc ++ (xs.filter p).map f) E → vLcL ns g tt te (xs.map s) acc E Q
  | [], acc, _, hn => by
    unfold vLcL
    simpa using hn
  | x :: xs, acc, h, hn => by
    rw [List.map_cons]
    unfold vLcL
    refine h x (List.mem_cons_self ..) acc (fun acc e => vLcL ns g tt te (xs.map s) acc e Q) ?_
    refine vLcL_fmap s f p (fun y hy => h y (List.mem_cons_of_mem _ hy)) ?_
    rw [List.filter_cons] at hn
    cases hp : p x with
    | true => rw [hp] at hn; simpa using hn
    | false => rw [hp] at hn; simpa using hn
theorem vSkL_map {α : Type} {ns : List Nat} {g : VTG} {tt : VTT} {te : VT} {Q : List D → DE → Prop} {E : DE} (s : α → D) (f : α → D) : ∀ {xs : List α} {acc : List D}, (∀ x ∈ xs, ∀ acc : List D, acc.length < 4000 → ∀ Nx : List D → DE → Prop, Nx (acc ++ [f x]) E →
      g (.sh (s x)) E (fun e1 => tt e1 (fun b e2 => if b = true then te e2 (fun o e3 => o.fz fun d' => keyOk d' = true ∧ tupKey d' = false ∧ acc.length < 4000 ∧ Nx (acc ++ [d']) (wipeE e3 ns)) x0 else Nx acc (wipeE e2 ns)) x0) x0) → acc.length + xs.length ≤ 4000 → Q (acc ++ xs.map f) E → vSkL ns g tt te (xs.map s) acc E Q
  | [], acc, _, _, hn => by
    unfold vSkL
    simpa using hn
  | x :: xs, acc, h, hl, hn => by
    rw [List.length_cons] at hl
    rw [List.map_cons]
    unfold vSkL
    refine h x (List.mem_cons_self ..) acc (by omega) (fun acc e => vSkL ns g tt te (xs.map s) acc e Q) ?_
    exact vSkL_map s f (fun y hy => h y (List.mem_cons_of_mem _ hy)) (by simp; omega) (by simpa using hn)
/-- a for that changes nothing -/
theorem vForL_same {α : Type} {g : VTG} {b : VTS} {E : VX} {e0 : DE} (s : α → D) : ∀ {xs : List α}, (∀ x ∈ xs, ∀ Nx : DE → Prop, Nx e0 →
      g (.sh (s x)) e0 (fun e1 => b e1 { nx := Nx, rt := E.rt, bk := E.nx, ct := Nx, xx := E.xx }) E.xx) → E.nx e0 → vForL g b (xs.map s) e0 E
  | [], _, hn => by
    unfold vForL
    exact hn
  | x :: xs, h, hn => by
    rw [List.map_cons]
    unfold vForL
    refine h x (List.mem_cons_self ..) (fun e => vForL g b (xs.map s) e E) ?_
    exact vForL_same s (fun y hy => h y (List.mem_cons_of_mem _ hy)) hn
/-- two fors -/
theorem vLc2L_map {α : Type} {ns ns1 : List Nat} {g : VTG} {tt : VTT} {ti1 : VTA} {g1 : VTG} {tt1 : VTT} {te : VT} {Q : List D → DE → Prop} {E : DE} (s : α → D) (f : α → List D) : ∀ {xs : List α} {acc : List D}, (∀ x ∈ xs, ∀ acc : List D, acc.length + (f x).length ≤ sizeLine → ∀ Nx : List D → DE → Prop, Nx (acc ++ f x) E →
      g (.sh (s x)) E (fun e1 => tt e1 (fun b e2 => if b = true then ti1 e2 (fun ds1 e3 => acc.length + ds1.length ≤ sizeLine ∧ vLcL ns1 g1 tt1 te ds1 acc (wipeE e3 ns1) fun acc' e4 => Nx acc' (wipeE e4 ns)) x0 else Nx acc (wipeE e2 ns)) x0) x0) → acc.length + (xs.flatMap f).length ≤ sizeLine → Q (acc ++ xs.flatMap f) E → vLc2L ns ns1 g tt ti1 g1 tt1 te (xs.map s) acc E Q
  | [], acc, _, _, hn => by
    unfold vLc2L
    simpa using hn
  | x :: xs, acc, h, hl, hn => by
    rw [List.flatMap_cons, List.length_append] at hl
    rw [List.map_cons]
    unfold vLc2L
    refine h x (List.mem_cons_self ..) acc (by omega) (fun acc e => vLc2L ns ns1 g tt ti1 g1 tt1 te (xs.map s) acc e Q) ?_
    refine vLc2L_map s f (fun y hy => h y (List.mem_cons_of_mem _ hy)) (by rw [List.length_append]; omega) ?_
    rw [List.flatMap_cons, ← List.append_assoc] at hn
    exact hn
theorem enumD_map (ds : List D) : enumD ds = (List.range ds.length).map fun (i : Nat) => D.tup [.int i, ds.getD i .non] := by
  refine List.ext_getElem? fun i => ?_
  rw [List.getElem?_map]
  cases h : ds[i]? with
  | none =>
    have hl := List.getElem?_eq_none_iff.mp h
    rw [List.getElem?_eq_none_iff.mpr (by rw [enumD_len]; exact hl), List.getElem?_eq_none_iff.mpr (by simpa using hl)]; rfl
  | some d =>
    obtain ⟨hl, _⟩ := List.getElem?_eq_some_iff.mp h
    unfold enumD
    rw [List.getElem?_zipWith, h]
    simp [hl]
    simpa using (List.getElem?_eq_some_iff.mp h).2.symm
theorem dGet_hit {k : D} {v : D} {r : List (D × D)} : dGet ((k, v) :: r) k = some v := by simp [dGet]
theorem dGet_skip {k k' : Str} {v : D} {r : List (D × D)} (h : k ≠ k') : dGet ((.str k, v) :: r) (.str k') = dGet r (.str k') := by simp [dGet, List.find?_cons, h]
theorem gDG_str {es : List (D × D)} {k : Str} {d : D} {Q : O → Prop} (h : dGet es (.str k) = some d) (q : Q (.sh d)) : gDG (.dic false es) (.str k) Q := by
  refine ⟨rfl, rfl, ?_⟩
  rw [h]; exact q
/-- over 0, 1, .. -/
theorem rng_get {n i : Nat} {d : D} (h : ((List.range n).map fun (i : Nat) => D.int i)[i]? = some d) : i < n ∧ d = .int i := by
  rw [List.getElem?_map] at h
  by_cases hi : i < n
  · rw [List.getElem?_range hi] at h
    exact ⟨hi, by simpa using h.symm⟩
  · rw [List.getElem?_eq_none (by simpa using hi)] at h
    cases h
theorem map_get {α : Type} {s : α → D} {xs : List α} {i : Nat} {d : D} (h : (xs.map s)[i]? = some d) : ∃ x, xs[i]? = some x ∧ d = s x := by
  rw [List.getElem?_map] at h
  cases e : xs[i]? with
  | none => rw [e] at h; cases h
  | some y => rw [e] at h; exact ⟨y, rfl, by simpa using h.symm⟩
theorem gAll_map {α : Type} {any : Bool} {xs : List α} {f : α → Bool} {Q : O → Prop} (h : Q (.sh (.bl (if any then xs.any f else xs.all f)))) : gAll any [.lst (xs.map fun x => D.bl (f x))] Q := by
  refine ⟨xs.map f, by simp [Function.comp_def], ?_⟩
  have e1 : (xs.map f).any id = xs.any f := by simp
  have e2 : (xs.map f).all id = xs.all f := by simp
  rw [e1, e2]; exact h
theorem eqD_int {i j : Int} : eqD (.int i) (.int j) = decide (i = j) := by simp [eqD, D.py, PyData.eqv]; rw [Bool.beq_eq_decide_eq]
theorem eqD_str {i j : Str} : eqD (.str i) (.str j) = decide (i = j) := by simp [eqD, D.py, PyData.eqv]; rw [Bool.beq_eq_decide_eq]
theorem atI_nat {α : Type} {xs : List α} {i : Nat} {d : α} (h : xs[i]? = some d) : atI xs (i : Int) = some d := atI_int (by omega) (by simpa using h)
theorem gIx_tup {xs : List D} {i : Int} {d : D} {Q : O → Prop} (h : atI xs i = some d) (q : Q (.sh d)) : gIx (.tup xs) (.int i) Q := by
  simp only [gIx, h]; exact q
theorem gIx_lst {xs : List D} {i : Int} {d : D} {Q : O → Prop} (h : atI xs i = some d) (q : Q (.sh d)) : gIx (.lst xs) (.int i) Q := by
  simp only [gIx, h]; exact q
end
end Hd
namespace Hd
/-! ### names and lines: plain facts -/
section
open PySem PySem.Spec PyProof.Rows L2 TL
abbrev lets : Str := "abcdefghijklmnopqrstuvwxyz"
def signsOk (z : Str) : Bool := z.cps.toList.all fun c => decide (c ∈ lets.cps.toList)
def isNm (z : Str) : Bool := decide (1 ≤ z.length) && (decide (z.length ≤ 8) && signsOk z)
structure Places (ps : List (Str × Int)) : Prop where
  l1 : 1 ≤ ps.length
  l8 : ps.length ≤ 8
  nm : ∀ p ∈ ps, isNm p.1 = true ∧ 1 ≤ p.2 ∧ p.2 ≤ 3
  nd : (ps.map (·.1)).Nodup
structure Rail (ns : List Str) (r : Str × Str × Int) : Prop where
  n1 : isNm r.1 = true
  n2 : isNm r.2.1 = true
  ne : r.1 ≠ r.2.1
  m1 : r.1 ∈ ns
  m2 : r.2.1 ∈ ns
  lo : 1 ≤ r.2.2
  hi : r.2.2 ≤ 99
structure Rails (ns : List Str) (rs : List (Str × Str × Int)) : Prop where
  l : rs.length ≤ 12
  r : ∀ r ∈ rs, Rail ns r
structure LineOk (ps : List (Str × Int)) (rs : List (Str × Str × Int)) (g s a : Int) : Prop where
  p : Places ps
  r : Rails (ps.map (·.1)) rs
  g : 1 ≤ g ∧ g ≤ 9
  s : 1 ≤ s ∧ s ≤ 9
  a : 0 ≤ a ∧ a ≤ 9
theorem sh_str {n : Nat} {z : Str} (h : PyData.strOk z = true) : Sh n (.str z) := ⟨by simp only [PyData.canLay0, h], by simp only [PyData.depth]; exact Nat.zero_le _⟩
theorem lets_small : ∀ c ∈ lets.cps.toList, c < 0x110000 := by decide +kernel
theorem nm_ok {z : Str} (h : isNm z = true) : PyData.strOk z = true := by
  simp only [isNm, Bool.and_eq_true, signsOk] at h
  unfold PyData.strOk
  rw [← Array.all_toList, List.all_eq_true]
  intro c hc
  exact decide_eq_true (lets_small c (of_decide_eq_true (List.all_eq_true.mp h.2.2 c hc)))
theorem nm_len {z : Str} (h : isNm z = true) : 1 ≤ z.length ∧ z.length ≤ 8 := by
  simp only [isNm, Bool.and_eq_true, decide_eq_true_eq] at h
  exact ⟨h.1, h.2.1⟩
theorem nm_small {z : Str} (h : isNm z = true) : z.length ≤ sizeLine := by
  have := nm_len h
  rw [sizeLine_eq]; omega
abbrev sOf (cs : List Nat) : Str := ⟨cs.toArray⟩
theorem sOf_app (a b : List Nat) : sOf a ++ sOf b = sOf (a ++ b) := by
  show (⟨a.toArray ++ b.toArray⟩ : Str) = ⟨(a ++ b).toArray⟩
  rw [List.append_toArray]
theorem sOf_len (a : List Nat) : (sOf a).length = a.length := by
  show a.toArray.size = _
  simp
theorem sOf_list (a : List Nat) : (sOf a).cps.toList = a := by simp [sOf]
theorem cutS_to {cs : List Nat} {i : Int} (h : 0 ≤ i) : cutS (sOf cs) none (some i) = sOf (cs.take i.toNat) := by
  unfold cutS
  rw [HT.sIx_none, sOf_list, List.drop_zero, Nat.sub_zero, sOf_len]
  show sOf (cs.take (if i < 0 then (i + (cs.length : Int)).toNat else min i.toNat cs.length)) = _
  rw [if_neg (by omega)]
  by_cases q : i.toNat ≤ cs.length
  · rw [Nat.min_eq_left q]
  · rw [Nat.min_eq_right (by omega), List.take_length, List.take_of_length_le (by omega)]
theorem cutS_at {cs : List Nat} {i j : Int} (h : 0 ≤ i) (h1 : i ≤ j) (h2 : j.toNat ≤ cs.length) : cutS (sOf cs) (some i) (some j) = sOf ((cs.drop i.toNat).take (j.toNat - i.toNat)) := by
  unfold cutS
  rw [sOf_list, sOf_len]
  have e1 : HT.sIx cs.length 0 (some i) = i.toNat := by
    show (if i < 0 then (i + (cs.length : Int)).toNat else min i.toNat cs.length) = _
    rw [if_neg (by omega), Nat.min_eq_left (by omega)]
  have e2 : HT.sIx cs.length cs.length (some j) = j.toNat := by
    show (if j < 0 then (j + (cs.length : Int)).toNat else min j.toNat cs.length) = _
    rw [if_neg (by omega), Nat.min_eq_left (by omega)]
  rw [e1, e2]
theorem joinL_nil : ∀ ps : List (List Nat), joinL [] ps = ps.flatten
  | [] => rfl
  | [p] => by simp [joinL]
  | p :: q :: r => by
    show p ++ ([] ++ joinL [] (q :: r)) = _
    rw [joinL_nil (q :: r)]; simp
theorem str_ext {a b : Str} (h : a.cps.toList = b.cps.toList) : a = b := by
  obtain ⟨⟨x⟩⟩ := a
  obtain ⟨⟨y⟩⟩ := b
  have e : x = y := h
  rw [e]
theorem join_signs (cs : List Nat) : Txt.join ("" : Str) (cs.map fun c => (⟨#[c]⟩ : Str)) = sOf cs := by
  refine str_ext ?_
  rw [join_eq]
  refine (tl_join _ _).trans ?_
  have e : tl ("" : Str) = [] := by decide +kernel
  rw [e, joinL_nil, List.map_map, sOf_list]
  induction cs with
  | nil => rfl
  | cons c r ih =>
    rw [List.map_cons, List.flatten_cons, ih]
    rfl
theorem lets_len : lets.cps.toList.length = 26 := by decide +kernel
theorem lets_nd : lets.cps.toList.Nodup := by decide +kernel
theorem lets_small2 : lets.length ≤ sizeLine := by decide +kernel
def letter (n : Nat) : Nat := lets.cps.toList.getD n 0
theorem letter_at {i : Int} (h0 : 0 ≤ i) (h1 : i < 26) : atI lets.cps.toList i = some (letter i.toNat) := by
  refine atI_int h0 ?_
  have hl : i.toNat < lets.cps.toList.length := by rw [lets_len]; omega
  unfold letter
  rw [List.getD_eq_getElem?_getD, List.getElem?_eq_getElem hl]; rfl
theorem letter_in {n : Nat} (h : n < 26) : letter n ∈ lets.cps.toList := by
  have hl : n < lets.cps.toList.length := by rw [lets_len]; omega
  unfold letter
  rw [List.getD_eq_getElem?_getD, List.getElem?_eq_getElem hl]
  exact List.getElem_mem hl
theorem letter_inj {n m : Nat} (hn : n < 26) (hm : m < 26) (h : letter n = letter m) : n = m := by
  have h1 : n < lets.cps.toList.length := by rw [lets_len]; omega
  have h2 : m < lets.cps.toList.length := by rw [lets_len]; omega
  unfold letter at h
  rw [List.getD_eq_getElem?_getD, List.getElem?_eq_getElem h1, List.getD_eq_getElem?_getD, List.getElem?_eq_getElem h2] at h
  exact (List.getElem_inj (h₀ := h1) (h₁ := h2) lets_nd).mp h
theorem isNm_of {cs : List Nat} (h1 : 1 ≤ cs.length) (h2 : cs.length ≤ 8) (h : ∀ c ∈ cs, c ∈ lets.cps.toList) : isNm (sOf cs) = true := by
  simp only [isNm, signsOk, sOf_len, h1, h2, decide_true, Bool.true_and, List.all_eq_true, sOf_list]
  exact fun c hc => decide_eq_true (h c hc)
/-- data that may be compared -/
structure Ly (n : Nat) (d : D) : Prop where
  p : d.plain = true
  s : Sh n d.py
theorem Ly.up {n m : Nat} {d : D} (h : Ly n d) (hn : n ≤ m) : Ly m d := ⟨h.p, h.s.up hn⟩
theorem ly_int {n : Nat} (i : Int) : Ly n (.int i) := ⟨rfl, sh_int i⟩
theorem ly_bl {n : Nat} (b : Bool) : Ly n (.bl b) := ⟨rfl, ⟨by simp only [D.py, PyData.canLay0], by simp only [D.py, PyData.depth]; exact Nat.zero_le _⟩⟩
theorem ly_non {n : Nat} : Ly n .non := ⟨rfl, ⟨by simp only [D.py, PyData.canLay0], by simp only [D.py, PyData.depth]; exact Nat.zero_le _⟩⟩
theorem ly_str {n : Nat} {z : Str} (h : PyData.strOk z = true) : Ly n (.str z) := ⟨rfl, sh_str h⟩
theorem plains_all : ∀ {ds : List D}, (∀ d ∈ ds, d.plain = true) → plains ds = true
  | [], _ => rfl
  | d :: ds, h => by
    show (d.plain && plains ds) = true
    rw [h d (List.mem_cons_self ..), plains_all fun e he => h e (List.mem_cons_of_mem _ he)]; rfl
theorem ly_lst {n : Nat} {ds : List D} (h : ∀ d ∈ ds, Ly n d) : Ly (n + 1) (.lst ds) := ⟨plains_all fun d hd => (h d hd).p, sh_list fun d hd => by
  rw [pys_map] at hd
  obtain ⟨e, he, rfl⟩ := List.mem_map.mp hd
  exact (h e he).s⟩
theorem ly_tup {n : Nat} {ds : List D} (h : ∀ d ∈ ds, Ly n d) : Ly (n + 1) (.tup ds) := ⟨plains_all fun d hd => (h d hd).p, sh_tuple fun d hd => by
  rw [pys_map] at hd
  obtain ⟨e, he, rfl⟩ := List.mem_map.mp hd
  exact (h e he).s⟩
theorem Ly.ok {n : Nat} {d : D} (h : Ly n d) (hn : n ≤ 64) : lay d = true := by
  unfold lay
  rw [h.p, sh_ok h.s hn]; rfl
theorem Ly.self {n : Nat} {d : D} (h : Ly n d) : eqD d d = true := eqv_self h.s
theorem gNe_self {n : Nat} {d : D} {Q : O → Prop} (h : Ly n d) (hn : n ≤ 64) (q : Q (.sh (.bl false))) : gNe d d Q := by
  refine ⟨?_, ?_⟩
  · unfold eqOk; rw [h.ok hn]; simp
  · rw [h.self]; exact q
theorem gEq_self {n : Nat} {d : D} {Q : O → Prop} (h : Ly n d) (hn : n ≤ 64) (q : Q (.sh (.bl true))) : gEq d d Q := by
  refine ⟨?_, ?_⟩
  · unfold eqOk; rw [h.ok hn]; simp
  · rw [h.self]; exact q
abbrev plD (p : Str × Int) : D := .tup [.str p.1, .int p.2]
abbrev rlD (r : Str × Str × Int) : D := .tup [.str r.1, .str r.2.1, .int r.2.2]
theorem ly_nm {n : Nat} {z : Str} (h : isNm z = true) : Ly n (.str z) := ly_str (nm_ok h)
theorem ly_rl {ns : List Str} {r : Str × Str × Int} (h : Rail ns r) : Ly 1 (rlD r) := ly_tup fun d hd => by
  have : d = .str r.1 ∨ d = .str r.2.1 ∨ d = .int r.2.2 := by simpa using hd
  rcases this with rfl | rfl | rfl
  · exact ly_nm h.n1
  · exact ly_nm h.n2
  · exact ly_int _
theorem ly_pl {p : Str × Int} (h : isNm p.1 = true) : Ly 1 (plD p) := ly_tup fun d hd => by
  have : d = .str p.1 ∨ d = .int p.2 := by simpa using hd
  rcases this with rfl | rfl
  · exact ly_nm h
  · exact ly_int _
theorem inD_strs {z : Str} {ns : List Str} : inD (.str z) (ns.map D.str) = decide (z ∈ ns) := by
  unfold inD
  rw [Bool.eq_iff_iff]
  simp [eqD_str]
theorem flats_strs {ns : List Str} : flats (ns.map D.str) = true := by simp [flats, flat4]
end
end Hd
namespace Hd
/-! ### plain facts: slices, dicts, == as data -/
section
open PySem PySem.Spec PyProof.Rows L2
theorem cutL_to {α : Type} {xs : List α} {i : Int} (h : 0 ≤ i) : cutL xs none (some i) = xs.take i.toNat := by
  unfold cutL
  rw [HT.sIx_none, List.drop_zero, Nat.sub_zero]
  show xs.take (if i < 0 then (i + (xs.length : Int)).toNat else min i.toNat xs.length) = _
  rw [if_neg (by omega)]
  by_cases q : i.toNat ≤ xs.length
  · rw [Nat.min_eq_left q]
  · rw [Nat.min_eq_right (by omega), List.take_length, List.take_of_length_le (by omega)]
theorem cutL_from {α : Type} {xs : List α} {i : Int} (h : 0 ≤ i) : cutL xs (some i) none = xs.drop i.toNat := by
  unfold cutL
  have e2 : HT.sIx xs.length xs.length none = xs.length := HT.sIx_none _ _
  have e1 : HT.sIx xs.length 0 (some i) = min i.toNat xs.length := by
    show (if i < 0 then (i + (xs.length : Int)).toNat else min i.toNat xs.length) = _
    rw [if_neg (by omega)]
  rw [e1, e2]
  by_cases q : i.toNat ≤ xs.length
  · rw [Nat.min_eq_left q, List.take_of_length_le (by rw [List.length_drop]; omega)]
  · rw [Nat.min_eq_right (by omega), List.drop_length, List.drop_of_length_le (by omega)]; simp
theorem set_split {α : Type} {xs : List α} {i : Nat} {x : α} (h : i < xs.length) : xs.take i ++ [x] ++ xs.drop (i + 1) = xs.set i x := by
  rw [List.set_eq_take_append_cons_drop, if_pos h]; simp
theorem erase_split {α : Type} {xs : List α} {i : Nat} : xs.take i ++ xs.drop (i + 1) = xs.eraseIdx i := by
  rw [List.eraseIdx_eq_take_drop_succ]
theorem ixN_nat {n : Nat} {i : Int} (h0 : 0 ≤ i) (h1 : i < n) : L2.ixN n i = some i.toNat := by
  unfold L2.ixN
  rw [if_pos h0, if_pos h1]
theorem ixN_end {n : Nat} (h : 0 < n) : L2.ixN n (-1) = some (n - 1) := by
  unfold L2.ixN
  rw [if_neg (by decide), if_pos (by omega)]
  congr 1
  omega
theorem len_sub {α : Type} [DecidableEq α] : ∀ {l m : List α}, l.Nodup → (∀ x ∈ l, x ∈ m) → l.length ≤ m.length
  | [], _, _, _ => Nat.zero_le _
  | x :: l, m, nd, h => by
    have hx := h x (List.mem_cons_self ..)
    have := len_sub (l := l) (m := m.erase x) (List.nodup_cons.mp nd).2 fun y hy => (List.mem_erase_of_ne (fun e : y = x => (List.nodup_cons.mp nd).1 (by rw [← e]; exact hy))).mpr (h y (List.mem_cons_of_mem _ hy))
    rw [List.length_erase_of_mem hx] at this
    have := List.length_pos_of_mem hx
    rw [List.length_cons]
    omega
/-! dicts -/
theorem dGet_dPut {es : List (D × D)} {k v k' : D} : dGet (dPut es k v) k' = if k' = k then some v else dGet es k' := by
  unfold dPut
  by_cases h : (es.any fun p => decide (p.1 = k)) = true
  · rw [if_pos h]
    induction es with
    | nil => cases h
    | cons p es ih =>
      obtain ⟨a, b⟩ := p
      rw [List.map_cons]
      by_cases e : a = k
      · subst e
        rw [if_pos rfl]
        by_cases e2 : k' = a
        · subst e2
          rw [if_pos rfl]; exact dGet_hit
        · rw [if_neg e2]
          have h1 : ∀ {w : D} {r : List (D × D)}, dGet ((a, w) :: r) k' = dGet r k' := fun {w r} => by
            unfold dGet
            rw [List.find?_cons_of_neg (by simpa using fun z => e2 z.symm)]
          rw [h1, h1]
          by_cases h2 : (es.any fun p => decide (p.1 = a)) = true
          · rw [ih h2, if_neg e2]
          · have e3 : es.map (fun p => if p.1 = a then (p.1, v) else p) = es := by
              have : ∀ p ∈ es, (if p.1 = a then (p.1, v) else p) = p := fun p hp => by
                rw [if_neg fun z => h2 (List.any_eq_true.mpr ⟨p, hp, decide_eq_true z⟩)]
              exact (List.map_congr_left this).trans (List.map_id' es)
            rw [e3]
      · rw [if_neg e]
        have h2 : (es.any fun p => decide (p.1 = k)) = true := by simpa [e] using h
        by_cases e2 : k' = a
        · subst e2
          rw [if_neg e, dGet_hit, dGet_hit]
        · have h1 : ∀ {w : D} {r : List (D × D)}, dGet ((a, w) :: r) k' = dGet r k' := fun {w r} => by
            unfold dGet
            rw [List.find?_cons_of_neg (by simpa using fun z => e2 z.symm)]
          rw [h1, h1, ih h2]
  · rw [if_neg h]
    unfold dGet
    rw [List.find?_append]
    by_cases e : k' = k
    · subst e
      rw [if_pos rfl]
      have : es.find? (fun p => decide (p.1 = k')) = none := List.find?_eq_none.mpr fun p hp z => h (List.any_eq_true.mpr ⟨p, hp, z⟩)
      rw [this]
      simp
    · rw [if_neg e]
      have : [(k, v)].find? (fun p : D × D => decide (p.1 = k')) = none := by simpa using fun z => e z.symm
      rw [this]
      simp
theorem dPut_len (es : List (D × D)) (k v : D) : (dPut es k v).length ≤ es.length + 1 := by
  unfold dPut
  split
  · simp
  · simp
theorem dMerge_len (ps : List (D × D)) : (dMerge ps).length ≤ ps.length := by
  have : ∀ (ps acc : List (D × D)), (ps.foldl (fun acc p => dPut acc p.1 p.2) acc).length ≤ acc.length + ps.length := by
    intro ps
    induction ps with
    | nil => intro acc; simp
    | cons p ps ih =>
      intro acc
      rw [List.foldl_cons, List.length_cons]
      have h1 := ih (dPut acc p.1 p.2)
      have h2 := dPut_len acc p.1 p.2
      omega
  simpa [dMerge] using this ps []
theorem dMerge_self {ns : List Str} {z : Str} : dGet (dMerge (ns.map fun n => (D.str n, D.str n))) (.str z) = if z ∈ ns then some (.str z) else none := by
  have : ∀ (ns : List Str) (acc : List (D × D)), dGet ((ns.map fun n => (D.str n, D.str n)).foldl (fun acc p => dPut acc p.1 p.2) acc) (.str z) = if z ∈ ns then some (.str z) else dGet acc (.str z) := by
    intro ns
    induction ns with
    | nil => intro acc; simp
    | cons n ns ih =>
      intro acc
      rw [List.map_cons, List.foldl_cons, ih, dGet_dPut]
      by_cases h : z ∈ ns
      · simp [h]
      · by_cases h2 : z = n
        · subst h2; simp
        · simp [h, h2]
  exact this ns []
/-! == -/
theorem eqD_tup {a b : D} {as bs : List D} : eqD (.tup (a :: as)) (.tup (b :: bs)) = (eqD a b && eqD (.tup as) (.tup bs)) := by
  simp [eqD, D.py, pys, PyData.eqv, PyData.eqvAll]
theorem eqD_tup0 : eqD (.tup []) (.tup []) = true := by simp [eqD, D.py, pys, PyData.eqv, PyData.eqvAll]
theorem eqD_lt {as bs : List D} : eqD (.lst as) (.lst bs) = eqD (.tup as) (.tup bs) := by simp [eqD, D.py, PyData.eqv]
theorem eqD_bl {a b : Bool} : eqD (.bl a) (.bl b) = (a == b) := by simp [eqD, D.py, PyData.eqv]
theorem eqD_map {α : Type} [DecidableEq α] {f : α → D} (h : ∀ x y, eqD (f x) (f y) = decide (x = y)) : ∀ (xs ys : List α), eqD (.tup (xs.map f)) (.tup (ys.map f)) = decide (xs = ys)
  | [], [] => by simp [eqD_tup0]
  | [], y :: ys => by simp [eqD, D.py, pys, PyData.eqv, PyData.eqvAll]
  | x :: xs, [] => by simp [eqD, D.py, pys, PyData.eqv, PyData.eqvAll]
  | x :: xs, y :: ys => by
    rw [List.map_cons, List.map_cons, eqD_tup, h, eqD_map h xs ys]
    simp
theorem eqD_pl {p q : Str × Int} : eqD (plD p) (plD q) = decide (p = q) := by
  obtain ⟨a, b⟩ := p
  obtain ⟨c, d⟩ := q
  simp [eqD_tup, eqD_tup0, eqD_str, eqD_int]
theorem eqD_rl {p q : Str × Str × Int} : eqD (rlD p) (rlD q) = decide (p = q) := by
  obtain ⟨a, b, c⟩ := p
  obtain ⟨d, e, f⟩ := q
  simp [eqD_tup, eqD_tup0, eqD_str, eqD_int]
end
/-! ### a comprehension that shares at its first turn what was owned -/
section
open PySem PySem.Spec PyProof.Rows L2
theorem vLcL_two {α : Type} {ns : List Nat} {g : VTG} {tt : VTT} {te : VT} {Q : List D → DE → Prop} {E0 E1 : DE} (s : α → D) (f : α → D) (p : α → Bool) {xs : List α} {acc : List D} (h : ∀ E, (E = E0 ∨ E = E1) → ∀ x ∈ xs, ∀ acc, ∀ Nx : List D → DE → Prop, Nx (if p x = true then acc ++ [f x] else acc) E1 →
      g (.sh (s x)) E (fun e1 => tt e1 (fun b e2 => if b = true then te e2 (fun o e3 => o.fz fun d' => Nx (acc ++ [d']) (wipeE e3 ns)) x0 else Nx acc (wipeE e2 ns)) x0) x0) (hq : ∀ E, (E = E1 ∨ (xs = [] ∧ E = E0)) → Q (acc ++ (xs.filter p).map f) E) : vLcL ns g tt te (xs.map s) acc E0 Q := by
  cases xs with
  | nil =>
    unfold vLcL
    simpa using hq E0 (.inr ⟨rfl, rfl⟩)
  | cons y ys =>
    rw [List.map_cons]
    unfold vLcL
    refine h E0 (.inl rfl) y (List.mem_cons_self ..) acc (fun acc e => vLcL ns g tt te (ys.map s) acc e Q) ?_
    refine vLcL_fmap s f p (fun z hz acc => h E1 (.inr rfl) z (List.mem_cons_of_mem _ hz) acc) ?_
    have := hq E1 (.inl rfl)
    rw [List.filter_cons] at this
    cases hp : p y with
    | true => rw [hp] at this; simpa using this
    | false => rw [hp] at this; simpa using this
end
section
open PySem PySem.Spec PyProof.Rows L2
mutual
theorem eqv_comm : ∀ a b : PyData, PyData.eqv a b = PyData.eqv b a
  | .list xs, .list ys => by simp only [PyData.eqv]; exact eqvAll_comm xs ys
  | .tuple xs, .tuple ys => by simp only [PyData.eqv]; exact eqvAll_comm xs ys
  | .none, b => by cases b <;> simp [PyData.eqv]
  | .bool x, b => by cases b <;> simp only [PyData.eqv] <;> first | rfl | exact BEq.comm
  | .int x, b => by cases b <;> simp only [PyData.eqv] <;> first | rfl | exact BEq.comm
  | .str x, b => by cases b <;> simp only [PyData.eqv] <;> first | rfl | exact BEq.comm
  | .dict x, b => by cases b <;> simp [PyData.eqv]
  | .list xs, .none => by simp [PyData.eqv]
  | .list xs, .bool _ => by simp [PyData.eqv]
  | .list xs, .int _ => by simp [PyData.eqv]
  | .list xs, .str _ => by simp [PyData.eqv]
  | .list xs, .tuple _ => by simp [PyData.eqv]
  | .list xs, .dict _ => by simp [PyData.eqv]
  | .tuple xs, .none => by simp [PyData.eqv]
  | .tuple xs, .bool _ => by simp [PyData.eqv]
  | .tuple xs, .int _ => by simp [PyData.eqv]
  | .tuple xs, .str _ => by simp [PyData.eqv]
  | .tuple xs, .list _ => by simp [PyData.eqv]
  | .tuple xs, .dict _ => by simp [PyData.eqv]
theorem eqvAll_comm : ∀ a b : List PyData, PyData.eqvAll a b = PyData.eqvAll b a
  | [], [] => rfl
  | [], _ :: _ => by simp [PyData.eqvAll]
  | _ :: _, [] => by simp [PyData.eqvAll]
  | a :: as, b :: bs => by simp only [PyData.eqvAll]; rw [eqv_comm a b, eqvAll_comm as bs]
end
theorem eqD_comm (a b : D) : eqD a b = eqD b a := eqv_comm _ _
end
end Hd
namespace Hd
open PySem PySem.Spec PyProof.Rows L2
def top (i : Nat) : Stmt := PySem.Challenge.pw_haltday_k71_tickets_made.main.body.getD i (.Pass ⟨0, 0, 0, 0⟩)
abbrev s_NoTicket_init : Stmt := inClass (top 3) 0
theorem sc_NoTicket_init : FnScope ["self", "what"] ["self", "what"] (defScope s_NoTicket_init) := ⟨rfl, rfl, rfl, by decide +kernel, rfl, by decide +kernel, by decide +kernel⟩
abbrev s_is_whole : Stmt := top 8
theorem sc_is_whole : FnScope ["thing"] ["thing"] (defScope s_is_whole) := ⟨rfl, rfl, rfl, by decide +kernel, rfl, by decide +kernel, by decide +kernel⟩
abbrev s_is_from : Stmt := top 9
theorem sc_is_from : FnScope ["thing", "low", "high"] ["thing", "low", "high"] (defScope s_is_from) := ⟨rfl, rfl, rfl, by decide +kernel, rfl, by decide +kernel, by decide +kernel⟩
abbrev s_is_name : Stmt := top 10
theorem sc_is_name : FnScope ["thing", "sign"] ["thing"] (defScope s_is_name) := ⟨rfl, rfl, rfl, by decide +kernel, rfl, by decide +kernel, by decide +kernel⟩
abbrev s_are_places : Stmt := top 13
theorem sc_are_places : FnScope ["thing", "one"] ["thing"] (defScope s_are_places) := ⟨rfl, rfl, rfl, by decide +kernel, rfl, by decide +kernel, by decide +kernel⟩
abbrev s_Ticket_init : Stmt := inClass (top 14) 0
theorem sc_Ticket_init : FnScope ["self", "here", "there", "since", "till", "via", "train", "breaks"] ["self", "here", "there", "since", "till", "via", "train", "breaks"] (defScope s_Ticket_init) := ⟨rfl, rfl, rfl, by decide +kernel, rfl, by decide +kernel, by decide +kernel⟩
abbrev s_Ticket_clauses : Stmt := inClass (top 14) 1
theorem sc_Ticket_clauses : FnScope ["self"] ["self"] (defScope s_Ticket_clauses) := ⟨rfl, rfl, rfl, by decide +kernel, rfl, by decide +kernel, by decide +kernel⟩
abbrev s_Ticketdd_eqdd : Stmt := inClass (top 14) 2
theorem sc_Ticketdd_eqdd : FnScope ["self", "other"] ["self", "other"] (defScope s_Ticketdd_eqdd) := ⟨rfl, rfl, rfl, by decide +kernel, rfl, by decide +kernel, by decide +kernel⟩
abbrev s__law_mixed : Stmt := top 16
theorem sc__law_mixed : FnScope ["_law_cell", "_law_k", "_law_number"] ["_law_cell", "_law_k"] (defScope s__law_mixed) := ⟨rfl, rfl, rfl, by decide +kernel, rfl, by decide +kernel, by decide +kernel⟩
abbrev s__law_source : Stmt := top 17
theorem sc__law_source : FnScope ["_law_cell"] ["_law_cell"] (defScope s__law_source) := ⟨rfl, rfl, rfl, by decide +kernel, rfl, by decide +kernel, by decide +kernel⟩
abbrev s__law_take : Stmt := top 18
theorem sc__law_take : FnScope ["_law_source_here", "_law_many", "_law_found"] ["_law_source_here", "_law_many"] (defScope s__law_take) := ⟨rfl, rfl, rfl, by decide +kernel, rfl, by decide +kernel, by decide +kernel⟩
abbrev s__law_names : Stmt := top 19
theorem sc__law_names : FnScope ["_law_source_here", "_law_many", "_law_letters", "_law_start", "_law_stem", "_law_k", "_law_at", "_law_names_here", "_law_word"] ["_law_source_here", "_law_many"] (defScope s__law_names) := ⟨rfl, rfl, rfl, by decide +kernel, rfl, by decide +kernel, by decide +kernel⟩
abbrev s__law_good : Stmt := top 20
theorem sc__law_good : FnScope ["_law_source_here", "_law_names_here", "_law_opening", "_law_closing", "_law_over_places", "_law_bound"] ["_law_source_here"] (defScope s__law_good) := ⟨rfl, rfl, rfl, by decide +kernel, rfl, by decide +kernel, by decide +kernel⟩
abbrev s__law_ticket : Stmt := top 21
theorem sc__law_ticket : FnScope ["_law_parts", "_law_hither", "_law_thither", "_law_opening", "_law_closing", "_law_over_places", "_law_coach", "_law_pausing"] ["_law_parts"] (defScope s__law_ticket) := ⟨rfl, rfl, rfl, by decide +kernel, rfl, by decide +kernel, by decide +kernel⟩
abbrev s__law_told : Stmt := top 22
theorem sc__law_told : FnScope ["_law_one"] ["_law_one"] (defScope s__law_told) := ⟨rfl, rfl, rfl, by decide +kernel, rfl, by decide +kernel, by decide +kernel⟩
abbrev s__law_refused : Stmt := top 23
theorem sc__law_refused : FnScope ["_law_parts", "e"] ["_law_parts"] (defScope s__law_refused) := ⟨rfl, rfl, rfl, by decide +kernel, rfl, by decide +kernel, by decide +kernel⟩
abbrev s__law_spoilt : Stmt := top 24
theorem sc__law_spoilt : FnScope ["_law_source_here", "_law_parts", "_law_at", "_law_odd", "_law_minute", "_law_vias", "_law_found"] ["_law_source_here", "_law_parts", "_law_at"] (defScope s__law_spoilt) := ⟨rfl, rfl, rfl, by decide +kernel, rfl, by decide +kernel, by decide +kernel⟩
abbrev s__law_equal_right : Stmt := top 25
theorem sc__law_equal_right : FnScope ["_law_source_here", "_law_parts", "_law_one", "_law_others", "_law_at", "_law_mixed_here", "_law_odd"] ["_law_source_here", "_law_parts", "_law_one"] (defScope s__law_equal_right) := ⟨rfl, rfl, rfl, by decide +kernel, rfl, by decide +kernel, by decide +kernel⟩
abbrev s_law : Stmt := top 26
theorem sc_law : FnScope ["_law_script", "_law_cell", "_law_source_here", "_law_parts", "_law_kept", "_law_one", "_law_plain", "_law_some", "_law_k", "_law_bad", "_law_at"] ["_law_script"] (defScope s_law) := ⟨rfl, rfl, rfl, by decide +kernel, rfl, by decide +kernel, by decide +kernel⟩
structure Txt (K : PySem.W.Frag) (mg : Str → Option Value) : Prop where
  g_HaltError : mg "HaltError" = some (.ref (He.ga K "HaltError"))
  g_NoWay : mg "NoWay" = some (.ref (He.ga K "NoWay"))
  g_NoTicket : mg "NoTicket" = some (.ref (He.ga K "NoTicket"))
  g_NoTraveller : mg "NoTraveller" = some (.ref (He.ga K "NoTraveller"))
  g_is_whole : mg "is_whole" = some (.ref (He.ga K "is_whole"))
  g_is_from : mg "is_from" = some (.ref (He.ga K "is_from"))
  g_is_name : mg "is_name" = some (.ref (He.ga K "is_name"))
  g_are_places : mg "are_places" = some (.ref (He.ga K "are_places"))
  g_Ticket : mg "Ticket" = some (.ref (He.ga K "Ticket"))
  g__law_mixed : mg "_law_mixed" = some (.ref (He.ga K "_law_mixed"))
  g__law_source : mg "_law_source" = some (.ref (He.ga K "_law_source"))
  g__law_take : mg "_law_take" = some (.ref (He.ga K "_law_take"))
  g__law_names : mg "_law_names" = some (.ref (He.ga K "_law_names"))
  g__law_good : mg "_law_good" = some (.ref (He.ga K "_law_good"))
  g__law_ticket : mg "_law_ticket" = some (.ref (He.ga K "_law_ticket"))
  g__law_told : mg "_law_told" = some (.ref (He.ga K "_law_told"))
  g__law_refused : mg "_law_refused" = some (.ref (He.ga K "_law_refused"))
  g__law_spoilt : mg "_law_spoilt" = some (.ref (He.ga K "_law_spoilt"))
  g__law_equal_right : mg "_law_equal_right" = some (.ref (He.ga K "_law_equal_right"))
  g_law : mg "law" = some (.ref (He.ga K "law"))
  f_all : mg "all" = none
  f_any : mg "any" = none
  f_bool : mg "bool" = none
  f_int : mg "int" = none
  f_isinstance : mg "isinstance" = none
  f_len : mg "len" = none
  f_list : mg "list" = none
  f_range : mg "range" = none
  f_set : mg "set" = none
  f_sorted : mg "sorted" = none
  f_str : mg "str" = none
  f_tuple : mg "tuple" = none
  c_LETTERS : ∃ t, mg "LETTERS" = some (.str "abcdefghijklmnopqrstuvwxyz" t)
  c_MOST_LETTERS : ∃ t, mg "MOST_LETTERS" = some (.int 8 t)
  c_MOST_MINUTE : ∃ t, mg "MOST_MINUTE" = some (.int 1440 t)
  cl_Ticket : Cls K (He.ga K "Ticket")
  mk_Ticket : Mk K (He.ga K "Ticket") (He.ma K (He.ga K "Ticket") "__init__")
  m_Ticket_clauses : Meth K (He.ga K "Ticket") "clauses" (He.ma K (He.ga K "Ticket") "clauses")
  m_Ticket___eq__ : Meth K (He.ga K "Ticket") "__eq__" (He.ma K (He.ga K "Ticket") "__eq__")
  n_Ticket_bound : NoAttr K (He.ga K "Ticket") "bound"
  n_Ticket_breaks : NoAttr K (He.ga K "Ticket") "breaks"
  n_Ticket_here : NoAttr K (He.ga K "Ticket") "here"
  n_Ticket_since : NoAttr K (He.ga K "Ticket") "since"
  n_Ticket_there : NoAttr K (He.ga K "Ticket") "there"
  n_Ticket_till : NoAttr K (He.ga K "Ticket") "till"
  n_Ticket_via : NoAttr K (He.ga K "Ticket") "via"
  be_HaltError : BaseErr K (He.ga K "HaltError")
  e_NoWay : ErrC K (He.ga K "NoWay") "what"
  e_NoTicket : ErrC K (He.ga K "NoTicket") "what"
  x_NoTicket_NoTicket : PySem.W.exmOne K (.ref (He.ga K "NoTicket")) (.ref (He.ga K "NoTicket")) = some true
  e_NoTraveller : ErrC K (He.ga K "NoTraveller") "name"
  k_Ticket : OwnK K "Ticket"
  ec_NoTicket : ExcC K (He.ga K "NoTicket")
  ki_NoTicket__HaltError : PySem.W.kitOne K (.ref (He.ga K "NoTicket")) (.ref (He.ga K "HaltError")) = some true
  ki_NoTicket__NoTraveller_NoWay : PySem.W.kitAny K (.ref (He.ga K "NoTicket")) [.ref (He.ga K "NoTraveller"), .ref (He.ga K "NoWay")] = some false
noncomputable def m_is_name : VM := mBody 2 [] (vSeq (vIfS (vOr (vNot (vBl (vIs "str" (vVar 0)))) (vNot (vBl (vChain gLe gLe (vC (.int 1)) (vFn gLen (vACons (vVar 0) vANil)) (vC (.int 8)))))) (vRet (vC (.bl false))) vNext)
  (vRet (vFn (gAll false) (vACons (vLc [1] (vIStr (vVar 0)) (vgSet 1) vYes (vOp (gInS false) (vVar 1) (vC (.str "abcdefghijklmnopqrstuvwxyz")))) vANil))))
noncomputable def m_are_places : VM := mBody 2 [] (vSeq (vIfS (vBl (vOp gIsN (vVar 0) (vC .non))) (vRet (vC (.bl true))) vNext)
  (vRet (vAndV (vIs "list" (vVar 0)) (vAndV (vFn (gAll false) (vACons (vLc [1] (vILst (vVar 0)) (vgSet 1) vYes (vCall m_is_name (vACons (vVar 1) vANil))) vANil)) (vOp gEq (vLenSet (vACons (vVar 0) vANil)) (vFn gLen (vACons (vVar 0) vANil)))))))
noncomputable def m_is_whole : VM := mBody 1 [] (vRet (vAndV (vIs "int" (vVar 0)) (vNotV (vIs "bool" (vVar 0)))))
noncomputable def m_is_from : VM := mBody 3 [] (vRet (vAndV (vCall m_is_whole (vACons (vVar 0) vANil)) (vChain gLe gLe (vVar 1) (vVar 0) (vVar 2))))
noncomputable def m_Ticket_init : VM := mBody 8 [0] (vSeq (vIfS (vNot (vBl (vCall m_is_name (vACons (vVar 1) vANil)))) (vRaise "NoTicket" "what" (vACons (vC (.str "here")) vANil)) vNext)
  (vSeq (vIfS (vOr (vNot (vBl (vCall m_is_name (vACons (vVar 2) vANil)))) (vBl (vOp gEq (vVar 2) (vVar 1)))) (vRaise "NoTicket" "what" (vACons (vC (.str "there")) vANil)) vNext)
  (vSeq (vIfS (vOr (vNot (vBl (vCall m_is_from (vACons (vVar 3) (vACons (vC (.int 0)) (vACons (vC (.int 1440)) vANil)))))) (vNot (vBl (vCall m_is_from (vACons (vVar 4) (vACons (vVar 3) (vACons (vC (.int 1440)) vANil))))))) (vRaise "NoTicket" "what" (vACons (vC (.str "window")) vANil)) vNext)
  (vSeq (vIfS (vNot (vBl (vCall m_are_places (vACons (vVar 5) vANil)))) (vRaise "NoTicket" "what" (vACons (vC (.str "via")) vANil)) vNext)
  (vSeq (vIfS (vAnd (vBl (vOp gNotN (vVar 6) (vC .non))) (vNot (vBl (vCall m_is_name (vACons (vVar 6) vANil))))) (vRaise "NoTicket" "what" (vACons (vC (.str "train")) vANil)) vNext)
  (vSeq (vIfS (vNot (vBl (vIs "bool" (vVar 7)))) (vRaise "NoTicket" "what" (vACons (vC (.str "breaks")) vANil)) vNext)
  (vSeq (vAsg (vTup (vACons (vVar 1) (vACons (vVar 2) vANil))) (vgTup 2 (vgCons (vgFPut "Ticket" "here" 0) (vgCons (vgFPut "Ticket" "there" 0) vgNil))))
  (vSeq (vAsg (vTup (vACons (vVar 3) (vACons (vVar 4) vANil))) (vgTup 2 (vgCons (vgFPut "Ticket" "since" 0) (vgCons (vgFPut "Ticket" "till" 0) vgNil))))
  (vSeq (vFPut "Ticket" "via" 0 (vIf (vBl (vOp gIsN (vVar 5) (vC .non))) (vC .non) (vFn gList (vACons (vVar 5) vANil))))
  (vSeq (vFPut "Ticket" "bound" 0 (vVar 6))
  (vFPut "Ticket" "breaks" 0 (vVar 7))))))))))))
noncomputable def m__law_ticket : VM := mBody 8 [] (vSeq (vAsg (vVar 0) (vgLst 7 (vgCons (vgSet 1) (vgCons (vgSet 2) (vgCons (vgSet 3) (vgCons (vgSet 4) (vgCons (vgSet 5) (vgCons (vgSet 6) (vgCons (vgSet 7) vgNil)))))))))
  (vRet (vMk "Ticket" m_Ticket_init (fun (us ws : List D) => (((us.drop 0).take 1) ++ (((us.drop 1).take 1) ++ (((ws.drop 0).take 1) ++ (((ws.drop 1).take 1) ++ (((ws.drop 2).take 1) ++ (((ws.drop 3).take 1) ++ ((ws.drop 4).take 1)))))))) (vACons (vVar 1) (vACons (vVar 2) vANil)) (vACons (vVar 3) (vACons (vVar 4) (vACons (vVar 5) (vACons (vVar 6) (vACons (vVar 7) vANil))))))))
noncomputable def m__law_refused : VM := mBody 2 [] (vSeq (vTry 1 "NoTicket" (vDrop (vCall m__law_ticket (vACons (vVar 0) vANil))) (fun a dd => (vSeq (vIfS (vOr (vBl (vIsX 1 a dd false)) (vNot (vBl (vIsX 1 a dd true)))) (vRet (vC (.str "both"))) vNext)
  (vRet (vXf 1 a dd "what")))))
  (vRet (vC (.str "made"))))
noncomputable def m__law_spoilt : VM := mBody 7 [0] (vSeq (vSet 3 (vLst (vACons (vC (.str "")) (vACons (vC (.str "Ab")) (vACons (vC (.str "abcdefghi")) (vACons (vC .non) (vACons (vC (.int 7)) (vACons (vC (.bl true)) (vACons (vLst (vACons (vC (.str "a")) vANil)) (vACons (vC (.str "a1")) vANil))))))))))
  (vSeq (vSet 4 (vLst (vACons (vNeg (vC (.int 1))) (vACons (vC (.int 1441)) (vACons (vC (.bl true)) (vACons (vC (.str "5")) (vACons (vC .non) (vACons (vOp gPow (vC (.int 10)) (vC (.int 20))) (vACons (vTup (vACons (vC (.int 0)) vANil)) vANil)))))))))
  (vSeq (vSet 5 (vLst (vACons (vTup vANil) (vACons (vC (.str "ab")) (vACons (vLst (vACons (vC (.str "a")) (vACons (vC (.str "a")) vANil))) (vACons (vLst (vACons (vC (.str "a")) (vACons (vC (.str "B")) vANil))) (vACons (vLst (vACons (vC .non) vANil)) (vACons (vC (.int 5)) (vACons (vC (.bl true)) (vACons (vDNew false) vANil))))))))))
  (vSeq (vSet 6 (vFn gList (vACons (vVar 1) vANil)))
  (vSeq (vIfS (vBl (vOp gEq (vVar 2) (vC (.int 0)))) (vAsg (vOp gIx (vVar 3) (vCallO mTake [0] (vOCons (vLend 0) (vOCons (vFz (vC (.int 8))) vONil)))) (vgLPut 6 (vC (.int 0)))) vNext)
  (vSeq (vIfS (vBl (vOp gEq (vVar 2) (vC (.int 1)))) (vAsg (vOp gIx (vOp gCatL (vVar 3) (vLst (vACons (vIxL 6 (vC (.int 0))) vANil))) (vCallO mTake [0] (vOCons (vLend 0) (vOCons (vFz (vC (.int 9))) vONil)))) (vgLPut 6 (vC (.int 1)))) vNext)
  (vSeq (vIfS (vBl (vOp gEq (vVar 2) (vC (.int 2)))) (vAsg (vOp gIx (vVar 4) (vCallO mTake [0] (vOCons (vLend 0) (vOCons (vFz (vC (.int 7))) vONil)))) (vgLPut 6 (vC (.int 2)))) vNext)
  (vSeq (vIfS (vBl (vOp gEq (vVar 2) (vC (.int 3)))) (vAsg (vOp gIx (vOp gCatL (vVar 4) (vLst (vACons (vLst (vACons (vIxL 6 (vC (.int 2))) vANil)) (vACons (vNeg (vC (.int 5))) vANil)))) (vCallO mTake [0] (vOCons (vLend 0) (vOCons (vFz (vC (.int 9))) vONil)))) (vgLPut 6 (vC (.int 3)))) vNext)
  (vSeq (vIfS (vBl (vOp gEq (vVar 2) (vC (.int 4)))) (vAsg (vOp gIx (vVar 5) (vCallO mTake [0] (vOCons (vLend 0) (vOCons (vFz (vC (.int 8))) vONil)))) (vgLPut 6 (vC (.int 4)))) vNext)
  (vSeq (vIfS (vBl (vOp gEq (vVar 2) (vC (.int 5)))) (vAsg (vOp gIx (vLst (vACons (vC (.str "")) (vACons (vC (.str "Ab")) (vACons (vC (.str "abcdefghi")) (vACons (vC (.int 7)) (vACons (vC (.bl true)) (vACons (vLst (vACons (vC (.str "a")) vANil)) vANil))))))) (vCallO mTake [0] (vOCons (vLend 0) (vOCons (vFz (vC (.int 6))) vONil)))) (vgLPut 6 (vC (.int 5)))) vNext)
  (vSeq (vIfS (vBl (vOp gEq (vVar 2) (vC (.int 6)))) (vAsg (vOp gIx (vLst (vACons (vC (.int 0)) (vACons (vC (.int 1)) (vACons (vC .non) (vACons (vC (.str "yes")) (vACons (vLst (vACons (vC (.bl true)) vANil)) vANil)))))) (vCallO mTake [0] (vOCons (vLend 0) (vOCons (vFz (vC (.int 5))) vONil)))) (vgLPut 6 (vC (.int 6)))) vNext)
  (vRet (vMove 6)))))))))))))
noncomputable def m__law_told : VM := mBody 1 [] (vRet (vLst (vACons (vFld "Ticket" "here" (vVar 0)) (vACons (vFld "Ticket" "there" (vVar 0)) (vACons (vFld "Ticket" "since" (vVar 0)) (vACons (vFld "Ticket" "till" (vVar 0)) (vACons (vFld "Ticket" "via" (vVar 0)) (vACons (vFld "Ticket" "bound" (vVar 0)) (vACons (vFld "Ticket" "breaks" (vVar 0)) vANil)))))))))
noncomputable def m_Ticket_clauses : VM := mBody 1 [] (vRet (vTup (vACons (vFld "Ticket" "here" (vVar 0)) (vACons (vFld "Ticket" "there" (vVar 0)) (vACons (vFld "Ticket" "since" (vVar 0)) (vACons (vFld "Ticket" "till" (vVar 0)) (vACons (vFld "Ticket" "via" (vVar 0)) (vACons (vFld "Ticket" "bound" (vVar 0)) (vACons (vFld "Ticket" "breaks" (vVar 0)) vANil)))))))))
noncomputable def m_Ticketdd_eqdd : VM := mBody 2 [] (vRet (vAndV (vIsO "Ticket" (vVar 1)) (vOp gEq (vMet "Ticket" "clauses" m_Ticket_clauses (vVar 0) vANil) (vMet "Ticket" "clauses" m_Ticket_clauses (vVar 1) vANil))))
noncomputable def m__law_names : VM := mBody 9 [0] (vSeq (vSet 2 (vC (.str "abcdefghijklmnopqrstuvwxyz")))
  (vSeq (vSet 3 (vCallO mTake [0] (vOCons (vLend 0) (vOCons (vFz (vC (.int 26))) vONil))))
  (vSeq (vSet 4 (vJoin (vC (.str "")) (vLc [5] (vIRng1 (vACons (vC (.int 8)) vANil)) (vgSet 5) vYes (vOp gIx (vVar 2) (vCallO mTake [0] (vOCons (vLend 0) (vOCons (vFz (vC (.int 26))) vONil)))))))
  (vSeq (vSet 6 (vCallO mTake [0] (vOCons (vLend 0) (vOCons (vFz (vC (.int 4))) vONil))))
  (vSeq (vSet 7 (vLst vANil))
  (vSeq (vFor (vIRng1 (vACons (vVar 1) vANil)) (vgSet 5) (vSeq (vSet 8 (vOp gAddS (vSl gSlS (vVar 4) vpNone (vpSome (vVar 6))) (vOp gIx (vVar 2) (vOp gMod (vOp gAdd (vVar 3) (vOp gMul (vC (.int 7)) (vVar 5))) (vC (.int 26))))))
  (vDrop (vMtL 7 gAppend (vACons (vOp gAddS (vVar 8) (vSl gSlS (vVar 4) (vpSome (vVar 6)) (vpSome (vOp gAdd (vVar 6) (vCallO mTake [0] (vOCons (vLend 0) (vOCons (vFz (vC (.int 5))) vONil))))))) vANil)))))
  (vRet (vMove 7))))))))
noncomputable def m__law_good : VM := mBody 6 [0] (vSeq (vSet 1 (vCallO m__law_names [0] (vOCons (vLend 0) (vOCons (vFz (vC (.int 5))) vONil))))
  (vSeq (vSet 2 (vOp gIx (vLst (vACons (vC (.int 0)) (vACons (vC (.int 1440)) (vACons (vCallO mTake [0] (vOCons (vLend 0) (vOCons (vFz (vC (.int 1441))) vONil))) vANil)))) (vCallO mTake [0] (vOCons (vLend 0) (vOCons (vFz (vC (.int 3))) vONil)))))
  (vSeq (vSet 3 (vOp gIx (vLst (vACons (vC (.int 1440)) (vACons (vVar 2) (vACons (vOp gAdd (vVar 2) (vCallO mTake [0] (vOCons (vLend 0) (vOCons (vFz (vOp gSub (vC (.int 1441)) (vVar 2))) vONil)))) vANil)))) (vCallO mTake [0] (vOCons (vLend 0) (vOCons (vFz (vC (.int 3))) vONil)))))
  (vSeq (vSet 4 (vOp gIx (vLst (vACons (vC .non) (vACons (vLst vANil) (vACons (vSl gSlL (vVar 1) (vpSome (vC (.int 2))) (vpSome (vOp gAdd (vC (.int 3)) (vCallO mTake [0] (vOCons (vLend 0) (vOCons (vFz (vC (.int 3))) vONil)))))) vANil)))) (vCallO mTake [0] (vOCons (vLend 0) (vOCons (vFz (vC (.int 3))) vONil)))))
  (vSeq (vSet 5 (vOp gIx (vLst (vACons (vC .non) (vACons (vOp gIx (vVar 1) (vC (.int 4))) vANil))) (vCallO mTake [0] (vOCons (vLend 0) (vOCons (vFz (vC (.int 2))) vONil)))))
  (vRet (vLst (vACons (vOp gIx (vVar 1) (vC (.int 0))) (vACons (vOp gIx (vVar 1) (vC (.int 1))) (vACons (vVar 2) (vACons (vVar 3) (vACons (vVar 4) (vACons (vVar 5) (vACons (vOp gEq (vCallO mTake [0] (vOCons (vLend 0) (vOCons (vFz (vC (.int 2))) vONil))) (vC (.int 0))) vANil))))))))))))))
noncomputable def m__law_equal_right : VM := mBody 7 [0] (vSeq (vSet 3 (vCallO m__law_good [0] (vOCons (vLend 0) vONil)))
  (vSeq (vIfS (vOr (vBl (vOp (gEqO true "Ticket" m_Ticketdd_eqdd) (vVar 2) (vCall m__law_ticket (vACons (vVar 1) vANil)))) (vNot (vBl (vOp (gEqO false "Ticket" m_Ticketdd_eqdd) (vVar 2) (vCall m__law_ticket (vACons (vVar 1) vANil)))))) (vRet (vC (.bl false))) vNext)
  (vSeq (vFor (vIRng1 (vACons (vC (.int 7)) vANil)) (vgSet 4) (vSeq (vSet 5 (vFn gList (vACons (vVar 1) vANil)))
  (vSeq (vAsg (vOp gIx (vVar 3) (vVar 4)) (vgLPut 5 (vVar 4)))
  (vSeq (vIfS (vOr (vBl (vOp gEq (vOp gIx (vVar 5) (vC (.int 0))) (vOp gIx (vVar 5) (vC (.int 1))))) (vBl (vOp gGt (vOp gIx (vVar 5) (vC (.int 2))) (vOp gIx (vVar 5) (vC (.int 3)))))) (vSet 5 (vFn gList (vACons (vVar 1) vANil))) vNext)
  (vIfS (vBl (vOp gNe (vOp (gEqO false "Ticket" m_Ticketdd_eqdd) (vVar 2) (vCall m__law_ticket (vACons (vVar 5) vANil))) (vOp gEq (vVar 5) (vVar 1)))) (vRet (vC (.bl false))) vNext)))))
  (vRet (vNotV (vFn (gAll true) (vACons (vLc [6] (vILst (vLst (vACons (vVar 1) (vACons (vFn gTuple (vACons (vVar 1) vANil)) (vACons (vOp gIx (vVar 1) (vC (.int 0))) (vACons (vC .non) (vACons (vC (.bl true)) vANil))))))) (vgSet 6) vYes (vOp (gEqO false "Ticket" m_Ticketdd_eqdd) (vVar 2) (vVar 6))) vANil)))))))
noncomputable def m_law : VM := mBody 11 [] (vSeq (vFor (vILst (vSl gSlL (vOp gCatL (vVar 0) (vLst (vACons (vC (.int 0)) vANil))) vpNone (vpSome (vC (.int 10))))) (vgSet 1) (vSeq (vSet 2 (vCall mSource (vACons (vVar 1) vANil)))
  (vSeq (vSet 3 (vCallO m__law_good [2] (vOCons (vLend 2) vONil)))
  (vSeq (vSet 4 (vListL 3))
  (vSeq (vIfS (vPeekB (vBl (vOp gNotN (vOp gIx (vVar 3) (vC (.int 4))) (vC .non)))) (vAsg (vPeekO (vFn gList (vACons (vOp gIx (vVar 3) (vC (.int 4))) vANil))) (vgLPutO 3 (vC (.int 4)))) vNext)
  (vSeq (vSet 5 (vPeekO (vCall m__law_ticket (vACons (vVar 3) vANil))))
  (vSeq (vIfS (vPeekB (vBl (vOp gNe (vVar 3) (vVar 4)))) (vRet (vC (.bl false))) vNext)
  (vSeq (vIfS (vPeekB (vBl (vOp gNotN (vOp gIx (vVar 3) (vC (.int 4))) (vC .non)))) (vDrop (vMtP gAppend (vlIx 4 (vlName 3)) (vACons (vC (.str "Q")) vANil))) vNext)
  (vSeq (vIfS (vOr (vBl (vOp gNe (vCall m__law_told (vACons (vVar 5) vANil)) (vVar 4))) (vOr (vNot (vBl (vIs "bool" (vFld "Ticket" "breaks" (vVar 5))))) (vNot (vBl (vCallO m__law_equal_right [2] (vOCons (vLend 2) (vOCons (vFz (vVar 4)) (vOCons (vFz (vVar 5)) vONil)))))))) (vRet (vC (.bl false))) vNext)
  (vSeq (vSet 6 (vMk "Ticket" m_Ticket_init (fun (us ws : List D) => (((ws.drop 1).take 1) ++ (((ws.drop 0).take 1) ++ (((([.int 0, .int 1440, .non, .non, .bl true] : List D).drop 0).take 1) ++ (((([.int 0, .int 1440, .non, .non, .bl true] : List D).drop 1).take 1) ++ (((([.int 0, .int 1440, .non, .non, .bl true] : List D).drop 2).take 1) ++ (((([.int 0, .int 1440, .non, .non, .bl true] : List D).drop 3).take 1) ++ ((([.int 0, .int 1440, .non, .non, .bl true] : List D).drop 4).take 1)))))))) vANil (vACons (vOp gIx (vVar 4) (vC (.int 1))) (vACons (vOp gIx (vVar 4) (vC (.int 0))) vANil))))
  (vSeq (vIfS (vBl (vOp gNe (vCall m__law_told (vACons (vVar 6) vANil)) (vOp gCatL (vSl gSlL (vVar 4) vpNone (vpSome (vC (.int 2)))) (vLst (vACons (vC (.int 0)) (vACons (vC (.int 1440)) (vACons (vC .non) (vACons (vC .non) (vACons (vC (.bl true)) vANil))))))))) (vRet (vC (.bl false))) vNext)
  (vSeq (vSet 7 (vSortSet (vACons (vLc [8] (vIRng1 (vACons (vOp gAdd (vC (.int 1)) (vCallO mTake [2] (vOCons (vLend 2) (vOCons (vFz (vC (.int 3))) vONil)))) vANil)) (vgSet 8) vYes (vCallO mTake [2] (vOCons (vLend 2) (vOCons (vFz (vC (.int 7))) vONil)))) vANil)))
  (vSeq (vSet 9 (vFn gList (vACons (vVar 4) vANil)))
  (vSeq (vFor (vILst (vVar 7)) (vgSet 10) (vSet 9 (vCallO m__law_spoilt [2] (vOCons (vLend 2) (vOCons (vFz (vVar 9)) (vOCons (vFz (vVar 10)) vONil))))))
  (vIfS (vBl (vOp gNe (vCall m__law_refused (vACons (vVar 9) vANil)) (vOp gIx (vLst (vACons (vC (.str "here")) (vACons (vC (.str "there")) (vACons (vC (.str "window")) (vACons (vC (.str "window")) (vACons (vC (.str "via")) (vACons (vC (.str "train")) (vACons (vC (.str "breaks")) vANil)))))))) (vOp gIx (vVar 7) (vC (.int 0)))))) (vRet (vC (.bl false))) vNext)))))))))))))))
  (vRet (vC (.bl true))))
theorem ok_NoTicket_init {P : Program} {w : World} {K : PySem.W.Frag} {mg : Str → Option Value} {base : Heap} {fd : FuncData} (T : Txt K mg) (F : FunD K "__init__" "NoTicket.__init__" (defArgs s_NoTicket_init) (defBody s_NoTicket_init) (defScope s_NoTicket_init) [] [] (He.ma K (He.ga K "NoTicket") "__init__") fd)
     : FnOk P w K mg base (L2.CX P w) 1 (He.ma K (He.ga K "NoTicket") "__init__") fd ["self", "what"] (spErr (He.ga K "NoTicket") "what") := by
  refine FunD.ok F sc_NoTicket_init (fun vs H Q E h => ?_) (fun cdv A outer s H vs Q E hr h => ?_)
  · obtain ⟨e, v, rfl, he, k⟩ := h
    rfl
  · obtain ⟨e, v, rfl, he, k⟩ := h
    refine ⟨_, (PSs.nox (pss_cons (ps_expr (pe_hinit (by rfl) T.g_HaltError T.be_HaltError (pa_cons (pv 0) (pa_cons pe_str pa_nil))))
      (pss_one (ps_ost (pv 0) (pv 1))))), ?_⟩
    try simp only [kx1, kx2, kx3, kx4, kx5]
    refine ⟨_, rfl, e, _, [_], rfl, (by show 1 ≤ 1000; decide), T.e_NoTicket.oex, he, ?_⟩
    exact ⟨_, rfl, _, rfl, e, _, rfl, T.e_NoTicket.oex, T.e_NoTicket.no, .inl ⟨he, fun dx hd ne => k dx hd ne⟩⟩
theorem ok_is_name {P : Program} {w : World} {K : PySem.W.Frag} {mg : Str → Option Value} {base : Heap} {fd : FuncData} (T : Txt K mg) (F : FunD K "is_name" "is_name" (defArgs s_is_name) (defBody s_is_name) (defScope s_is_name) [] [] (He.ga K "is_name") fd)
     : FnOk P w K mg base (L2.CX P w) 1 (He.ga K "is_name") fd ["thing"] (spV K 1 m_is_name) := by
  refine FunD.ok F sc_is_name (fun vs H Q E h => spV_len h) (fun cdv A outer s H vs Q E hr h => ?_)
  have tk : Takes (cxOf (L2.CX P w) P w K mg base ["thing", "sign"] "is_name" (defScope s_is_name) (He.ga K "is_name") cdv A outer s H E) (fun cls d _ H => E cls d H) := takes_of rfl rfl rfl rfl
  have po : PassesOwn (model P w) _ _ (cxOf (L2.CX P w) P w K mg base ["thing", "sign"] "is_name" (defScope s_is_name) (He.ga K "is_name") cdv A outer s H E).xe := passes_of rfl
  exact ⟨_, (show VSs _ (fun cls d _ H => E cls d H) _ _ from (vss_cons (vs_if (VW.vb (vw_or (vb_not (vb_val (ve_is (T := "str") (by decide) (by rfl) T.f_isinstance (ve_var 0) (pe_bltn (v := .ty "str") (by rfl) T.f_str (by decide +kernel) rfl)))) (vw_or1 (vb_not (vb_chain k_le o_le ve_int (ve_fnB c_len (by rfl) T.f_len (by decide +kernel) (va_cons (ve_var 0) va_nil)) (ve_gint (by rfl) T.c_MOST_LETTERS)))))) (vss_one (vs_ret ve_bl)) vss_nil)
      (vss_one (vs_ret (ve_fnB (c_all rfl) (by rfl) T.f_all (by decide +kernel) (va_cons (ve_lc (own := [("sign", 1)]) (by rfl) sc_is_name.nd (vi_str (ve_var 0)) (blkOk_by (own := [("sign", 1)]) (N := ["thing", "sign"]) (sc := defScope s_is_name) (by decide +kernel)) (by decide) (fun _ _ _ _ _ => (vg_name (i := 1) sc_is_name.nd rfl (by first | exact Or.inl rfl | exact Or.inr rfl))) (fun _ _ _ _ _ => vts_nil) (fun _ _ _ _ _ => (ve_cmp o_inS (ve_var 1) (ve_gstr (by rfl) T.c_LETTERS) (by with_unfolding_all rfl)))) va_nil)))))), body_ok (N := ["thing", "sign"]) (by decide) h⟩
theorem ok_are_places {P : Program} {w : World} {K : PySem.W.Frag} {mg : Str → Option Value} {base : Heap} {fd : FuncData} (T : Txt K mg) (F : FunD K "are_places" "are_places" (defArgs s_are_places) (defBody s_are_places) (defScope s_are_places) [] [] (He.ga K "are_places") fd)
    (C_is_name : Cal P w K mg base 1 (He.ga K "is_name") ["thing"] (spV K 1 m_is_name)) : FnOk P w K mg base (L2.CX P w) 2 (He.ga K "are_places") fd ["thing"] (spV K 1 m_are_places) := by
  refine FunD.ok F sc_are_places (fun vs H Q E h => spV_len h) (fun cdv A outer s H vs Q E hr h => ?_)
  have tk : Takes (cxOf (L2.CX P w) P w K mg base ["thing", "one"] "are_places" (defScope s_are_places) (He.ga K "are_places") cdv A outer s H E) (fun cls d _ H => E cls d H) := takes_of rfl rfl rfl rfl
  have po : PassesOwn (model P w) _ _ (cxOf (L2.CX P w) P w K mg base ["thing", "one"] "are_places" (defScope s_are_places) (He.ga K "are_places") cdv A outer s H E).xe := passes_of rfl
  exact ⟨_, (show VSs _ (fun cls d _ H => E cls d H) _ _ from (vss_cons (vs_if (vb_cmp o_isN (ve_var 0) ve_non (nomark _)) (vss_one (vs_ret ve_bl)) vss_nil)
      (vss_one (vs_ret (ve_and (ve_is (T := "list") (by decide) (by rfl) T.f_isinstance (ve_var 0) (pe_bltn (v := .ty "list") (by rfl) T.f_list (by decide +kernel) rfl)) (ve_and (ve_fnB (c_all rfl) (by rfl) T.f_all (by decide +kernel) (va_cons (ve_lc (own := [("one", 1)]) (by rfl) sc_are_places.nd (vi_list (ve_var 0)) (blkOk_by (own := [("one", 1)]) (N := ["thing", "one"]) (sc := defScope s_are_places) (by decide +kernel)) (by decide) (fun _ _ _ _ _ => (vg_name (i := 1) sc_are_places.nd rfl (by first | exact Or.inl rfl | exact Or.inr rfl))) (fun _ _ _ _ _ => vts_nil) (fun _ _ _ _ _ => (ve_call C_is_name (hr.mono (by decide)) (by rfl) T.g_is_name (fun σ => pL σ) (va_cons (ve_var 1) va_nil)))) va_nil)) (ve_one (ve_cmp (o_eq hr.units) (ve_lenSet rfl (by rfl) T.f_len (by rfl) T.f_set (va_cons (ve_var 0) va_nil)) (ve_fnB c_len (by rfl) T.f_len (by decide +kernel) (va_cons (ve_var 0) va_nil)) (nomark _))))))))), body_ok (N := ["thing", "one"]) (by decide) h⟩
theorem ok_is_whole {P : Program} {w : World} {K : PySem.W.Frag} {mg : Str → Option Value} {base : Heap} {fd : FuncData} (T : Txt K mg) (F : FunD K "is_whole" "is_whole" (defArgs s_is_whole) (defBody s_is_whole) (defScope s_is_whole) [] [] (He.ga K "is_whole") fd)
     : FnOk P w K mg base (L2.CX P w) 1 (He.ga K "is_whole") fd ["thing"] (spV K 1 m_is_whole) := by
  refine FunD.ok F sc_is_whole (fun vs H Q E h => spV_len h) (fun cdv A outer s H vs Q E hr h => ?_)
  have tk : Takes (cxOf (L2.CX P w) P w K mg base ["thing"] "is_whole" (defScope s_is_whole) (He.ga K "is_whole") cdv A outer s H E) (fun cls d _ H => E cls d H) := takes_of rfl rfl rfl rfl
  have po : PassesOwn (model P w) _ _ (cxOf (L2.CX P w) P w K mg base ["thing"] "is_whole" (defScope s_is_whole) (He.ga K "is_whole") cdv A outer s H E).xe := passes_of rfl
  exact ⟨_, (show VSs _ (fun cls d _ H => E cls d H) _ _ from (vss_one (vs_ret (ve_and (ve_is (T := "int") (by decide) (by rfl) T.f_isinstance (ve_var 0) (pe_bltn (v := .ty "int") (by rfl) T.f_int (by decide +kernel) rfl)) (ve_one (ve_not (ve_is (T := "bool") (by decide) (by rfl) T.f_isinstance (ve_var 0) (pe_bltn (v := .ty "bool") (by rfl) T.f_bool (by decide +kernel) rfl)))))))), body_ok (N := ["thing"]) (by decide) h⟩
theorem ok_is_from {P : Program} {w : World} {K : PySem.W.Frag} {mg : Str → Option Value} {base : Heap} {fd : FuncData} (T : Txt K mg) (F : FunD K "is_from" "is_from" (defArgs s_is_from) (defBody s_is_from) (defScope s_is_from) [] [] (He.ga K "is_from") fd)
    (C_is_whole : Cal P w K mg base 1 (He.ga K "is_whole") ["thing"] (spV K 1 m_is_whole)) : FnOk P w K mg base (L2.CX P w) 2 (He.ga K "is_from") fd ["thing", "low", "high"] (spV K 3 m_is_from) := by
  refine FunD.ok F sc_is_from (fun vs H Q E h => spV_len h) (fun cdv A outer s H vs Q E hr h => ?_)
  have tk : Takes (cxOf (L2.CX P w) P w K mg base ["thing", "low", "high"] "is_from" (defScope s_is_from) (He.ga K "is_from") cdv A outer s H E) (fun cls d _ H => E cls d H) := takes_of rfl rfl rfl rfl
  have po : PassesOwn (model P w) _ _ (cxOf (L2.CX P w) P w K mg base ["thing", "low", "high"] "is_from" (defScope s_is_from) (He.ga K "is_from") cdv A outer s H E).xe := passes_of rfl
  exact ⟨_, (show VSs _ (fun cls d _ H => E cls d H) _ _ from (vss_one (vs_ret (ve_and (ve_call C_is_whole (hr.mono (by decide)) (by rfl) T.g_is_whole (fun σ => passAt tk σ) (va_cons (ve_var 0) va_nil)) (ve_one (ve_chain k_le o_le (ve_var 1) (ve_var 0) (ve_var 2))))))), body_ok (N := ["thing", "low", "high"]) (by decide) h⟩
theorem ok_Ticket_init {P : Program} {w : World} {K : PySem.W.Frag} {mg : Str → Option Value} {base : Heap} {fd : FuncData} (T : Txt K mg) (F : FunD K "__init__" "Ticket.__init__" (defArgs s_Ticket_init) (defBody s_Ticket_init) (defScope s_Ticket_init) [] [("since", .int 0), ("till", .int 1440), ("via", .non), ("train", .non), ("breaks", .bl true)] (He.ma K (He.ga K "Ticket") "__init__") fd)
    (C_NoTicket_init : Cal P w K mg base 1 (He.ma K (He.ga K "NoTicket") "__init__") ["self", "what"] (spErr (He.ga K "NoTicket") "what"))
    (C_is_name : Cal P w K mg base 1 (He.ga K "is_name") ["thing"] (spV K 1 m_is_name))
    (C_are_places : Cal P w K mg base 2 (He.ga K "are_places") ["thing"] (spV K 1 m_are_places))
    (C_is_from : Cal P w K mg base 2 (He.ga K "is_from") ["thing", "low", "high"] (spV K 3 m_is_from)) : FnOk P w K mg base (L2.CX P w) 3 (He.ma K (He.ga K "Ticket") "__init__") fd ["self", "here", "there", "since", "till", "via", "train", "breaks"] (spV K 8 m_Ticket_init) := by
  refine FunD.ok F sc_Ticket_init (fun vs H Q E h => spV_len h) (fun cdv A outer s H vs Q E hr h => ?_)
  have tk : Takes (cxOf (L2.CX P w) P w K mg base ["self", "here", "there", "since", "till", "via", "train", "breaks"] "Ticket.__init__" (defScope s_Ticket_init) (He.ma K (He.ga K "Ticket") "__init__") cdv A outer s H E) (fun cls d _ H => E cls d H) := takes_of rfl rfl rfl rfl
  have po : PassesOwn (model P w) _ _ (cxOf (L2.CX P w) P w K mg base ["self", "here", "there", "since", "till", "via", "train", "breaks"] "Ticket.__init__" (defScope s_Ticket_init) (He.ma K (He.ga K "Ticket") "__init__") cdv A outer s H E).xe := passes_of rfl
  exact ⟨_, (show VSs _ (fun cls d _ H => E cls d H) _ _ from (vss_cons (vs_if (vb_not (vb_val (ve_call C_is_name (hr.mono (by decide)) (by rfl) T.g_is_name (fun σ => passAt tk σ) (va_cons (ve_var 1) va_nil)))) (vss_one (vs_raise (c := "NoTicket") (by rfl) tk T.e_NoTicket C_NoTicket_init (hr.mono (by decide)) (by rfl) T.g_NoTicket (va_cons ve_str va_nil))) vss_nil)
      (vss_cons (vs_if (VW.vb (vw_or (vb_not (vb_val (ve_call C_is_name (hr.mono (by decide)) (by rfl) T.g_is_name (fun σ => passAt tk σ) (va_cons (ve_var 2) va_nil)))) (vw_or1 (vb_cmp (o_eq hr.units) (ve_var 2) (ve_var 1) (nomark _))))) (vss_one (vs_raise (c := "NoTicket") (by rfl) tk T.e_NoTicket C_NoTicket_init (hr.mono (by decide)) (by rfl) T.g_NoTicket (va_cons ve_str va_nil))) vss_nil)
      (vss_cons (vs_if (VW.vb (vw_or (vb_not (vb_val (ve_call C_is_from (hr.mono (by decide)) (by rfl) T.g_is_from (fun σ => passAt tk σ) (va_cons (ve_var 3) (va_cons ve_int (va_cons (ve_gint (by rfl) T.c_MOST_MINUTE) va_nil)))))) (vw_or1 (vb_not (vb_val (ve_call C_is_from (hr.mono (by decide)) (by rfl) T.g_is_from (fun σ => passAt tk σ) (va_cons (ve_var 4) (va_cons (ve_var 3) (va_cons (ve_gint (by rfl) T.c_MOST_MINUTE) va_nil))))))))) (vss_one (vs_raise (c := "NoTicket") (by rfl) tk T.e_NoTicket C_NoTicket_init (hr.mono (by decide)) (by rfl) T.g_NoTicket (va_cons ve_str va_nil))) vss_nil)
      (vss_cons (vs_if (vb_not (vb_val (ve_call C_are_places (hr.mono (by decide)) (by rfl) T.g_are_places (fun σ => passAt tk σ) (va_cons (ve_var 5) va_nil)))) (vss_one (vs_raise (c := "NoTicket") (by rfl) tk T.e_NoTicket C_NoTicket_init (hr.mono (by decide)) (by rfl) T.g_NoTicket (va_cons ve_str va_nil))) vss_nil)
      (vss_cons (vs_if (VW.vb (vw_and (vb_cmp o_notN (ve_var 6) ve_non (nomark _)) (vw_and1 (vb_not (vb_val (ve_call C_is_name (hr.mono (by decide)) (by rfl) T.g_is_name (fun σ => passAt tk σ) (va_cons (ve_var 6) va_nil))))))) (vss_one (vs_raise (c := "NoTicket") (by rfl) tk T.e_NoTicket C_NoTicket_init (hr.mono (by decide)) (by rfl) T.g_NoTicket (va_cons ve_str va_nil))) vss_nil)
      (vss_cons (vs_if (vb_not (vb_val (ve_is (T := "bool") (by decide) (by rfl) T.f_isinstance (ve_var 7) (pe_bltn (v := .ty "bool") (by rfl) T.f_bool (by decide +kernel) rfl)))) (vss_one (vs_raise (c := "NoTicket") (by rfl) tk T.e_NoTicket C_NoTicket_init (hr.mono (by decide)) (by rfl) T.g_NoTicket (va_cons ve_str va_nil))) vss_nil)
      (vss_cons (vs_asg (ve_tup (va_cons (ve_var 1) (va_cons (ve_var 2) va_nil))) (vg_tup (n := 2) (by rfl) (vgs_cons (vg_fput (c := "Ticket") T.cl_Ticket T.n_Ticket_here (pv 0)) (vgs_cons (vg_fput (c := "Ticket") T.cl_Ticket T.n_Ticket_there (pv 0)) vgs_nil))))
      (vss_cons (vs_asg (ve_tup (va_cons (ve_var 3) (va_cons (ve_var 4) va_nil))) (vg_tup (n := 2) (by rfl) (vgs_cons (vg_fput (c := "Ticket") T.cl_Ticket T.n_Ticket_since (pv 0)) (vgs_cons (vg_fput (c := "Ticket") T.cl_Ticket T.n_Ticket_till (pv 0)) vgs_nil))))
      (vss_cons (vs_fput (c := "Ticket") T.cl_Ticket T.n_Ticket_via (pv 0) (ve_if (vb_cmp o_isN (ve_var 5) ve_non (nomark _)) ve_non (ve_fnT c_list (by rfl) T.f_list (by decide +kernel) (va_cons (ve_var 5) va_nil))) rfl)
      (vss_cons (vs_fput (c := "Ticket") T.cl_Ticket T.n_Ticket_bound (pv 0) (ve_var 6) rfl)
      (vss_one (vs_fput (c := "Ticket") T.cl_Ticket T.n_Ticket_breaks (pv 0) (ve_var 7) rfl))))))))))))), body_ok (N := ["self", "here", "there", "since", "till", "via", "train", "breaks"]) (by decide) h⟩
theorem ok__law_ticket {P : Program} {w : World} {K : PySem.W.Frag} {mg : Str → Option Value} {base : Heap} {fd : FuncData} (T : Txt K mg) (F : FunD K "_law_ticket" "_law_ticket" (defArgs s__law_ticket) (defBody s__law_ticket) (defScope s__law_ticket) [] [] (He.ga K "_law_ticket") fd)
    (K_Ticket_init_2_since_till_via_train_breaks : CalK P w K mg base 3 (He.ma K (He.ga K "Ticket") "__init__") ["self", "here", "there", "since", "till", "via", "train", "breaks"] (spV K 8 m_Ticket_init) 3 ["since", "till", "via", "train", "breaks"] (fun us ws => (us.drop 0).take 1 ++ ((us.drop 1).take 1 ++ ((us.drop 2).take 1 ++ ((ws.drop 0).take 1 ++ ((ws.drop 1).take 1 ++ ((ws.drop 2).take 1 ++ ((ws.drop 3).take 1 ++ ((ws.drop 4).take 1))))))))) : FnOk P w K mg base (L2.CX P w) 5 (He.ga K "_law_ticket") fd ["_law_parts"] (spV K 1 m__law_ticket) := by
  refine FunD.ok F sc__law_ticket (fun vs H Q E h => spV_len h) (fun cdv A outer s H vs Q E hr h => ?_)
  have tk : Takes (cxOf (L2.CX P w) P w K mg base ["_law_parts", "_law_hither", "_law_thither", "_law_opening", "_law_closing", "_law_over_places", "_law_coach", "_law_pausing"] "_law_ticket" (defScope s__law_ticket) (He.ga K "_law_ticket") cdv A outer s H E) (fun cls d _ H => E cls d H) := takes_of rfl rfl rfl rfl
  have po : PassesOwn (model P w) _ _ (cxOf (L2.CX P w) P w K mg base ["_law_parts", "_law_hither", "_law_thither", "_law_opening", "_law_closing", "_law_over_places", "_law_coach", "_law_pausing"] "_law_ticket" (defScope s__law_ticket) (He.ga K "_law_ticket") cdv A outer s H E).xe := passes_of rfl
  exact ⟨_, (show VSs _ (fun cls d _ H => E cls d H) _ _ from (vss_cons (vs_asg (ve_var 0) (vg_lst (n := 7) (by rfl) (vgs_cons (vg_name (i := 1) sc__law_ticket.nd rfl (by first | exact Or.inl rfl | exact Or.inr rfl)) (vgs_cons (vg_name (i := 2) sc__law_ticket.nd rfl (by first | exact Or.inl rfl | exact Or.inr rfl)) (vgs_cons (vg_name (i := 3) sc__law_ticket.nd rfl (by first | exact Or.inl rfl | exact Or.inr rfl)) (vgs_cons (vg_name (i := 4) sc__law_ticket.nd rfl (by first | exact Or.inl rfl | exact Or.inr rfl)) (vgs_cons (vg_name (i := 5) sc__law_ticket.nd rfl (by first | exact Or.inl rfl | exact Or.inr rfl)) (vgs_cons (vg_name (i := 6) sc__law_ticket.nd rfl (by first | exact Or.inl rfl | exact Or.inr rfl)) (vgs_cons (vg_name (i := 7) sc__law_ticket.nd rfl (by first | exact Or.inl rfl | exact Or.inr rfl)) vgs_nil)))))))))
      (vss_one (vs_ret (ve_mk (gW := (fun (us ws : List V) => (((us.drop 0).take 1) ++ (((us.drop 1).take 1) ++ (((ws.drop 0).take 1) ++ (((ws.drop 1).take 1) ++ (((ws.drop 2).take 1) ++ (((ws.drop 3).take 1) ++ ((ws.drop 4).take 1))))))))) (gD := (fun (us ws : List D) => (((us.drop 0).take 1) ++ (((us.drop 1).take 1) ++ (((ws.drop 0).take 1) ++ (((ws.drop 1).take 1) ++ (((ws.drop 2).take 1) ++ (((ws.drop 3).take 1) ++ ((ws.drop 4).take 1))))))))) T.mk_Ticket K_Ticket_init_2_since_till_via_train_breaks (fun _ _ _ => rfl) (fun ru rw => (((ru.drop 0).take 1).app (((ru.drop 1).take 1).app (((rw.drop 0).take 1).app (((rw.drop 1).take 1).app (((rw.drop 2).take 1).app (((rw.drop 3).take 1).app ((rw.drop 4).take 1)))))))) (fun us ws l1 l2 => match us, ws, l1, l2 with | [_, _], [_, _, _, _, _], _, _ => rfl) (hr.mono (by decide)) (by rfl) T.g_Ticket (fun σ => passAt tk σ) (va_cons (ve_var 1) (va_cons (ve_var 2) va_nil)) (vk_cons (ve_var 3) (vk_cons (ve_var 4) (vk_cons (ve_var 5) (vk_cons (ve_var 6) (vk_cons (ve_var 7) vk_nil)))))))))), body_ok (N := ["_law_parts", "_law_hither", "_law_thither", "_law_opening", "_law_closing", "_law_over_places", "_law_coach", "_law_pausing"]) (by decide) h⟩
theorem ok__law_refused {P : Program} {w : World} {K : PySem.W.Frag} {mg : Str → Option Value} {base : Heap} {fd : FuncData} (T : Txt K mg) (F : FunD K "_law_refused" "_law_refused" (defArgs s__law_refused) (defBody s__law_refused) (defScope s__law_refused) [] [] (He.ga K "_law_refused") fd)
    (C__law_ticket : Cal P w K mg base 5 (He.ga K "_law_ticket") ["_law_parts"] (spV K 1 m__law_ticket)) : FnOk P w K mg base (L2.CX P w) 6 (He.ga K "_law_refused") fd ["_law_parts"] (spV K 1 m__law_refused) := by
  refine FunD.ok F sc__law_refused (fun vs H Q E h => spV_len h) (fun cdv A outer s H vs Q E hr h => ?_)
  have tk : Takes (cxOf (L2.CX P w) P w K mg base ["_law_parts", "e"] "_law_refused" (defScope s__law_refused) (He.ga K "_law_refused") cdv A outer s H E) (fun cls d _ H => E cls d H) := takes_of rfl rfl rfl rfl
  have po : PassesOwn (model P w) _ _ (cxOf (L2.CX P w) P w K mg base ["_law_parts", "e"] "_law_refused" (defScope s__law_refused) (He.ga K "_law_refused") cdv A outer s H E).xe := passes_of rfl
  exact ⟨_, (show VSs _ (fun cls d _ H => E cls d H) _ _ from (vss_cons (vs_tryAs (i := 1) (c := "NoTicket") rfl rfl sc__law_refused.nd rfl rfl ⟨rfl, by decide, Or.inl T.g_NoTicket⟩ tk T.x_NoTicket_NoTicket (fun W pn xe tk po => (vss_one (vs_expr (ve_call C__law_ticket (hr.mono (by decide)) (by rfl) T.g__law_ticket (fun σ => passAt tk σ) (va_cons (ve_var 0) va_nil))))) (fun a oe dd pn hz hf => (vss_cons (vs_if (VW.vb (vw_or (vb_val (ve_isXT T.ec_NoTicket hz hf T.ki_NoTicket__NoTraveller_NoWay (.cons (.own _) (.cons (.own _) .nil)) (Nat.le_of_ble_eq_true rfl) (by rfl) T.f_isinstance (pv 1) (pa_cons (pe_glob (v := .ref (He.ga K "NoTraveller")) (by rfl) T.g_NoTraveller rfl) (pa_cons (pe_glob (v := .ref (He.ga K "NoWay")) (by rfl) T.g_NoWay rfl) pa_nil)) (fun _ _ _ q => q))) (vw_or1 (vb_not (vb_val (ve_isX T.ec_NoTicket hz hf T.ki_NoTicket__HaltError (.own _) (by rfl) T.f_isinstance (pv 1) (pe_glob (v := .ref (He.ga K "HaltError")) (by rfl) T.g_HaltError rfl))))))) (vss_one (vs_ret ve_str)) vss_nil)
      (vss_one (vs_ret (ve_xf T.e_NoTicket hz hf (pv 1)))))))
      (vss_one (vs_ret ve_str)))), body_ok (N := ["_law_parts", "e"]) (by decide) h⟩
theorem ok__law_mixed {P : Program} {w : World} {K : PySem.W.Frag} {mg : Str → Option Value} {base : Heap} {fd : FuncData} (T : Txt K mg) (F : FunD K "_law_mixed" "_law_mixed" (defArgs s__law_mixed) (defBody s__law_mixed) (defScope s__law_mixed) [] [] (He.ga K "_law_mixed") fd)
     : FnOk P w K mg base (L2.CX P w) 1 (He.ga K "_law_mixed") fd ["_law_cell", "_law_k"] (spMixed) := by
  refine FunD.ok F sc__law_mixed (fun vs H Q E h => ?_) (fun cdv A outer s H vs Q E hr h => ?_)
  · obtain ⟨c, k, rfl, kk⟩ := h
    rfl
  · obtain ⟨c, k, rfl, kk⟩ := h
    refine ⟨_, (PSs.nox (pss_cons (ps_set (i := 2) sc__law_mixed.nd rfl (by first | exact Or.inl rfl | exact Or.inr rfl) (pe_op op_mod (pe_op op_mul (pe_op op_add (pe_op op_mod (pv 0) pe_int) pe_int) (pe_op op_add (pe_op op_mul (pv 1) pe_int) pe_int)) pe_int))
      (pss_cons (ps_set (i := 2) sc__law_mixed.nd rfl (by first | exact Or.inl rfl | exact Or.inr rfl) (pe_op op_mod (pe_op op_mul (pe_op op_add (pv 2) (pe_op op_mul (pe_op op_mod (pe_op op_fdivW (pv 0) pe_int) pe_int) (pe_op op_add (pv 1) pe_int))) pe_int) pe_int))
      (pss_cons (ps_set (i := 2) sc__law_mixed.nd rfl (by first | exact Or.inl rfl | exact Or.inr rfl) (pe_op op_mod (pe_op op_mul (pv 2) (pe_op op_add (pe_op op_add (pe_op op_fdivW (pv 2) pe_int) pe_int) (pv 1))) pe_int))
      (pss_one (ps_ret (pe_op op_mod (pe_op op_mul (pv 2) (pe_op op_add (pe_op op_fdivW (pv 2) pe_int) pe_int)) pe_int))))))), ?_⟩
    try simp only [kx1, kx2, kx3, kx4, kx5]
    refine ⟨_, rfl, _, _, rfl, rfl, (by show (0 : Int) < 2147483646; decide), _, _, rfl, rfl, _, rfl, _, _, rfl, rfl, .inr (by decide), _, _, rfl, rfl, _, _, rfl, rfl, .inl (by omega), _, _, rfl, rfl, (by show (0 : Int) < 2147483647; decide), ?_⟩
    have h1 := Int.emod_nonneg ((c % 2147483646 + 1) * (k * 7919 + 104729)) (show (2147483647 : Int) ≠ 0 by decide)
    have h2 := Int.emod_lt_of_pos ((c % 2147483646 + 1) * (k * 7919 + 104729)) (show (0 : Int) < 2147483647 by decide)
    generalize ((c % 2147483646 + 1) * (k * 7919 + 104729)) % 2147483647 = n1 at h1 h2 ⊢
    refine ⟨_, rfl, _, rfl, _, _, rfl, rfl, wide_div (b := 40) (by decide) (by decide) (by decide) (by decide), _, _, rfl, rfl, (by show (0 : Int) < 1000003; decide), _, rfl, _, _, rfl, rfl, _, _, rfl, rfl, .inl (by omega), _, _, rfl, rfl, _, _, rfl, rfl, .inr (by decide), _, _, rfl, rfl, (by show (0 : Int) < 2147483629; decide), ?_⟩
    have h3 := Int.emod_nonneg ((n1 + c / 2147483646 % 1000003 * (k + 31)) * 48271) (show (2147483629 : Int) ≠ 0 by decide)
    have h4 := Int.emod_lt_of_pos ((n1 + c / 2147483646 % 1000003 * (k + 31)) * 48271) (show (0 : Int) < 2147483629 by decide)
    generalize ((n1 + c / 2147483646 % 1000003 * (k + 31)) * 48271) % 2147483629 = n2 at h3 h4 ⊢
    refine ⟨_, rfl, _, rfl, _, _, rfl, rfl, wide_div (b := 40) (by decide) (by decide) (by decide) (by decide), _, _, rfl, rfl, _, rfl, _, _, rfl, rfl, _, _, rfl, rfl, .inl (by omega), _, _, rfl, rfl, (by show (0 : Int) < 2147483587; decide), ?_⟩
    have h5 := Int.emod_nonneg (n2 * (n2 / 1013 + 69621 + k)) (show (2147483587 : Int) ≠ 0 by decide)
    have h6 := Int.emod_lt_of_pos (n2 * (n2 / 1013 + 69621 + k)) (show (0 : Int) < 2147483587 by decide)
    generalize (n2 * (n2 / 1013 + 69621 + k)) % 2147483587 = n3 at h5 h6 ⊢
    exact ⟨_, rfl, _, rfl, _, _, rfl, rfl, wide_div (b := 40) (by decide) (by decide) (by decide) (by decide), _, _, rfl, rfl, _, _, rfl, rfl, .inl (by omega), _, _, rfl, rfl, (by show (0 : Int) < 2147483563; decide), kk _⟩
theorem okO__law_take {P : Program} {w : World} {K : PySem.W.Frag} {mg : Str → Option Value} {base : Heap} {fd : FuncData} (T : Txt K mg) (F : FunD K "_law_take" "_law_take" (defArgs s__law_take) (defBody s__law_take) (defScope s__law_take) [] [] (He.ga K "_law_take") fd)
    (C__law_mixed : Cal P w K mg base 1 (He.ga K "_law_mixed") ["_law_cell", "_law_k"] (spMixed)) : FnOk P w K mg base (L2.CX P w) 2 (He.ga K "_law_take") fd ["_law_source_here", "_law_many"] (spTake) := by
  refine FunD.ok F sc__law_take (fun vs H Q E h => ?_) (fun cdv A outer s H vs Q E hr h => ?_)
  · obtain ⟨a, m, rfl, m0, m1, ⟨x, c, k, ha⟩, kk⟩ := h
    rfl
  · obtain ⟨a, m, rfl, m0, m1, ⟨x, c, k, ha⟩, kk⟩ := h
    refine ⟨_, (PSs.nox (pss_cons (ps_if (pt_cmpR op_ge (pe_ix ix_list (pv 0) pe_int (fun _ _ => rfl)) (pe_op op_pow pe_int pe_int) (nomark _)) (pss_cons (ps_set (i := 2) sc__law_take.nd rfl (by first | exact Or.inl rfl | exact Or.inr rfl) (pe_op op_mod (pe_ix ix_list (pv 0) pe_int (fun _ _ => rfl)) (pv 1)))
      (pss_cons (ps_asg (pe_op op_fdivW (pe_ix ix_list (pv 0) pe_int (fun _ _ => rfl)) (pv 1)) (pg_sub (pv 0) pe_int set_list))
      (pss_one (ps_ret (pv 2))))) pss_nil)
      (pss_cons (ps_asg (pe_op op_add (pe_ix ix_list (pv 0) pe_int (fun _ _ => rfl)) pe_int) (pg_sub (pv 0) pe_int set_list))
      (pss_one (ps_ret (pe_op op_mod (pe_cal C__law_mixed (hr.mono (by decide)) (by rfl) T.g__law_mixed pL (pa_cons (pe_ix ix_list (pv 0) pe_int (fun _ _ => rfl)) (pa_cons (pe_ix ix_list (pv 0) pe_int (fun _ _ => rfl)) pa_nil))) (pv 1))))))), ?_⟩
    try simp only [kx1, kx2, kx3, kx4, kx5]
    refine ⟨_, rfl, a, _, _, _, rfl, rfl, SqL.of ha, rfl, _, _, rfl, rfl, (show CPow 10 18 from ⟨by decide, by decide, by decide⟩), _, _, rfl, rfl, _, rfl, ?_⟩
    have dv : CDivW x m := wide_div (b := 62) m0 (by omega) (by decide) (by decide)
    by_cases hx : (10 : Int) ^ (18 : Int).toNat ≤ x
    · refine if_true_of (decide_eq_true hx) ?_
      refine ⟨_, rfl, a, _, _, _, rfl, rfl, SqL.of ha, rfl, _, rfl, _, _, rfl, rfl, m0, ?_⟩
      refine ⟨_, rfl, a, _, _, _, rfl, rfl, SqL.of ha, rfl, _, rfl, _, _, rfl, rfl, dv, ?_⟩
      refine ⟨_, rfl, a, _, _, 0, rfl, rfl, ha, rfl, ?_⟩
      refine ⟨_, rfl, ?_⟩
      exact kk _ _ (Int.emod_nonneg _ (by omega)) (Int.emod_lt_of_pos _ m0) ⟨_, _, _, upd_same⟩ (.put ha)
    · refine if_false_of (decide_eq_false hx) ?_
      refine ⟨_, rfl, a, _, _, _, rfl, rfl, SqL.of ha, rfl, _, _, rfl, rfl, ?_⟩
      refine ⟨_, rfl, a, _, _, 2, rfl, rfl, ha, rfl, ?_⟩
      refine ⟨_, rfl, a, _, _, _, rfl, rfl, SqL.of upd_same, rfl, _, rfl, a, _, _, _, rfl, rfl, SqL.of upd_same, rfl, c, k + 1, rfl, fun r => ?_⟩
      refine ⟨_, rfl, _, _, rfl, rfl, m0, ?_⟩
      exact kk _ _ (Int.emod_nonneg _ (by omega)) (Int.emod_lt_of_pos _ m0) ⟨_, _, _, upd_same⟩ (.put ha)
theorem ok__law_take {P : Program} {w : World} {K : PySem.W.Frag} {mg : Str → Option Value} {base : Heap} {fd : FuncData} (T : Txt K mg) (F : FunD K "_law_take" "_law_take" (defArgs s__law_take) (defBody s__law_take) (defScope s__law_take) [] [] (He.ga K "_law_take") fd)
    (C__law_mixed : Cal P w K mg base 1 (He.ga K "_law_mixed") ["_law_cell", "_law_k"] (spMixed)) : FnOk P w K mg base (L2.CX P w) 2 (He.ga K "_law_take") fd ["_law_source_here", "_law_many"] (spV K 2 mTake) := take_V (okO__law_take T F C__law_mixed)
theorem ok__law_spoilt {P : Program} {w : World} {K : PySem.W.Frag} {mg : Str → Option Value} {base : Heap} {fd : FuncData} (T : Txt K mg) (F : FunD K "_law_spoilt" "_law_spoilt" (defArgs s__law_spoilt) (defBody s__law_spoilt) (defScope s__law_spoilt) [] [] (He.ga K "_law_spoilt") fd)
    (C__law_take : Cal P w K mg base 2 (He.ga K "_law_take") ["_law_source_here", "_law_many"] (spV K 2 mTake)) : FnOk P w K mg base (L2.CX P w) 3 (He.ga K "_law_spoilt") fd ["_law_source_here", "_law_parts", "_law_at"] (spV K 3 m__law_spoilt) := by
  refine FunD.ok F sc__law_spoilt (fun vs H Q E h => spV_len h) (fun cdv A outer s H vs Q E hr h => ?_)
  have tk : Takes (cxOf (L2.CX P w) P w K mg base ["_law_source_here", "_law_parts", "_law_at", "_law_odd", "_law_minute", "_law_vias", "_law_found"] "_law_spoilt" (defScope s__law_spoilt) (He.ga K "_law_spoilt") cdv A outer s H E) (fun cls d _ H => E cls d H) := takes_of rfl rfl rfl rfl
  have po : PassesOwn (model P w) _ _ (cxOf (L2.CX P w) P w K mg base ["_law_source_here", "_law_parts", "_law_at", "_law_odd", "_law_minute", "_law_vias", "_law_found"] "_law_spoilt" (defScope s__law_spoilt) (He.ga K "_law_spoilt") cdv A outer s H E).xe := passes_of rfl
  exact ⟨_, (show VSs _ (fun cls d _ H => E cls d H) _ _ from (vss_cons (vs_set (i := 3) sc__law_spoilt.nd rfl (by first | exact Or.inl rfl | exact Or.inr rfl) (ve_lst (va_cons ve_str (va_cons ve_str (va_cons ve_str (va_cons ve_non (va_cons ve_int (va_cons ve_bl (va_cons (ve_lst (va_cons ve_str va_nil)) (va_cons ve_str va_nil))))))))))
      (vss_cons (vs_set (i := 4) sc__law_spoilt.nd rfl (by first | exact Or.inl rfl | exact Or.inr rfl) (ve_lst (va_cons (ve_neg ve_int) (va_cons ve_int (va_cons ve_bl (va_cons ve_str (va_cons ve_non (va_cons (ve_op o_pow ve_int ve_int) (va_cons (ve_tup (va_cons ve_int va_nil)) va_nil)))))))))
      (vss_cons (vs_set (i := 5) sc__law_spoilt.nd rfl (by first | exact Or.inl rfl | exact Or.inr rfl) (ve_lst (va_cons (ve_tup va_nil) (va_cons ve_str (va_cons (ve_lst (va_cons ve_str (va_cons ve_str va_nil))) (va_cons (ve_lst (va_cons ve_str (va_cons ve_str va_nil))) (va_cons (ve_lst (va_cons ve_non va_nil)) (va_cons ve_int (va_cons ve_bl (va_cons ve_dnewK va_nil))))))))))
      (vss_cons (vs_set (i := 6) sc__law_spoilt.nd rfl (by first | exact Or.inl rfl | exact Or.inr rfl) (ve_fnT c_list (by rfl) T.f_list (by decide +kernel) (va_cons (ve_var 1) va_nil)))
      (vss_cons (vs_if (vb_cmp (o_eq hr.units) (ve_var 2) ve_int (nomark _)) (vss_one (vs_asg (ve_ix o_ix (ve_var 3) (ve_callO (bi := [0]) C__law_take (hr.mono (by decide)) (by rfl) T.g__law_take (fun σ => passAt tk σ) (vo_cons (ve_ld 0) (vo_cons (ve_fz ve_int) vo_nil))) (fun _ _ => rfl)) (vg_lput (pv 6) ve_int))) vss_nil)
      (vss_cons (vs_if (vb_cmp (o_eq hr.units) (ve_var 2) ve_int (nomark _)) (vss_one (vs_asg (ve_ix o_ix (ve_op o_catL (ve_var 3) (ve_lst (va_cons (ve_ixL (pv 6) ve_int (fun _ _ => rfl)) va_nil))) (ve_callO (bi := [0]) C__law_take (hr.mono (by decide)) (by rfl) T.g__law_take (fun σ => passAt tk σ) (vo_cons (ve_ld 0) (vo_cons (ve_fz ve_int) vo_nil))) (fun _ _ => rfl)) (vg_lput (pv 6) ve_int))) vss_nil)
      (vss_cons (vs_if (vb_cmp (o_eq hr.units) (ve_var 2) ve_int (nomark _)) (vss_one (vs_asg (ve_ix o_ix (ve_var 4) (ve_callO (bi := [0]) C__law_take (hr.mono (by decide)) (by rfl) T.g__law_take (fun σ => passAt tk σ) (vo_cons (ve_ld 0) (vo_cons (ve_fz ve_int) vo_nil))) (fun _ _ => rfl)) (vg_lput (pv 6) ve_int))) vss_nil)
      (vss_cons (vs_if (vb_cmp (o_eq hr.units) (ve_var 2) ve_int (nomark _)) (vss_one (vs_asg (ve_ix o_ix (ve_op o_catL (ve_var 4) (ve_lst (va_cons (ve_lst (va_cons (ve_ixL (pv 6) ve_int (fun _ _ => rfl)) va_nil)) (va_cons (ve_neg ve_int) va_nil)))) (ve_callO (bi := [0]) C__law_take (hr.mono (by decide)) (by rfl) T.g__law_take (fun σ => passAt tk σ) (vo_cons (ve_ld 0) (vo_cons (ve_fz ve_int) vo_nil))) (fun _ _ => rfl)) (vg_lput (pv 6) ve_int))) vss_nil)
      (vss_cons (vs_if (vb_cmp (o_eq hr.units) (ve_var 2) ve_int (nomark _)) (vss_one (vs_asg (ve_ix o_ix (ve_var 5) (ve_callO (bi := [0]) C__law_take (hr.mono (by decide)) (by rfl) T.g__law_take (fun σ => passAt tk σ) (vo_cons (ve_ld 0) (vo_cons (ve_fz ve_int) vo_nil))) (fun _ _ => rfl)) (vg_lput (pv 6) ve_int))) vss_nil)
      (vss_cons (vs_if (vb_cmp (o_eq hr.units) (ve_var 2) ve_int (nomark _)) (vss_one (vs_asg (ve_ix o_ix (ve_lst (va_cons ve_str (va_cons ve_str (va_cons ve_str (va_cons ve_int (va_cons ve_bl (va_cons (ve_lst (va_cons ve_str va_nil)) va_nil))))))) (ve_callO (bi := [0]) C__law_take (hr.mono (by decide)) (by rfl) T.g__law_take (fun σ => passAt tk σ) (vo_cons (ve_ld 0) (vo_cons (ve_fz ve_int) vo_nil))) (fun _ _ => rfl)) (vg_lput (pv 6) ve_int))) vss_nil)
      (vss_cons (vs_if (vb_cmp (o_eq hr.units) (ve_var 2) ve_int (nomark _)) (vss_one (vs_asg (ve_ix o_ix (ve_lst (va_cons ve_int (va_cons ve_int (va_cons ve_non (va_cons ve_str (va_cons (ve_lst (va_cons ve_bl va_nil)) va_nil)))))) (ve_callO (bi := [0]) C__law_take (hr.mono (by decide)) (by rfl) T.g__law_take (fun σ => passAt tk σ) (vo_cons (ve_ld 0) (vo_cons (ve_fz ve_int) vo_nil))) (fun _ _ => rfl)) (vg_lput (pv 6) ve_int))) vss_nil)
      (vss_one (vs_ret (ve_mv 6))))))))))))))), body_ok (N := ["_law_source_here", "_law_parts", "_law_at", "_law_odd", "_law_minute", "_law_vias", "_law_found"]) (by decide) h⟩
theorem ok__law_told {P : Program} {w : World} {K : PySem.W.Frag} {mg : Str → Option Value} {base : Heap} {fd : FuncData} (T : Txt K mg) (F : FunD K "_law_told" "_law_told" (defArgs s__law_told) (defBody s__law_told) (defScope s__law_told) [] [] (He.ga K "_law_told") fd)
     : FnOk P w K mg base (L2.CX P w) 1 (He.ga K "_law_told") fd ["_law_one"] (spV K 1 m__law_told) := by
  refine FunD.ok F sc__law_told (fun vs H Q E h => spV_len h) (fun cdv A outer s H vs Q E hr h => ?_)
  have tk : Takes (cxOf (L2.CX P w) P w K mg base ["_law_one"] "_law_told" (defScope s__law_told) (He.ga K "_law_told") cdv A outer s H E) (fun cls d _ H => E cls d H) := takes_of rfl rfl rfl rfl
  have po : PassesOwn (model P w) _ _ (cxOf (L2.CX P w) P w K mg base ["_law_one"] "_law_told" (defScope s__law_told) (He.ga K "_law_told") cdv A outer s H E).xe := passes_of rfl
  exact ⟨_, (show VSs _ (fun cls d _ H => E cls d H) _ _ from (vss_one (vs_ret (ve_lst (va_cons (ve_fld (c := "Ticket") T.cl_Ticket T.n_Ticket_here (ve_var 0) rfl) (va_cons (ve_fld (c := "Ticket") T.cl_Ticket T.n_Ticket_there (ve_var 0) rfl) (va_cons (ve_fld (c := "Ticket") T.cl_Ticket T.n_Ticket_since (ve_var 0) rfl) (va_cons (ve_fld (c := "Ticket") T.cl_Ticket T.n_Ticket_till (ve_var 0) rfl) (va_cons (ve_fld (c := "Ticket") T.cl_Ticket T.n_Ticket_via (ve_var 0) rfl) (va_cons (ve_fld (c := "Ticket") T.cl_Ticket T.n_Ticket_bound (ve_var 0) rfl) (va_cons (ve_fld (c := "Ticket") T.cl_Ticket T.n_Ticket_breaks (ve_var 0) rfl) va_nil))))))))))), body_ok (N := ["_law_one"]) (by decide) h⟩
theorem ok_Ticket_clauses {P : Program} {w : World} {K : PySem.W.Frag} {mg : Str → Option Value} {base : Heap} {fd : FuncData} (T : Txt K mg) (F : FunD K "clauses" "Ticket.clauses" (defArgs s_Ticket_clauses) (defBody s_Ticket_clauses) (defScope s_Ticket_clauses) [] [] (He.ma K (He.ga K "Ticket") "clauses") fd)
     : FnOk P w K mg base (L2.CX P w) 1 (He.ma K (He.ga K "Ticket") "clauses") fd ["self"] (spV K 1 m_Ticket_clauses) := by
  refine FunD.ok F sc_Ticket_clauses (fun vs H Q E h => spV_len h) (fun cdv A outer s H vs Q E hr h => ?_)
  have tk : Takes (cxOf (L2.CX P w) P w K mg base ["self"] "Ticket.clauses" (defScope s_Ticket_clauses) (He.ma K (He.ga K "Ticket") "clauses") cdv A outer s H E) (fun cls d _ H => E cls d H) := takes_of rfl rfl rfl rfl
  have po : PassesOwn (model P w) _ _ (cxOf (L2.CX P w) P w K mg base ["self"] "Ticket.clauses" (defScope s_Ticket_clauses) (He.ma K (He.ga K "Ticket") "clauses") cdv A outer s H E).xe := passes_of rfl
  exact ⟨_, (show VSs _ (fun cls d _ H => E cls d H) _ _ from (vss_one (vs_ret (ve_tup (va_cons (ve_fld (c := "Ticket") T.cl_Ticket T.n_Ticket_here (ve_var 0) rfl) (va_cons (ve_fld (c := "Ticket") T.cl_Ticket T.n_Ticket_there (ve_var 0) rfl) (va_cons (ve_fld (c := "Ticket") T.cl_Ticket T.n_Ticket_since (ve_var 0) rfl) (va_cons (ve_fld (c := "Ticket") T.cl_Ticket T.n_Ticket_till (ve_var 0) rfl) (va_cons (ve_fld (c := "Ticket") T.cl_Ticket T.n_Ticket_via (ve_var 0) rfl) (va_cons (ve_fld (c := "Ticket") T.cl_Ticket T.n_Ticket_bound (ve_var 0) rfl) (va_cons (ve_fld (c := "Ticket") T.cl_Ticket T.n_Ticket_breaks (ve_var 0) rfl) va_nil))))))))))), body_ok (N := ["self"]) (by decide) h⟩
theorem ok_Ticketdd_eqdd {P : Program} {w : World} {K : PySem.W.Frag} {mg : Str → Option Value} {base : Heap} {fd : FuncData} (T : Txt K mg) (F : FunD K "__eq__" "Ticket.__eq__" (defArgs s_Ticketdd_eqdd) (defBody s_Ticketdd_eqdd) (defScope s_Ticketdd_eqdd) [] [] (He.ma K (He.ga K "Ticket") "__eq__") fd)
    (C_Ticket_clauses : Cal P w K mg base 1 (He.ma K (He.ga K "Ticket") "clauses") ["self"] (spV K 1 m_Ticket_clauses)) : FnOk P w K mg base (L2.CX P w) 2 (He.ma K (He.ga K "Ticket") "__eq__") fd ["self", "other"] (spV K 2 m_Ticketdd_eqdd) := by
  refine FunD.ok F sc_Ticketdd_eqdd (fun vs H Q E h => spV_len h) (fun cdv A outer s H vs Q E hr h => ?_)
  have tk : Takes (cxOf (L2.CX P w) P w K mg base ["self", "other"] "Ticket.__eq__" (defScope s_Ticketdd_eqdd) (He.ma K (He.ga K "Ticket") "__eq__") cdv A outer s H E) (fun cls d _ H => E cls d H) := takes_of rfl rfl rfl rfl
  have po : PassesOwn (model P w) _ _ (cxOf (L2.CX P w) P w K mg base ["self", "other"] "Ticket.__eq__" (defScope s_Ticketdd_eqdd) (He.ma K (He.ga K "Ticket") "__eq__") cdv A outer s H E).xe := passes_of rfl
  exact ⟨_, (show VSs _ (fun cls d _ H => E cls d H) _ _ from (vss_one (vs_ret (ve_and (ve_isO (c := "Ticket") T.k_Ticket T.cl_Ticket (by rfl) T.f_isinstance (ve_var 1) (pe_glob (v := .ref (He.ga K "Ticket")) (by rfl) T.g_Ticket rfl)) (ve_one (ve_cmp (o_eq hr.units) (ve_met0 (c := "Ticket") (ve_var 0) T.cl_Ticket T.m_Ticket_clauses C_Ticket_clauses (hr.mono (by decide)) (fun σ => passAt tk σ)) (ve_met0 (c := "Ticket") (ve_var 1) T.cl_Ticket T.m_Ticket_clauses C_Ticket_clauses (hr.mono (by decide)) (fun σ => passAt tk σ)) (nomark _))))))), body_ok (N := ["self", "other"]) (by decide) h⟩
theorem ok__law_names {P : Program} {w : World} {K : PySem.W.Frag} {mg : Str → Option Value} {base : Heap} {fd : FuncData} (T : Txt K mg) (F : FunD K "_law_names" "_law_names" (defArgs s__law_names) (defBody s__law_names) (defScope s__law_names) [] [] (He.ga K "_law_names") fd)
    (C__law_take : Cal P w K mg base 2 (He.ga K "_law_take") ["_law_source_here", "_law_many"] (spV K 2 mTake)) : FnOk P w K mg base (L2.CX P w) 3 (He.ga K "_law_names") fd ["_law_source_here", "_law_many"] (spV K 2 m__law_names) := by
  refine FunD.ok F sc__law_names (fun vs H Q E h => spV_len h) (fun cdv A outer s H vs Q E hr h => ?_)
  have tk : Takes (cxOf (L2.CX P w) P w K mg base ["_law_source_here", "_law_many", "_law_letters", "_law_start", "_law_stem", "_law_k", "_law_at", "_law_names_here", "_law_word"] "_law_names" (defScope s__law_names) (He.ga K "_law_names") cdv A outer s H E) (fun cls d _ H => E cls d H) := takes_of rfl rfl rfl rfl
  have po : PassesOwn (model P w) _ _ (cxOf (L2.CX P w) P w K mg base ["_law_source_here", "_law_many", "_law_letters", "_law_start", "_law_stem", "_law_k", "_law_at", "_law_names_here", "_law_word"] "_law_names" (defScope s__law_names) (He.ga K "_law_names") cdv A outer s H E).xe := passes_of rfl
  exact ⟨_, (show VSs _ (fun cls d _ H => E cls d H) _ _ from (vss_cons (vs_set (i := 2) sc__law_names.nd rfl (by first | exact Or.inl rfl | exact Or.inr rfl) ve_str)
      (vss_cons (vs_set (i := 3) sc__law_names.nd rfl (by first | exact Or.inl rfl | exact Or.inr rfl) (ve_callO (bi := [0]) C__law_take (hr.mono (by decide)) (by rfl) T.g__law_take (fun σ => passAt tk σ) (vo_cons (ve_ld 0) (vo_cons (ve_fz ve_int) vo_nil))))
      (vss_cons (vs_set (i := 4) sc__law_names.nd rfl (by first | exact Or.inl rfl | exact Or.inr rfl) (ve_join ve_str (ve_lc (own := [("_law_k", 5)]) (by rfl) sc__law_names.nd (vi_range1 (by rfl) T.f_range (va_cons ve_int va_nil)) (blkOk_by (own := [("_law_k", 5)]) (N := ["_law_source_here", "_law_many", "_law_letters", "_law_start", "_law_stem", "_law_k", "_law_at", "_law_names_here", "_law_word"]) (sc := defScope s__law_names) (by decide +kernel)) (by decide) (fun _ _ _ _ _ => (vg_name (i := 5) sc__law_names.nd rfl (by first | exact Or.inl rfl | exact Or.inr rfl))) (fun _ _ _ _ _ => vts_nil) (fun _ _ _ _ _ => (ve_ix o_ix (ve_var 2) (ve_callO (bi := [0]) C__law_take (hr.mono (by decide)) (by rfl) T.g__law_take (fun σ => pL σ) (vo_cons (ve_ld 0) (vo_cons (ve_fz ve_int) vo_nil))) (fun _ _ => rfl))))))
      (vss_cons (vs_set (i := 6) sc__law_names.nd rfl (by first | exact Or.inl rfl | exact Or.inr rfl) (ve_callO (bi := [0]) C__law_take (hr.mono (by decide)) (by rfl) T.g__law_take (fun σ => passAt tk σ) (vo_cons (ve_ld 0) (vo_cons (ve_fz ve_int) vo_nil))))
      (vss_cons (vs_set (i := 7) sc__law_names.nd rfl (by first | exact Or.inl rfl | exact Or.inr rfl) (ve_lst va_nil))
      (vss_cons (vs_for po (by rfl) (vi_range1 (by rfl) T.f_range (va_cons (ve_var 1) va_nil)) (vg_name (i := 5) sc__law_names.nd rfl (by first | exact Or.inl rfl | exact Or.inr rfl)) (vss_cons (vs_set (i := 8) sc__law_names.nd rfl (by first | exact Or.inl rfl | exact Or.inr rfl) (ve_op o_addS (ve_slice s_str (ve_var 4) vp_none (vp_some (ve_var 6))) (ve_ix o_ix (ve_var 2) (ve_op o_mod (ve_op o_add (ve_var 3) (ve_op o_mul ve_int (ve_var 5))) ve_int) (fun _ _ => rfl))))
      (vss_one (vs_expr (ve_append (pv 7) (va_cons (ve_op o_addS (ve_var 8) (ve_slice s_str (ve_var 4) (vp_some (ve_var 6)) (vp_some (ve_op o_add (ve_var 6) (ve_callO (bi := [0]) C__law_take (hr.mono (by decide)) (by rfl) T.g__law_take (fun σ => passAt tk σ) (vo_cons (ve_ld 0) (vo_cons (ve_fz ve_int) vo_nil))))))) va_nil))))))
      (vss_one (vs_ret (ve_mv 7)))))))))), body_ok (N := ["_law_source_here", "_law_many", "_law_letters", "_law_start", "_law_stem", "_law_k", "_law_at", "_law_names_here", "_law_word"]) (by decide) h⟩
theorem ok__law_good {P : Program} {w : World} {K : PySem.W.Frag} {mg : Str → Option Value} {base : Heap} {fd : FuncData} (T : Txt K mg) (F : FunD K "_law_good" "_law_good" (defArgs s__law_good) (defBody s__law_good) (defScope s__law_good) [] [] (He.ga K "_law_good") fd)
    (C__law_take : Cal P w K mg base 2 (He.ga K "_law_take") ["_law_source_here", "_law_many"] (spV K 2 mTake))
    (C__law_names : Cal P w K mg base 3 (He.ga K "_law_names") ["_law_source_here", "_law_many"] (spV K 2 m__law_names)) : FnOk P w K mg base (L2.CX P w) 4 (He.ga K "_law_good") fd ["_law_source_here"] (spV K 1 m__law_good) := by
  refine FunD.ok F sc__law_good (fun vs H Q E h => spV_len h) (fun cdv A outer s H vs Q E hr h => ?_)
  have tk : Takes (cxOf (L2.CX P w) P w K mg base ["_law_source_here", "_law_names_here", "_law_opening", "_law_closing", "_law_over_places", "_law_bound"] "_law_good" (defScope s__law_good) (He.ga K "_law_good") cdv A outer s H E) (fun cls d _ H => E cls d H) := takes_of rfl rfl rfl rfl
  have po : PassesOwn (model P w) _ _ (cxOf (L2.CX P w) P w K mg base ["_law_source_here", "_law_names_here", "_law_opening", "_law_closing", "_law_over_places", "_law_bound"] "_law_good" (defScope s__law_good) (He.ga K "_law_good") cdv A outer s H E).xe := passes_of rfl
  exact ⟨_, (show VSs _ (fun cls d _ H => E cls d H) _ _ from (vss_cons (vs_set (i := 1) sc__law_good.nd rfl (by first | exact Or.inl rfl | exact Or.inr rfl) (ve_callO (bi := [0]) C__law_names (hr.mono (by decide)) (by rfl) T.g__law_names (fun σ => passAt tk σ) (vo_cons (ve_ld 0) (vo_cons (ve_fz ve_int) vo_nil))))
      (vss_cons (vs_set (i := 2) sc__law_good.nd rfl (by first | exact Or.inl rfl | exact Or.inr rfl) (ve_ix o_ix (ve_lst (va_cons ve_int (va_cons ve_int (va_cons (ve_callO (bi := [0]) C__law_take (hr.mono (by decide)) (by rfl) T.g__law_take (fun σ => passAt tk σ) (vo_cons (ve_ld 0) (vo_cons (ve_fz ve_int) vo_nil))) va_nil)))) (ve_callO (bi := [0]) C__law_take (hr.mono (by decide)) (by rfl) T.g__law_take (fun σ => passAt tk σ) (vo_cons (ve_ld 0) (vo_cons (ve_fz ve_int) vo_nil))) (fun _ _ => rfl)))
      (vss_cons (vs_set (i := 3) sc__law_good.nd rfl (by first | exact Or.inl rfl | exact Or.inr rfl) (ve_ix o_ix (ve_lst (va_cons ve_int (va_cons (ve_var 2) (va_cons (ve_op o_add (ve_var 2) (ve_callO (bi := [0]) C__law_take (hr.mono (by decide)) (by rfl) T.g__law_take (fun σ => passAt tk σ) (vo_cons (ve_ld 0) (vo_cons (ve_fz (ve_op o_sub ve_int (ve_var 2))) vo_nil)))) va_nil)))) (ve_callO (bi := [0]) C__law_take (hr.mono (by decide)) (by rfl) T.g__law_take (fun σ => passAt tk σ) (vo_cons (ve_ld 0) (vo_cons (ve_fz ve_int) vo_nil))) (fun _ _ => rfl)))
      (vss_cons (vs_set (i := 4) sc__law_good.nd rfl (by first | exact Or.inl rfl | exact Or.inr rfl) (ve_ix o_ix (ve_lst (va_cons ve_non (va_cons (ve_lst va_nil) (va_cons (ve_slice s_list (ve_var 1) (vp_some ve_int) (vp_some (ve_op o_add ve_int (ve_callO (bi := [0]) C__law_take (hr.mono (by decide)) (by rfl) T.g__law_take (fun σ => passAt tk σ) (vo_cons (ve_ld 0) (vo_cons (ve_fz ve_int) vo_nil)))))) va_nil)))) (ve_callO (bi := [0]) C__law_take (hr.mono (by decide)) (by rfl) T.g__law_take (fun σ => passAt tk σ) (vo_cons (ve_ld 0) (vo_cons (ve_fz ve_int) vo_nil))) (fun _ _ => rfl)))
      (vss_cons (vs_set (i := 5) sc__law_good.nd rfl (by first | exact Or.inl rfl | exact Or.inr rfl) (ve_ix o_ix (ve_lst (va_cons ve_non (va_cons (ve_ix o_ix (ve_var 1) ve_int (fun _ _ => rfl)) va_nil))) (ve_callO (bi := [0]) C__law_take (hr.mono (by decide)) (by rfl) T.g__law_take (fun σ => passAt tk σ) (vo_cons (ve_ld 0) (vo_cons (ve_fz ve_int) vo_nil))) (fun _ _ => rfl)))
      (vss_one (vs_ret (ve_lst (va_cons (ve_ix o_ix (ve_var 1) ve_int (fun _ _ => rfl)) (va_cons (ve_ix o_ix (ve_var 1) ve_int (fun _ _ => rfl)) (va_cons (ve_var 2) (va_cons (ve_var 3) (va_cons (ve_var 4) (va_cons (ve_var 5) (va_cons (ve_cmp (o_eq hr.units) (ve_callO (bi := [0]) C__law_take (hr.mono (by decide)) (by rfl) T.g__law_take (fun σ => passAt tk σ) (vo_cons (ve_ld 0) (vo_cons (ve_fz ve_int) vo_nil))) ve_int (nomark _)) va_nil)))))))))))))))), body_ok (N := ["_law_source_here", "_law_names_here", "_law_opening", "_law_closing", "_law_over_places", "_law_bound"]) (by decide) h⟩
theorem ok__law_equal_right {P : Program} {w : World} {K : PySem.W.Frag} {mg : Str → Option Value} {base : Heap} {fd : FuncData} (T : Txt K mg) (F : FunD K "_law_equal_right" "_law_equal_right" (defArgs s__law_equal_right) (defBody s__law_equal_right) (defScope s__law_equal_right) [] [] (He.ga K "_law_equal_right") fd)
    (C_Ticketdd_eqdd : Cal P w K mg base 2 (He.ma K (He.ga K "Ticket") "__eq__") ["self", "other"] (spV K 2 m_Ticketdd_eqdd))
    (C__law_ticket : Cal P w K mg base 5 (He.ga K "_law_ticket") ["_law_parts"] (spV K 1 m__law_ticket))
    (C__law_good : Cal P w K mg base 4 (He.ga K "_law_good") ["_law_source_here"] (spV K 1 m__law_good)) : FnOk P w K mg base (L2.CX P w) 6 (He.ga K "_law_equal_right") fd ["_law_source_here", "_law_parts", "_law_one"] (spV K 3 m__law_equal_right) := by
  refine FunD.ok F sc__law_equal_right (fun vs H Q E h => spV_len h) (fun cdv A outer s H vs Q E hr h => ?_)
  have tk : Takes (cxOf (L2.CX P w) P w K mg base ["_law_source_here", "_law_parts", "_law_one", "_law_others", "_law_at", "_law_mixed_here", "_law_odd"] "_law_equal_right" (defScope s__law_equal_right) (He.ga K "_law_equal_right") cdv A outer s H E) (fun cls d _ H => E cls d H) := takes_of rfl rfl rfl rfl
  have po : PassesOwn (model P w) _ _ (cxOf (L2.CX P w) P w K mg base ["_law_source_here", "_law_parts", "_law_one", "_law_others", "_law_at", "_law_mixed_here", "_law_odd"] "_law_equal_right" (defScope s__law_equal_right) (He.ga K "_law_equal_right") cdv A outer s H E).xe := passes_of rfl
  exact ⟨_, (show VSs _ (fun cls d _ H => E cls d H) _ _ from (vss_cons (vs_set (i := 3) sc__law_equal_right.nd rfl (by first | exact Or.inl rfl | exact Or.inr rfl) (ve_callO (bi := [0]) C__law_good (hr.mono (by decide)) (by rfl) T.g__law_good (fun σ => passAt tk σ) (vo_cons (ve_ld 0) vo_nil)))
      (vss_cons (vs_if (VW.vb (vw_or (vb_cmp (o_neO T.k_Ticket T.cl_Ticket T.m_Ticket___eq__ C_Ticketdd_eqdd (hr.mono (by decide))) (ve_var 2) (ve_call C__law_ticket (hr.mono (by decide)) (by rfl) T.g__law_ticket (fun σ => passAt tk σ) (va_cons (ve_var 1) va_nil)) (nomark _)) (vw_or1 (vb_not (vb_cmp (o_eqO T.k_Ticket T.cl_Ticket T.m_Ticket___eq__ C_Ticketdd_eqdd (hr.mono (by decide))) (ve_var 2) (ve_call C__law_ticket (hr.mono (by decide)) (by rfl) T.g__law_ticket (fun σ => passAt tk σ) (va_cons (ve_var 1) va_nil)) (nomark _)))))) (vss_one (vs_ret ve_bl)) vss_nil)
      (vss_cons (vs_for po (by rfl) (vi_range1 (by rfl) T.f_range (va_cons ve_int va_nil)) (vg_name (i := 4) sc__law_equal_right.nd rfl (by first | exact Or.inl rfl | exact Or.inr rfl)) (vss_cons (vs_set (i := 5) sc__law_equal_right.nd rfl (by first | exact Or.inl rfl | exact Or.inr rfl) (ve_fnT c_list (by rfl) T.f_list (by decide +kernel) (va_cons (ve_var 1) va_nil)))
      (vss_cons (vs_asg (ve_ix o_ix (ve_var 3) (ve_var 4) (fun _ _ => rfl)) (vg_lput (pv 5) (ve_var 4)))
      (vss_cons (vs_if (VW.vb (vw_or (vb_cmp (o_eq hr.units) (ve_ix o_ix (ve_var 5) ve_int (fun _ _ => rfl)) (ve_ix o_ix (ve_var 5) ve_int (fun _ _ => rfl)) (nomark _)) (vw_or1 (vb_cmp o_gt (ve_ix o_ix (ve_var 5) ve_int (fun _ _ => rfl)) (ve_ix o_ix (ve_var 5) ve_int (fun _ _ => rfl)) (nomark _))))) (vss_one (vs_set (i := 5) sc__law_equal_right.nd rfl (by first | exact Or.inl rfl | exact Or.inr rfl) (ve_fnT c_list (by rfl) T.f_list (by decide +kernel) (va_cons (ve_var 1) va_nil)))) vss_nil)
      (vss_one (vs_if (vb_cmp (o_ne hr.units) (ve_cmp (o_eqO T.k_Ticket T.cl_Ticket T.m_Ticket___eq__ C_Ticketdd_eqdd (hr.mono (by decide))) (ve_var 2) (ve_call C__law_ticket (hr.mono (by decide)) (by rfl) T.g__law_ticket (fun σ => passAt tk σ) (va_cons (ve_var 5) va_nil)) (nomark _)) (ve_cmp (o_eq hr.units) (ve_var 5) (ve_var 1) (nomark _)) (nomark _)) (vss_one (vs_ret ve_bl)) vss_nil))))))
      (vss_one (vs_ret (ve_not (ve_fnB (c_any rfl) (by rfl) T.f_any (by decide +kernel) (va_cons (ve_lc (own := [("_law_odd", 6)]) (by rfl) sc__law_equal_right.nd (vi_list (ve_lst (va_cons (ve_var 1) (va_cons (ve_fnT c_tuple (by rfl) T.f_tuple (by decide +kernel) (va_cons (ve_var 1) va_nil)) (va_cons (ve_ix o_ix (ve_var 1) ve_int (fun _ _ => rfl)) (va_cons ve_non (va_cons ve_bl va_nil))))))) (blkOk_by (own := [("_law_odd", 6)]) (N := ["_law_source_here", "_law_parts", "_law_one", "_law_others", "_law_at", "_law_mixed_here", "_law_odd"]) (sc := defScope s__law_equal_right) (by decide +kernel)) (by decide) (fun _ _ _ _ _ => (vg_name (i := 6) sc__law_equal_right.nd rfl (by first | exact Or.inl rfl | exact Or.inr rfl))) (fun _ _ _ _ _ => vts_nil) (fun _ _ _ _ _ => (ve_cmp (o_eqO T.k_Ticket T.cl_Ticket T.m_Ticket___eq__ C_Ticketdd_eqdd (hr.mono (by decide))) (ve_var 2) (ve_var 6) (nomark _)))) va_nil))))))))), body_ok (N := ["_law_source_here", "_law_parts", "_law_one", "_law_others", "_law_at", "_law_mixed_here", "_law_odd"]) (by decide) h⟩
theorem okO__law_source {P : Program} {w : World} {K : PySem.W.Frag} {mg : Str → Option Value} {base : Heap} {fd : FuncData} (T : Txt K mg) (F : FunD K "_law_source" "_law_source" (defArgs s__law_source) (defBody s__law_source) (defScope s__law_source) [] [] (He.ga K "_law_source") fd)
     : FnOk P w K mg base (L2.CX P w) 1 (He.ga K "_law_source") fd ["_law_cell"] (spSource) := by
  refine FunD.ok F sc__law_source (fun vs H Q E h => ?_) (fun cdv A outer s H vs Q E hr h => ?_)
  · obtain ⟨c, rfl, kk⟩ := h
    rfl
  · obtain ⟨c, rfl, kk⟩ := h
    refine ⟨_, (PSs.nox (pss_one (ps_ret (pe_lst (pa_cons (pv 0) (pa_cons (pv 0) (pa_cons pe_int pa_nil))))))), ?_⟩
    try simp only [kx1, kx2, kx3, kx4, kx5]
    exact ⟨_, rfl, _, rfl, (by show 3 ≤ sizeLine; decide), fun p hp => kk p hp⟩
theorem ok__law_source {P : Program} {w : World} {K : PySem.W.Frag} {mg : Str → Option Value} {base : Heap} {fd : FuncData} (T : Txt K mg) (F : FunD K "_law_source" "_law_source" (defArgs s__law_source) (defBody s__law_source) (defScope s__law_source) [] [] (He.ga K "_law_source") fd)
     : FnOk P w K mg base (L2.CX P w) 1 (He.ga K "_law_source") fd ["_law_cell"] (spV K 1 mSource) := source_V (okO__law_source T F )
theorem ok_law {P : Program} {w : World} {K : PySem.W.Frag} {mg : Str → Option Value} {base : Heap} {fd : FuncData} (T : Txt K mg) (F : FunD K "law" "law" (defArgs s_law) (defBody s_law) (defScope s_law) [] [] (He.ga K "law") fd)
    (C__law_refused : Cal P w K mg base 6 (He.ga K "_law_refused") ["_law_parts"] (spV K 1 m__law_refused))
    (C__law_spoilt : Cal P w K mg base 3 (He.ga K "_law_spoilt") ["_law_source_here", "_law_parts", "_law_at"] (spV K 3 m__law_spoilt))
    (C__law_take : Cal P w K mg base 2 (He.ga K "_law_take") ["_law_source_here", "_law_many"] (spV K 2 mTake))
    (C__law_told : Cal P w K mg base 1 (He.ga K "_law_told") ["_law_one"] (spV K 1 m__law_told))
    (K_Ticket_init_0_there_here : CalK P w K mg base 3 (He.ma K (He.ga K "Ticket") "__init__") ["self", "here", "there", "since", "till", "via", "train", "breaks"] (spV K 8 m_Ticket_init) 1 ["there", "here"] (fun us ws => (us.drop 0).take 1 ++ ((ws.drop 1).take 1 ++ ((ws.drop 0).take 1 ++ ((([.int 0, .int 1440, .non, .non, .bl true] : List V).drop 0).take 1 ++ ((([.int 0, .int 1440, .non, .non, .bl true] : List V).drop 1).take 1 ++ ((([.int 0, .int 1440, .non, .non, .bl true] : List V).drop 2).take 1 ++ ((([.int 0, .int 1440, .non, .non, .bl true] : List V).drop 3).take 1 ++ ((([.int 0, .int 1440, .non, .non, .bl true] : List V).drop 4).take 1)))))))))
    (C__law_equal_right : Cal P w K mg base 6 (He.ga K "_law_equal_right") ["_law_source_here", "_law_parts", "_law_one"] (spV K 3 m__law_equal_right))
    (C__law_ticket : Cal P w K mg base 5 (He.ga K "_law_ticket") ["_law_parts"] (spV K 1 m__law_ticket))
    (C__law_good : Cal P w K mg base 4 (He.ga K "_law_good") ["_law_source_here"] (spV K 1 m__law_good))
    (C__law_source : Cal P w K mg base 1 (He.ga K "_law_source") ["_law_cell"] (spV K 1 mSource)) : FnOk P w K mg base (L2.CX P w) 7 (He.ga K "law") fd ["_law_script"] (spV K 1 m_law) := by
  refine FunD.ok F sc_law (fun vs H Q E h => spV_len h) (fun cdv A outer s H vs Q E hr h => ?_)
  have tk : Takes (cxOf (L2.CX P w) P w K mg base ["_law_script", "_law_cell", "_law_source_here", "_law_parts", "_law_kept", "_law_one", "_law_plain", "_law_some", "_law_k", "_law_bad", "_law_at"] "law" (defScope s_law) (He.ga K "law") cdv A outer s H E) (fun cls d _ H => E cls d H) := takes_of rfl rfl rfl rfl
  have po : PassesOwn (model P w) _ _ (cxOf (L2.CX P w) P w K mg base ["_law_script", "_law_cell", "_law_source_here", "_law_parts", "_law_kept", "_law_one", "_law_plain", "_law_some", "_law_k", "_law_bad", "_law_at"] "law" (defScope s_law) (He.ga K "law") cdv A outer s H E).xe := passes_of rfl
  exact ⟨_, (show VSs _ (fun cls d _ H => E cls d H) _ _ from (vss_cons (vs_for po (by rfl) (vi_list (ve_slice s_list (ve_op o_catL (ve_var 0) (ve_lst (va_cons ve_int va_nil))) vp_none (vp_some ve_int))) (vg_name (i := 1) sc_law.nd rfl (by first | exact Or.inl rfl | exact Or.inr rfl)) (vss_cons (vs_set (i := 2) sc_law.nd rfl (by first | exact Or.inl rfl | exact Or.inr rfl) (ve_call C__law_source (hr.mono (by decide)) (by rfl) T.g__law_source (fun σ => passAt tk σ) (va_cons (ve_var 1) va_nil)))
      (vss_cons (vs_set (i := 3) sc_law.nd rfl (by first | exact Or.inl rfl | exact Or.inr rfl) (ve_callO (bi := [2]) C__law_good (hr.mono (by decide)) (by rfl) T.g__law_good (fun σ => passAt tk σ) (vo_cons (ve_ld 2) vo_nil)))
      (vss_cons (vs_set (i := 4) sc_law.nd rfl (by first | exact Or.inl rfl | exact Or.inr rfl) (ve_listL (by rfl) T.f_list (pv 3)))
      (vss_cons (vs_if (vb_peek (vb_cmp o_notN (ve_ix o_ix (ve_var 3) ve_int (fun _ _ => rfl)) ve_non (nomark _))) (vss_one (vs_asg (ve_peekO (ve_fnT c_list (by rfl) T.f_list (by decide +kernel) (va_cons (ve_ix o_ix (ve_var 3) ve_int (fun _ _ => rfl)) va_nil))) (vg_lputO (pv 3) ve_int))) vss_nil)
      (vss_cons (vs_set (i := 5) sc_law.nd rfl (by first | exact Or.inl rfl | exact Or.inr rfl) (ve_peekO (ve_call C__law_ticket (hr.mono (by decide)) (by rfl) T.g__law_ticket (fun σ => passAt tk σ) (va_cons (ve_var 3) va_nil))))
      (vss_cons (vs_if (vb_peek (vb_cmp (o_ne hr.units) (ve_var 3) (ve_var 4) (nomark _))) (vss_one (vs_ret ve_bl)) vss_nil)
      (vss_cons (vs_if (vb_peek (vb_cmp o_notN (ve_ix o_ix (ve_var 3) ve_int (fun _ _ => rfl)) ve_non (nomark _))) (vss_one (vs_expr (ve_appendP (vl_ix (n := 4) (vl_name 3)) (va_cons ve_str va_nil)))) vss_nil)
      (vss_cons (vs_if (VW.vb (vw_or (vb_cmp (o_ne hr.units) (ve_call C__law_told (hr.mono (by decide)) (by rfl) T.g__law_told (fun σ => passAt tk σ) (va_cons (ve_var 5) va_nil)) (ve_var 4) (nomark _)) (vw_or (vb_not (vb_val (ve_is (T := "bool") (by decide) (by rfl) T.f_isinstance (ve_fld (c := "Ticket") T.cl_Ticket T.n_Ticket_breaks (ve_var 5) rfl) (pe_bltn (v := .ty "bool") (by rfl) T.f_bool (by decide +kernel) rfl)))) (vw_or1 (vb_not (vb_val (ve_callO (bi := [2]) C__law_equal_right (hr.mono (by decide)) (by rfl) T.g__law_equal_right (fun σ => passAt tk σ) (vo_cons (ve_ld 2) (vo_cons (ve_fz (ve_var 4)) (vo_cons (ve_fz (ve_var 5)) vo_nil)))))))))) (vss_one (vs_ret ve_bl)) vss_nil)
      (vss_cons (vs_set (i := 6) sc_law.nd rfl (by first | exact Or.inl rfl | exact Or.inr rfl) (ve_mk0 (gW := (fun (us ws : List V) => (((ws.drop 1).take 1) ++ (((ws.drop 0).take 1) ++ (((([.int 0, .int 1440, .non, .non, .bl true] : List V).drop 0).take 1) ++ (((([.int 0, .int 1440, .non, .non, .bl true] : List V).drop 1).take 1) ++ (((([.int 0, .int 1440, .non, .non, .bl true] : List V).drop 2).take 1) ++ (((([.int 0, .int 1440, .non, .non, .bl true] : List V).drop 3).take 1) ++ ((([.int 0, .int 1440, .non, .non, .bl true] : List V).drop 4).take 1))))))))) (gD := (fun (us ws : List D) => (((ws.drop 1).take 1) ++ (((ws.drop 0).take 1) ++ (((([.int 0, .int 1440, .non, .non, .bl true] : List D).drop 0).take 1) ++ (((([.int 0, .int 1440, .non, .non, .bl true] : List D).drop 1).take 1) ++ (((([.int 0, .int 1440, .non, .non, .bl true] : List D).drop 2).take 1) ++ (((([.int 0, .int 1440, .non, .non, .bl true] : List D).drop 3).take 1) ++ ((([.int 0, .int 1440, .non, .non, .bl true] : List D).drop 4).take 1))))))))) T.mk_Ticket K_Ticket_init_0_there_here (fun _ _ _ => rfl) (fun ru rw => (((rw.drop 1).take 1).app (((rw.drop 0).take 1).app ((((show RpA K _ _ [.int 0, .int 1440, .non, .non, .bl true] [.int 0, .int 1440, .non, .non, .bl true] from (.cons (.int 0) (.cons (.int 1440) (.cons (.non) (.cons (.non) (.cons (.bl true) .nil)))))).drop 0).take 1).app ((((show RpA K _ _ [.int 0, .int 1440, .non, .non, .bl true] [.int 0, .int 1440, .non, .non, .bl true] from (.cons (.int 0) (.cons (.int 1440) (.cons (.non) (.cons (.non) (.cons (.bl true) .nil)))))).drop 1).take 1).app ((((show RpA K _ _ [.int 0, .int 1440, .non, .non, .bl true] [.int 0, .int 1440, .non, .non, .bl true] from (.cons (.int 0) (.cons (.int 1440) (.cons (.non) (.cons (.non) (.cons (.bl true) .nil)))))).drop 2).take 1).app ((((show RpA K _ _ [.int 0, .int 1440, .non, .non, .bl true] [.int 0, .int 1440, .non, .non, .bl true] from (.cons (.int 0) (.cons (.int 1440) (.cons (.non) (.cons (.non) (.cons (.bl true) .nil)))))).drop 3).take 1).app (((show RpA K _ _ [.int 0, .int 1440, .non, .non, .bl true] [.int 0, .int 1440, .non, .non, .bl true] from (.cons (.int 0) (.cons (.int 1440) (.cons (.non) (.cons (.non) (.cons (.bl true) .nil)))))).drop 4).take 1)))))))) (fun us ws l1 l2 => match us, ws, l1, l2 with | [], [_, _], _, _ => rfl) (hr.mono (by decide)) (by rfl) T.g_Ticket (fun σ => passAt tk σ) (vk_cons (ve_ix o_ix (ve_var 4) ve_int (fun _ _ => rfl)) (vk_cons (ve_ix o_ix (ve_var 4) ve_int (fun _ _ => rfl)) vk_nil))))
      (vss_cons (vs_if (vb_cmp (o_ne hr.units) (ve_call C__law_told (hr.mono (by decide)) (by rfl) T.g__law_told (fun σ => passAt tk σ) (va_cons (ve_var 6) va_nil)) (ve_op o_catL (ve_slice s_list (ve_var 4) vp_none (vp_some ve_int)) (ve_lst (va_cons ve_int (va_cons ve_int (va_cons ve_non (va_cons ve_non (va_cons ve_bl va_nil))))))) (nomark _)) (vss_one (vs_ret ve_bl)) vss_nil)
      (vss_cons (vs_set (i := 7) sc_law.nd rfl (by first | exact Or.inl rfl | exact Or.inr rfl) (ve_sortSet rfl (by rfl) T.f_sorted (by rfl) T.f_set (va_cons (ve_lc (own := [("_law_k", 8)]) (by rfl) sc_law.nd (vi_range1 (by rfl) T.f_range (va_cons (ve_op o_add ve_int (ve_callO (bi := [2]) C__law_take (hr.mono (by decide)) (by rfl) T.g__law_take (fun σ => passAt tk σ) (vo_cons (ve_ld 2) (vo_cons (ve_fz ve_int) vo_nil)))) va_nil)) (blkOk_by (own := [("_law_k", 8)]) (N := ["_law_script", "_law_cell", "_law_source_here", "_law_parts", "_law_kept", "_law_one", "_law_plain", "_law_some", "_law_k", "_law_bad", "_law_at"]) (sc := defScope s_law) (by decide +kernel)) (by decide) (fun _ _ _ _ _ => (vg_name (i := 8) sc_law.nd rfl (by first | exact Or.inl rfl | exact Or.inr rfl))) (fun _ _ _ _ _ => vts_nil) (fun _ _ _ _ _ => (ve_callO (bi := [2]) C__law_take (hr.mono (by decide)) (by rfl) T.g__law_take (fun σ => pL σ) (vo_cons (ve_ld 2) (vo_cons (ve_fz ve_int) vo_nil))))) va_nil)))
      (vss_cons (vs_set (i := 9) sc_law.nd rfl (by first | exact Or.inl rfl | exact Or.inr rfl) (ve_fnT c_list (by rfl) T.f_list (by decide +kernel) (va_cons (ve_var 4) va_nil)))
      (vss_cons (vs_for po (by rfl) (vi_list (ve_var 7)) (vg_name (i := 10) sc_law.nd rfl (by first | exact Or.inl rfl | exact Or.inr rfl)) (vss_one (vs_set (i := 9) sc_law.nd rfl (by first | exact Or.inl rfl | exact Or.inr rfl) (ve_callO (bi := [2]) C__law_spoilt (hr.mono (by decide)) (by rfl) T.g__law_spoilt (fun σ => passAt tk σ) (vo_cons (ve_ld 2) (vo_cons (ve_fz (ve_var 9)) (vo_cons (ve_fz (ve_var 10)) vo_nil)))))))
      (vss_one (vs_if (vb_cmp (o_ne hr.units) (ve_call C__law_refused (hr.mono (by decide)) (by rfl) T.g__law_refused (fun σ => passAt tk σ) (va_cons (ve_var 9) va_nil)) (ve_ix o_ix (ve_lst (va_cons ve_str (va_cons ve_str (va_cons ve_str (va_cons ve_str (va_cons ve_str (va_cons ve_str (va_cons ve_str va_nil)))))))) (ve_ix o_ix (ve_var 7) ve_int (fun _ _ => rfl)) (fun _ _ => rfl)) (nomark _)) (vss_one (vs_ret ve_bl)) vss_nil))))))))))))))))
      (vss_one (vs_ret ve_bl)))), body_ok (N := ["_law_script", "_law_cell", "_law_source_here", "_law_parts", "_law_kept", "_law_one", "_law_plain", "_law_some", "_law_k", "_law_bad", "_law_at"]) (by decide) h⟩
def wholeD : D → Bool
  | .int _ => true
  | _ => false
theorem is_whole_V {i : Int} {Q : O → List O → Prop} {x : XD} (q : Q (.sh (.bl true)) []) : m_is_whole [.sh (.int i)] Q x := by
  simp only [mBody, vSeq, vRet, vSet, vIfS, vNext, vDrop, vVar, vC, vOp, vBl, vNot, vAnd, vOr, vAndV, vOrV, vNotV, vIf, vANil, vACons, vONil, vOCons, vTup, vLst, vgSet, vgNil, vgCons, vgTup, vFor, vAsg, vCall, vCallO, vCallL, vHold, swapIn, putBack, vRaise, gII, gIC, vFn, vChain, gTru, vpNone, vpSome, vSl, gSlL, gSlS, vIs, vFld, vMet, vMetK, vITup, vILst, vMtL, gAppend, vLc, vYes, vIRng1, vIEnumT, vIStr, vNeg, vFz, vMove, vLend, O.root, O.fz, O.toD, gEq, gNe, gIn, gCatL, gLen, gInt, gList, gTuple, vFPut, oPut, isTD, known7, noTD, eqOk, flat4, sameK, wipeE,  List.map_cons, List.map_nil, List.cons_append, List.nil_append, List.length_cons, List.length_nil, List.replicate_succ, List.replicate_zero, List.append_nil, List.getElem?_cons_zero, List.getElem?_cons_succ, List.getElem?_nil, List.set_cons_zero, List.set_cons_succ, List.set_nil, List.getD_cons_zero, List.getD_cons_succ, List.getD_nil, List.drop_zero, List.drop_succ_cons, List.take_succ_cons, List.take_zero, List.take_nil, Bool.true_and, Bool.and_true, Bool.false_and, Bool.and_false, Bool.or_true, Bool.or_false, Bool.true_or, Bool.false_or, Bool.not_true, Bool.not_false, if_true, if_false, ite_true, ite_false, true_and, and_true, eq_self_iff_true, Bool.false_eq_true, reduceIte, Nat.reduceSub, Nat.reduceAdd, reduceCtorEq, String.reduceBEq, beq_self_eq_true, true_or, or_true, false_or, or_false, false_and, and_false, decide_true, decide_false, Bool.not_not, m_is_whole]
  simpa using q
theorem is_from_V {i a b : Int} {Q : O → List O → Prop} {x : XD} (q : Q (.sh (.bl (decide (a ≤ i) && decide (i ≤ b)))) []) : m_is_from [.sh (.int i), .sh (.int a), .sh (.int b)] Q x := by
  simp only [mBody, vSeq, vRet, vSet, vIfS, vNext, vDrop, vVar, vC, vOp, vBl, vNot, vAnd, vOr, vAndV, vOrV, vNotV, vIf, vANil, vACons, vONil, vOCons, vTup, vLst, vgSet, vgNil, vgCons, vgTup, vFor, vAsg, vCall, vCallO, vCallL, vHold, swapIn, putBack, vRaise, gII, gIC, vFn, vChain, gTru, vpNone, vpSome, vSl, gSlL, gSlS, vIs, vFld, vMet, vMetK, vITup, vILst, vMtL, gAppend, vLc, vYes, vIRng1, vIEnumT, vIStr, vNeg, vFz, vMove, vLend, O.root, O.fz, O.toD, gEq, gNe, gIn, gCatL, gLen, gInt, gList, gTuple, vFPut, oPut, isTD, known7, noTD, eqOk, flat4, sameK, wipeE,  List.map_cons, List.map_nil, List.cons_append, List.nil_append, List.length_cons, List.length_nil, List.replicate_succ, List.replicate_zero, List.append_nil, List.getElem?_cons_zero, List.getElem?_cons_succ, List.getElem?_nil, List.set_cons_zero, List.set_cons_succ, List.set_nil, List.getD_cons_zero, List.getD_cons_succ, List.getD_nil, List.drop_zero, List.drop_succ_cons, List.take_succ_cons, List.take_zero, List.take_nil, Bool.true_and, Bool.and_true, Bool.false_and, Bool.and_false, Bool.or_true, Bool.or_false, Bool.true_or, Bool.false_or, Bool.not_true, Bool.not_false, if_true, if_false, ite_true, ite_false, true_and, and_true, eq_self_iff_true, Bool.false_eq_true, reduceIte, Nat.reduceSub, Nat.reduceAdd, reduceCtorEq, String.reduceBEq, beq_self_eq_true, true_or, or_true, false_or, or_false, false_and, and_false, decide_true, decide_false, Bool.not_not, m_is_from]
  refine is_whole_V ?_
  simp only [mBody, vSeq, vRet, vSet, vIfS, vNext, vDrop, vVar, vC, vOp, vBl, vNot, vAnd, vOr, vAndV, vOrV, vNotV, vIf, vANil, vACons, vONil, vOCons, vTup, vLst, vgSet, vgNil, vgCons, vgTup, vFor, vAsg, vCall, vCallO, vCallL, vHold, swapIn, putBack, vRaise, gII, gIC, vFn, vChain, gTru, vpNone, vpSome, vSl, gSlL, gSlS, vIs, vFld, vMet, vMetK, vITup, vILst, vMtL, gAppend, vLc, vYes, vIRng1, vIEnumT, vIStr, vNeg, vFz, vMove, vLend, O.root, O.fz, O.toD, gEq, gNe, gIn, gCatL, gLen, gInt, gList, gTuple, vFPut, oPut, isTD, known7, noTD, eqOk, flat4, sameK, wipeE,  List.map_cons, List.map_nil, List.cons_append, List.nil_append, List.length_cons, List.length_nil, List.replicate_succ, List.replicate_zero, List.append_nil, List.getElem?_cons_zero, List.getElem?_cons_succ, List.getElem?_nil, List.set_cons_zero, List.set_cons_succ, List.set_nil, List.getD_cons_zero, List.getD_cons_succ, List.getD_nil, List.drop_zero, List.drop_succ_cons, List.take_succ_cons, List.take_zero, List.take_nil, Bool.true_and, Bool.and_true, Bool.false_and, Bool.and_false, Bool.or_true, Bool.or_false, Bool.true_or, Bool.false_or, Bool.not_true, Bool.not_false, if_true, if_false, ite_true, ite_false, true_and, and_true, eq_self_iff_true, Bool.false_eq_true, reduceIte, Nat.reduceSub, Nat.reduceAdd, reduceCtorEq, String.reduceBEq, beq_self_eq_true, true_or, or_true, false_or, or_false, false_and, and_false, decide_true, decide_false, Bool.not_not]
  by_cases h : a ≤ i
  · simpa [h] using q
  · simpa [h] using q
theorem is_name_V {z : Str} {Q : O → List O → Prop} {x : XD} (hz : z.length ≤ sizeLine) (q : Q (.sh (.bl (isNm z))) []) : m_is_name [.sh (.str z)] Q x := by
  simp only [mBody, vSeq, vRet, vSet, vIfS, vNext, vDrop, vVar, vC, vOp, vBl, vNot, vAnd, vOr, vAndV, vOrV, vNotV, vIf, vANil, vACons, vONil, vOCons, vTup, vLst, vgSet, vgNil, vgCons, vgTup, vFor, vAsg, vCall, vCallO, vCallL, vHold, swapIn, putBack, vRaise, gII, gIC, vFn, vChain, gTru, vpNone, vpSome, vSl, gSlL, gSlS, vIs, vFld, vMet, vMetK, vITup, vILst, vMtL, gAppend, vLc, vYes, vIRng1, vIEnumT, vIStr, vNeg, vFz, vMove, vLend, O.root, O.fz, O.toD, gEq, gNe, gIn, gCatL, gLen, gInt, gList, gTuple, vFPut, oPut, isTD, known7, noTD, eqOk, flat4, sameK, wipeE,  List.map_cons, List.map_nil, List.cons_append, List.nil_append, List.length_cons, List.length_nil, List.replicate_succ, List.replicate_zero, List.append_nil, List.getElem?_cons_zero, List.getElem?_cons_succ, List.getElem?_nil, List.set_cons_zero, List.set_cons_succ, List.set_nil, List.getD_cons_zero, List.getD_cons_succ, List.getD_nil, List.drop_zero, List.drop_succ_cons, List.take_succ_cons, List.take_zero, List.take_nil, Bool.true_and, Bool.and_true, Bool.false_and, Bool.and_false, Bool.or_true, Bool.or_false, Bool.true_or, Bool.false_or, Bool.not_true, Bool.not_false, if_true, if_false, ite_true, ite_false, true_and, and_true, eq_self_iff_true, Bool.false_eq_true, reduceIte, Nat.reduceSub, Nat.reduceAdd, reduceCtorEq, String.reduceBEq, beq_self_eq_true, true_or, or_true, false_or, or_false, false_and, and_false, decide_true, decide_false, Bool.not_not, m_is_name, hz]
  by_cases h1 : (1 : Int) ≤ z.length
  · by_cases h2 : (z.length : Int) ≤ 8
    · simp only [h1, h2]
      simp only [mBody, vSeq, vRet, vSet, vIfS, vNext, vDrop, vVar, vC, vOp, vBl, vNot, vAnd, vOr, vAndV, vOrV, vNotV, vIf, vANil, vACons, vONil, vOCons, vTup, vLst, vgSet, vgNil, vgCons, vgTup, vFor, vAsg, vCall, vCallO, vCallL, vHold, swapIn, putBack, vRaise, gII, gIC, vFn, vChain, gTru, vpNone, vpSome, vSl, gSlL, gSlS, vIs, vFld, vMet, vMetK, vITup, vILst, vMtL, gAppend, vLc, vYes, vIRng1, vIEnumT, vIStr, vNeg, vFz, vMove, vLend, O.root, O.fz, O.toD, gEq, gNe, gIn, gCatL, gLen, gInt, gList, gTuple, vFPut, oPut, isTD, known7, noTD, eqOk, flat4, sameK, wipeE,  List.map_cons, List.map_nil, List.cons_append, List.nil_append, List.length_cons, List.length_nil, List.replicate_succ, List.replicate_zero, List.append_nil, List.getElem?_cons_zero, List.getElem?_cons_succ, List.getElem?_nil, List.set_cons_zero, List.set_cons_succ, List.set_nil, List.getD_cons_zero, List.getD_cons_succ, List.getD_nil, List.drop_zero, List.drop_succ_cons, List.take_succ_cons, List.take_zero, List.take_nil, Bool.true_and, Bool.and_true, Bool.false_and, Bool.and_false, Bool.or_true, Bool.or_false, Bool.true_or, Bool.false_or, Bool.not_true, Bool.not_false, if_true, if_false, ite_true, ite_false, true_and, and_true, eq_self_iff_true, Bool.false_eq_true, reduceIte, Nat.reduceSub, Nat.reduceAdd, reduceCtorEq, String.reduceBEq, beq_self_eq_true, true_or, or_true, false_or, or_false, false_and, and_false, decide_true, decide_false, Bool.not_not, decide_true]
      refine vLcL_map (α := Nat) (fun c => D.str ⟨#[c]⟩) (fun c => D.bl (decide (c ∈ lets.cps.toList))) ?_ ?_
      · intro c _ acc Nx hn
        simp only [mBody, vSeq, vRet, vSet, vIfS, vNext, vDrop, vVar, vC, vOp, vBl, vNot, vAnd, vOr, vAndV, vOrV, vNotV, vIf, vANil, vACons, vONil, vOCons, vTup, vLst, vgSet, vgNil, vgCons, vgTup, vFor, vAsg, vCall, vCallO, vCallL, vHold, swapIn, putBack, vRaise, gII, gIC, vFn, vChain, gTru, vpNone, vpSome, vSl, gSlL, gSlS, vIs, vFld, vMet, vMetK, vITup, vILst, vMtL, gAppend, vLc, vYes, vIRng1, vIEnumT, vIStr, vNeg, vFz, vMove, vLend, O.root, O.fz, O.toD, gEq, gNe, gIn, gCatL, gLen, gInt, gList, gTuple, vFPut, oPut, isTD, known7, noTD, eqOk, flat4, sameK, wipeE,  List.map_cons, List.map_nil, List.cons_append, List.nil_append, List.length_cons, List.length_nil, List.replicate_succ, List.replicate_zero, List.append_nil, List.getElem?_cons_zero, List.getElem?_cons_succ, List.getElem?_nil, List.set_cons_zero, List.set_cons_succ, List.set_nil, List.getD_cons_zero, List.getD_cons_succ, List.getD_nil, List.drop_zero, List.drop_succ_cons, List.take_succ_cons, List.take_zero, List.take_nil, Bool.true_and, Bool.and_true, Bool.false_and, Bool.and_false, Bool.or_true, Bool.or_false, Bool.true_or, Bool.false_or, Bool.not_true, Bool.not_false, if_true, if_false, ite_true, ite_false, true_and, and_true, eq_self_iff_true, Bool.false_eq_true, reduceIte, Nat.reduceSub, Nat.reduceAdd, reduceCtorEq, String.reduceBEq, beq_self_eq_true, true_or, or_true, false_or, or_false, false_and, and_false, decide_true, decide_false, Bool.not_not, gInS]
        exact ⟨c, rfl, hn⟩
      · intro p
        simp only [mBody, vSeq, vRet, vSet, vIfS, vNext, vDrop, vVar, vC, vOp, vBl, vNot, vAnd, vOr, vAndV, vOrV, vNotV, vIf, vANil, vACons, vONil, vOCons, vTup, vLst, vgSet, vgNil, vgCons, vgTup, vFor, vAsg, vCall, vCallO, vCallL, vHold, swapIn, putBack, vRaise, gII, gIC, vFn, vChain, gTru, vpNone, vpSome, vSl, gSlL, gSlS, vIs, vFld, vMet, vMetK, vITup, vILst, vMtL, gAppend, vLc, vYes, vIRng1, vIEnumT, vIStr, vNeg, vFz, vMove, vLend, O.root, O.fz, O.toD, gEq, gNe, gIn, gCatL, gLen, gInt, gList, gTuple, vFPut, oPut, isTD, known7, noTD, eqOk, flat4, sameK, wipeE,  List.map_cons, List.map_nil, List.cons_append, List.nil_append, List.length_cons, List.length_nil, List.replicate_succ, List.replicate_zero, List.append_nil, List.getElem?_cons_zero, List.getElem?_cons_succ, List.getElem?_nil, List.set_cons_zero, List.set_cons_succ, List.set_nil, List.getD_cons_zero, List.getD_cons_succ, List.getD_nil, List.drop_zero, List.drop_succ_cons, List.take_succ_cons, List.take_zero, List.take_nil, Bool.true_and, Bool.and_true, Bool.false_and, Bool.and_false, Bool.or_true, Bool.or_false, Bool.true_or, Bool.false_or, Bool.not_true, Bool.not_false, if_true, if_false, ite_true, ite_false, true_and, and_true, eq_self_iff_true, Bool.false_eq_true, reduceIte, Nat.reduceSub, Nat.reduceAdd, reduceCtorEq, String.reduceBEq, beq_self_eq_true, true_or, or_true, false_or, or_false, false_and, and_false, decide_true, decide_false, Bool.not_not]
        refine gAll_map ?_
        have e : isNm z = z.cps.toList.all fun c => decide (c ∈ lets.cps.toList) := by
          unfold isNm signsOk
          rw [decide_eq_true (show 1 ≤ z.length by omega), decide_eq_true (show z.length ≤ 8 by omega)]; rfl
        rw [e] at q
        exact q
    · have e : isNm z = false := by
        unfold isNm
        rw [decide_eq_false (show ¬ z.length ≤ 8 by omega)]; simp
      rw [e] at q
      simpa [h1, h2] using q
  · have e : isNm z = false := by
      unfold isNm
      rw [decide_eq_false (show ¬ 1 ≤ z.length by omega)]; simp
    rw [e] at q
    simpa [h1] using q
section
variable {Q : O → List O → Prop} {x : XD}
theorem sgn (c : Nat) : (⟨#[c]⟩ : Str) = sOf [c] := rfl
theorem law_names_V {p : Addr} {n : Int} (h0 : 0 ≤ n) (h1 : n ≤ 26) (q : ∀ b (ns : List Str), ns.length = n.toNat → (∀ z ∈ ns, isNm z = true) → ns.Nodup → Q (.ol b (ns.map D.str)) [.src p]) : m__law_names [.src p, .sh (.int n)] Q x := by
  unfold m__law_names mBody
  refine vSeq_i fun N hN => ?_
  simp only [mBody, vRet, vSet, vIfS, vNext, vDrop, vVar, vC, vOp, vBl, vNot, vAnd, vOr, vAndV, vOrV, vNotV, vIf, vANil, vACons, vONil, vOCons, vTup, vLst, vgSet, vgNil, vgCons, vgTup, vFor, vAsg, vCall, vCallO, vCallL, vHold, swapIn, putBack, vRaise, gII, gIC, vFn, vChain, gTru, vpNone, vpSome, vSl, gSlL, gSlS, vIs, vFld, vMet, vMetK, vITup, vILst, vMtL, gAppend, vLc, vYes, vIRng1, vIEnumT, vIStr, vNeg, vFz, vMove, vLend, O.root, O.fz, O.toD, gEq, gNe, gIn, gCatL, gLen, gInt, gList, gTuple, vFPut, oPut, isTD, known7, noTD, eqOk, flat4, sameK, wipeE,  List.map_cons, List.map_nil, List.cons_append, List.nil_append, List.length_cons, List.length_nil, List.replicate_succ, List.replicate_zero, List.append_nil, List.getElem?_cons_zero, List.getElem?_cons_succ, List.getElem?_nil, List.set_cons_zero, List.set_cons_succ, List.set_nil, List.getD_cons_zero, List.getD_cons_succ, List.getD_nil, List.drop_zero, List.drop_succ_cons, List.take_succ_cons, List.take_zero, List.take_nil, Bool.true_and, Bool.and_true, Bool.false_and, Bool.and_false, Bool.or_true, Bool.or_false, Bool.true_or, Bool.false_or, Bool.not_true, Bool.not_false, if_true, if_false, ite_true, ite_false, true_and, and_true, eq_self_iff_true, Bool.false_eq_true, reduceIte, Nat.reduceSub, Nat.reduceAdd, reduceCtorEq, String.reduceBEq, beq_self_eq_true, true_or, or_true, false_or, or_false, false_and, and_false, decide_true, decide_false, Bool.not_not]
  refine hN _ (vSeq_i fun N hN => ?_)
  simp only [mBody, vRet, vSet, vIfS, vNext, vDrop, vVar, vC, vOp, vBl, vNot, vAnd, vOr, vAndV, vOrV, vNotV, vIf, vANil, vACons, vONil, vOCons, vTup, vLst, vgSet, vgNil, vgCons, vgTup, vFor, vAsg, vCall, vCallO, vCallL, vHold, swapIn, putBack, vRaise, gII, gIC, vFn, vChain, gTru, vpNone, vpSome, vSl, gSlL, gSlS, vIs, vFld, vMet, vMetK, vITup, vILst, vMtL, gAppend, vLc, vYes, vIRng1, vIEnumT, vIStr, vNeg, vFz, vMove, vLend, O.root, O.fz, O.toD, gEq, gNe, gIn, gCatL, gLen, gInt, gList, gTuple, vFPut, oPut, isTD, known7, noTD, eqOk, flat4, sameK, wipeE,  List.map_cons, List.map_nil, List.cons_append, List.nil_append, List.length_cons, List.length_nil, List.replicate_succ, List.replicate_zero, List.append_nil, List.getElem?_cons_zero, List.getElem?_cons_succ, List.getElem?_nil, List.set_cons_zero, List.set_cons_succ, List.set_nil, List.getD_cons_zero, List.getD_cons_succ, List.getD_nil, List.drop_zero, List.drop_succ_cons, List.take_succ_cons, List.take_zero, List.take_nil, Bool.true_and, Bool.and_true, Bool.false_and, Bool.and_false, Bool.or_true, Bool.or_false, Bool.true_or, Bool.false_or, Bool.not_true, Bool.not_false, if_true, if_false, ite_true, ite_false, true_and, and_true, eq_self_iff_true, Bool.false_eq_true, reduceIte, Nat.reduceSub, Nat.reduceAdd, reduceCtorEq, String.reduceBEq, beq_self_eq_true, true_or, or_true, false_or, or_false, false_and, and_false, decide_true, decide_false, Bool.not_not, mTake]
  refine ⟨by decide, by decide, fun st s0 s1 => hN _ (vSeq_i fun N hN => ?_)⟩
  simp only [mBody, vRet, vSet, vIfS, vNext, vDrop, vVar, vC, vOp, vBl, vNot, vAnd, vOr, vAndV, vOrV, vNotV, vIf, vANil, vACons, vONil, vOCons, vTup, vLst, vgSet, vgNil, vgCons, vgTup, vFor, vAsg, vCall, vCallO, vCallL, vHold, swapIn, putBack, vRaise, gII, gIC, vFn, vChain, gTru, vpNone, vpSome, vSl, gSlL, gSlS, vIs, vFld, vMet, vMetK, vITup, vILst, vMtL, gAppend, vLc, vYes, vIRng1, vIEnumT, vIStr, vNeg, vFz, vMove, vLend, O.root, O.fz, O.toD, gEq, gNe, gIn, gCatL, gLen, gInt, gList, gTuple, vFPut, oPut, isTD, known7, noTD, eqOk, flat4, sameK, wipeE,  List.map_cons, List.map_nil, List.cons_append, List.nil_append, List.length_cons, List.length_nil, List.replicate_succ, List.replicate_zero, List.append_nil, List.getElem?_cons_zero, List.getElem?_cons_succ, List.getElem?_nil, List.set_cons_zero, List.set_cons_succ, List.set_nil, List.getD_cons_zero, List.getD_cons_succ, List.getD_nil, List.drop_zero, List.drop_succ_cons, List.take_succ_cons, List.take_zero, List.take_nil, Bool.true_and, Bool.and_true, Bool.false_and, Bool.and_false, Bool.or_true, Bool.or_false, Bool.true_or, Bool.false_or, Bool.not_true, Bool.not_false, if_true, if_false, ite_true, ite_false, true_and, and_true, eq_self_iff_true, Bool.false_eq_true, reduceIte, Nat.reduceSub, Nat.reduceAdd, reduceCtorEq, String.reduceBEq, beq_self_eq_true, true_or, or_true, false_or, or_false, false_and, and_false, decide_true, decide_false, Bool.not_not, vJoin]
  refine ⟨by decide, by decide, ?_⟩
  refine vLcL_inv (fun i acc e => ∃ cs : List Nat, cs.length = i ∧ (∀ c ∈ cs, c ∈ lets.cps.toList) ∧ acc = (cs.map fun c => (⟨#[c]⟩ : Str)).map D.str ∧ e = [.src p, .sh (.int n), .sh (.str lets), .sh (.int st), .un, .un, .un, .un, .un]) ?_ ⟨[], rfl, by simp, rfl, rfl⟩ ?_
  · rintro i d hd acc e ⟨cs, e1, e2, rfl, rfl⟩ Nx hn
    obtain ⟨hi, rfl⟩ := rng_get hd
    simp only [mBody, vRet, vSet, vIfS, vNext, vDrop, vVar, vC, vOp, vBl, vNot, vAnd, vOr, vAndV, vOrV, vNotV, vIf, vANil, vACons, vONil, vOCons, vTup, vLst, vgSet, vgNil, vgCons, vgTup, vFor, vAsg, vCall, vCallO, vCallL, vHold, swapIn, putBack, vRaise, gII, gIC, vFn, vChain, gTru, vpNone, vpSome, vSl, gSlL, gSlS, vIs, vFld, vMet, vMetK, vITup, vILst, vMtL, gAppend, vLc, vYes, vIRng1, vIEnumT, vIStr, vNeg, vFz, vMove, vLend, O.root, O.fz, O.toD, gEq, gNe, gIn, gCatL, gLen, gInt, gList, gTuple, vFPut, oPut, isTD, known7, noTD, eqOk, flat4, sameK, wipeE,  List.map_cons, List.map_nil, List.cons_append, List.nil_append, List.length_cons, List.length_nil, List.replicate_succ, List.replicate_zero, List.append_nil, List.getElem?_cons_zero, List.getElem?_cons_succ, List.getElem?_nil, List.set_cons_zero, List.set_cons_succ, List.set_nil, List.getD_cons_zero, List.getD_cons_succ, List.getD_nil, List.drop_zero, List.drop_succ_cons, List.take_succ_cons, List.take_zero, List.take_nil, Bool.true_and, Bool.and_true, Bool.false_and, Bool.and_false, Bool.or_true, Bool.or_false, Bool.true_or, Bool.false_or, Bool.not_true, Bool.not_false, if_true, if_false, ite_true, ite_false, true_and, and_true, eq_self_iff_true, Bool.false_eq_true, reduceIte, Nat.reduceSub, Nat.reduceAdd, reduceCtorEq, String.reduceBEq, beq_self_eq_true, true_or, or_true, false_or, or_false, false_and, and_false, decide_true, decide_false, Bool.not_not, mTake]
    refine ⟨by decide, by decide, fun r r0 r1 => ?_⟩
    simp only [mBody, vRet, vSet, vIfS, vNext, vDrop, vVar, vC, vOp, vBl, vNot, vAnd, vOr, vAndV, vOrV, vNotV, vIf, vANil, vACons, vONil, vOCons, vTup, vLst, vgSet, vgNil, vgCons, vgTup, vFor, vAsg, vCall, vCallO, vCallL, vHold, swapIn, putBack, vRaise, gII, gIC, vFn, vChain, gTru, vpNone, vpSome, vSl, gSlL, gSlS, vIs, vFld, vMet, vMetK, vITup, vILst, vMtL, gAppend, vLc, vYes, vIRng1, vIEnumT, vIStr, vNeg, vFz, vMove, vLend, O.root, O.fz, O.toD, gEq, gNe, gIn, gCatL, gLen, gInt, gList, gTuple, vFPut, oPut, isTD, known7, noTD, eqOk, flat4, sameK, wipeE,  List.map_cons, List.map_nil, List.cons_append, List.nil_append, List.length_cons, List.length_nil, List.replicate_succ, List.replicate_zero, List.append_nil, List.getElem?_cons_zero, List.getElem?_cons_succ, List.getElem?_nil, List.set_cons_zero, List.set_cons_succ, List.set_nil, List.getD_cons_zero, List.getD_cons_succ, List.getD_nil, List.drop_zero, List.drop_succ_cons, List.take_succ_cons, List.take_zero, List.take_nil, Bool.true_and, Bool.and_true, Bool.false_and, Bool.and_false, Bool.or_true, Bool.or_false, Bool.true_or, Bool.false_or, Bool.not_true, Bool.not_false, if_true, if_false, ite_true, ite_false, true_and, and_true, eq_self_iff_true, Bool.false_eq_true, reduceIte, Nat.reduceSub, Nat.reduceAdd, reduceCtorEq, String.reduceBEq, beq_self_eq_true, true_or, or_true, false_or, or_false, false_and, and_false, decide_true, decide_false, Bool.not_not, gIx, letter_at r0 r1]
    refine ⟨lets_small2, hn _ _ ⟨cs ++ [letter r.toNat], by simp [e1], ?_, by simp, rfl⟩⟩
    intro c hc
    rcases List.mem_append.mp hc with hc | hc
    · exact e2 c hc
    · rw [List.mem_singleton.mp hc]
      exact letter_in (by omega)
  · rintro acc e ⟨cs, e1, e2, rfl, rfl⟩ b
    rw [show ((List.range (Int.toNat 8)).map fun (i : Nat) => D.int i).length = 8 from by simp] at e1
    simp only [mBody, vRet, vSet, vIfS, vNext, vDrop, vVar, vC, vOp, vBl, vNot, vAnd, vOr, vAndV, vOrV, vNotV, vIf, vANil, vACons, vONil, vOCons, vTup, vLst, vgSet, vgNil, vgCons, vgTup, vFor, vAsg, vCall, vCallO, vCallL, vHold, swapIn, putBack, vRaise, gII, gIC, vFn, vChain, gTru, vpNone, vpSome, vSl, gSlL, gSlS, vIs, vFld, vMet, vMetK, vITup, vILst, vMtL, gAppend, vLc, vYes, vIRng1, vIEnumT, vIStr, vNeg, vFz, vMove, vLend, O.root, O.fz, O.toD, gEq, gNe, gIn, gCatL, gLen, gInt, gList, gTuple, vFPut, oPut, isTD, known7, noTD, eqOk, flat4, sameK, wipeE,  List.map_cons, List.map_nil, List.cons_append, List.nil_append, List.length_cons, List.length_nil, List.replicate_succ, List.replicate_zero, List.append_nil, List.getElem?_cons_zero, List.getElem?_cons_succ, List.getElem?_nil, List.set_cons_zero, List.set_cons_succ, List.set_nil, List.getD_cons_zero, List.getD_cons_succ, List.getD_nil, List.drop_zero, List.drop_succ_cons, List.take_succ_cons, List.take_zero, List.take_nil, Bool.true_and, Bool.and_true, Bool.false_and, Bool.and_false, Bool.or_true, Bool.or_false, Bool.true_or, Bool.false_or, Bool.not_true, Bool.not_false, if_true, if_false, ite_true, ite_false, true_and, and_true, eq_self_iff_true, Bool.false_eq_true, reduceIte, Nat.reduceSub, Nat.reduceAdd, reduceCtorEq, String.reduceBEq, beq_self_eq_true, true_or, or_true, false_or, or_false, false_and, and_false, decide_true, decide_false, Bool.not_not]
    refine ⟨cs.map fun c => (⟨#[c]⟩ : Str), rfl, ?_, ?_⟩
    · have : ((cs.map fun c => (⟨#[c]⟩ : Str)).map (·.length)).sum = cs.length := by
        clear e1 e2 hN
        induction cs with
        | nil => rfl
        | cons c r ih => rw [List.map_cons, List.map_cons, List.sum_cons, ih]; simp [Str.length]; omega
      rw [this, List.length_map, e1]
      decide
    · rw [join_signs]
      refine hN _ (vSeq_i fun N hN => ?_)
      simp only [mBody, vRet, vSet, vIfS, vNext, vDrop, vVar, vC, vOp, vBl, vNot, vAnd, vOr, vAndV, vOrV, vNotV, vIf, vANil, vACons, vONil, vOCons, vTup, vLst, vgSet, vgNil, vgCons, vgTup, vFor, vAsg, vCall, vCallO, vCallL, vHold, swapIn, putBack, vRaise, gII, gIC, vFn, vChain, gTru, vpNone, vpSome, vSl, gSlL, gSlS, vIs, vFld, vMet, vMetK, vITup, vILst, vMtL, gAppend, vLc, vYes, vIRng1, vIEnumT, vIStr, vNeg, vFz, vMove, vLend, O.root, O.fz, O.toD, gEq, gNe, gIn, gCatL, gLen, gInt, gList, gTuple, vFPut, oPut, isTD, known7, noTD, eqOk, flat4, sameK, wipeE,  List.map_cons, List.map_nil, List.cons_append, List.nil_append, List.length_cons, List.length_nil, List.replicate_succ, List.replicate_zero, List.append_nil, List.getElem?_cons_zero, List.getElem?_cons_succ, List.getElem?_nil, List.set_cons_zero, List.set_cons_succ, List.set_nil, List.getD_cons_zero, List.getD_cons_succ, List.getD_nil, List.drop_zero, List.drop_succ_cons, List.take_succ_cons, List.take_zero, List.take_nil, Bool.true_and, Bool.and_true, Bool.false_and, Bool.and_false, Bool.or_true, Bool.or_false, Bool.true_or, Bool.false_or, Bool.not_true, Bool.not_false, if_true, if_false, ite_true, ite_false, true_and, and_true, eq_self_iff_true, Bool.false_eq_true, reduceIte, Nat.reduceSub, Nat.reduceAdd, reduceCtorEq, String.reduceBEq, beq_self_eq_true, true_or, or_true, false_or, or_false, false_and, and_false, decide_true, decide_false, Bool.not_not, mTake]
      refine ⟨by decide, by decide, fun at_ a0 a1 => hN _ (vSeq_i fun N hN => ?_)⟩
      simp only [mBody, vRet, vSet, vIfS, vNext, vDrop, vVar, vC, vOp, vBl, vNot, vAnd, vOr, vAndV, vOrV, vNotV, vIf, vANil, vACons, vONil, vOCons, vTup, vLst, vgSet, vgNil, vgCons, vgTup, vFor, vAsg, vCall, vCallO, vCallL, vHold, swapIn, putBack, vRaise, gII, gIC, vFn, vChain, gTru, vpNone, vpSome, vSl, gSlL, gSlS, vIs, vFld, vMet, vMetK, vITup, vILst, vMtL, gAppend, vLc, vYes, vIRng1, vIEnumT, vIStr, vNeg, vFz, vMove, vLend, O.root, O.fz, O.toD, gEq, gNe, gIn, gCatL, gLen, gInt, gList, gTuple, vFPut, oPut, isTD, known7, noTD, eqOk, flat4, sameK, wipeE,  List.map_cons, List.map_nil, List.cons_append, List.nil_append, List.length_cons, List.length_nil, List.replicate_succ, List.replicate_zero, List.append_nil, List.getElem?_cons_zero, List.getElem?_cons_succ, List.getElem?_nil, List.set_cons_zero, List.set_cons_succ, List.set_nil, List.getD_cons_zero, List.getD_cons_succ, List.getD_nil, List.drop_zero, List.drop_succ_cons, List.take_succ_cons, List.take_zero, List.take_nil, Bool.true_and, Bool.and_true, Bool.false_and, Bool.and_false, Bool.or_true, Bool.or_false, Bool.true_or, Bool.false_or, Bool.not_true, Bool.not_false, if_true, if_false, ite_true, ite_false, true_and, and_true, eq_self_iff_true, Bool.false_eq_true, reduceIte, Nat.reduceSub, Nat.reduceAdd, reduceCtorEq, String.reduceBEq, beq_self_eq_true, true_or, or_true, false_or, or_false, false_and, and_false, decide_true, decide_false, Bool.not_not]
      intro pn
      refine hN _ (vSeq_i fun N hN => ?_)
      simp only [mBody, vRet, vSet, vIfS, vNext, vDrop, vVar, vC, vOp, vBl, vNot, vAnd, vOr, vAndV, vOrV, vNotV, vIf, vANil, vACons, vONil, vOCons, vTup, vLst, vgSet, vgNil, vgCons, vgTup, vFor, vAsg, vCall, vCallO, vCallL, vHold, swapIn, putBack, vRaise, gII, gIC, vFn, vChain, gTru, vpNone, vpSome, vSl, gSlL, gSlS, vIs, vFld, vMet, vMetK, vITup, vILst, vMtL, gAppend, vLc, vYes, vIRng1, vIEnumT, vIStr, vNeg, vFz, vMove, vLend, O.root, O.fz, O.toD, gEq, gNe, gIn, gCatL, gLen, gInt, gList, gTuple, vFPut, oPut, isTD, known7, noTD, eqOk, flat4, sameK, wipeE,  List.map_cons, List.map_nil, List.cons_append, List.nil_append, List.length_cons, List.length_nil, List.replicate_succ, List.replicate_zero, List.append_nil, List.getElem?_cons_zero, List.getElem?_cons_succ, List.getElem?_nil, List.set_cons_zero, List.set_cons_succ, List.set_nil, List.getD_cons_zero, List.getD_cons_succ, List.getD_nil, List.drop_zero, List.drop_succ_cons, List.take_succ_cons, List.take_zero, List.take_nil, Bool.true_and, Bool.and_true, Bool.false_and, Bool.and_false, Bool.or_true, Bool.or_false, Bool.true_or, Bool.false_or, Bool.not_true, Bool.not_false, if_true, if_false, ite_true, ite_false, true_and, and_true, eq_self_iff_true, Bool.false_eq_true, reduceIte, Nat.reduceSub, Nat.reduceAdd, reduceCtorEq, String.reduceBEq, beq_self_eq_true, true_or, or_true, false_or, or_false, false_and, and_false, decide_true, decide_false, Bool.not_not]
      refine ⟨by omega, by omega, ?_⟩
      refine vForL_inv (fun i e => ∃ (ns : List Str) (c5 c8 : O), ns.length = i ∧ (∀ z ∈ ns, isNm z = true) ∧ (∀ (j : Nat) (z : Str), ns[j]? = some z → z.cps.toList[at_.toNat]? = some (letter ((st + 7 * (j : Int)) % 26).toNat)) ∧ e = [.src p, .sh (.int n), .sh (.str lets), .sh (.int st), .sh (.str (sOf cs)), c5, .sh (.int at_), .ol pn (ns.map D.str), c8]) ?_ ⟨[], .un, .un, rfl, (by intro z hz; cases hz), (by intro j z hz; cases hz), rfl⟩ ?_
      · rintro i d hd e ⟨ns, c5, c8, f1, f2, f3, rfl⟩ Nx hn
        obtain ⟨hi, rfl⟩ := rng_get hd
        simp only [mBody, vRet, vSet, vIfS, vNext, vDrop, vVar, vC, vOp, vBl, vNot, vAnd, vOr, vAndV, vOrV, vNotV, vIf, vANil, vACons, vONil, vOCons, vTup, vLst, vgSet, vgNil, vgCons, vgTup, vFor, vAsg, vCall, vCallO, vCallL, vHold, swapIn, putBack, vRaise, gII, gIC, vFn, vChain, gTru, vpNone, vpSome, vSl, gSlL, gSlS, vIs, vFld, vMet, vMetK, vITup, vILst, vMtL, gAppend, vLc, vYes, vIRng1, vIEnumT, vIStr, vNeg, vFz, vMove, vLend, O.root, O.fz, O.toD, gEq, gNe, gIn, gCatL, gLen, gInt, gList, gTuple, vFPut, oPut, isTD, known7, noTD, eqOk, flat4, sameK, wipeE,  List.map_cons, List.map_nil, List.cons_append, List.nil_append, List.length_cons, List.length_nil, List.replicate_succ, List.replicate_zero, List.append_nil, List.getElem?_cons_zero, List.getElem?_cons_succ, List.getElem?_nil, List.set_cons_zero, List.set_cons_succ, List.set_nil, List.getD_cons_zero, List.getD_cons_succ, List.getD_nil, List.drop_zero, List.drop_succ_cons, List.take_succ_cons, List.take_zero, List.take_nil, Bool.true_and, Bool.and_true, Bool.false_and, Bool.and_false, Bool.or_true, Bool.or_false, Bool.true_or, Bool.false_or, Bool.not_true, Bool.not_false, if_true, if_false, ite_true, ite_false, true_and, and_true, eq_self_iff_true, Bool.false_eq_true, reduceIte, Nat.reduceSub, Nat.reduceAdd, reduceCtorEq, String.reduceBEq, beq_self_eq_true, true_or, or_true, false_or, or_false, false_and, and_false, decide_true, decide_false, Bool.not_not]
        refine vSeq_i fun N hN => ?_
        have cl : (sOf cs).length ≤ sizeLine := by rw [sOf_len, e1, sizeLine_eq]; decide
        have m0 : 0 ≤ (st + 7 * (i : Int)) % 26 := Int.emod_nonneg _ (by decide)
        have m1 : (st + 7 * (i : Int)) % 26 < 26 := Int.emod_lt_of_pos _ (by decide)
        simp only [mBody, vRet, vSet, vIfS, vNext, vDrop, vVar, vC, vOp, vBl, vNot, vAnd, vOr, vAndV, vOrV, vNotV, vIf, vANil, vACons, vONil, vOCons, vTup, vLst, vgSet, vgNil, vgCons, vgTup, vFor, vAsg, vCall, vCallO, vCallL, vHold, swapIn, putBack, vRaise, gII, gIC, vFn, vChain, gTru, vpNone, vpSome, vSl, gSlL, gSlS, vIs, vFld, vMet, vMetK, vITup, vILst, vMtL, gAppend, vLc, vYes, vIRng1, vIEnumT, vIStr, vNeg, vFz, vMove, vLend, O.root, O.fz, O.toD, gEq, gNe, gIn, gCatL, gLen, gInt, gList, gTuple, vFPut, oPut, isTD, known7, noTD, eqOk, flat4, sameK, wipeE,  List.map_cons, List.map_nil, List.cons_append, List.nil_append, List.length_cons, List.length_nil, List.replicate_succ, List.replicate_zero, List.append_nil, List.getElem?_cons_zero, List.getElem?_cons_succ, List.getElem?_nil, List.set_cons_zero, List.set_cons_succ, List.set_nil, List.getD_cons_zero, List.getD_cons_succ, List.getD_nil, List.drop_zero, List.drop_succ_cons, List.take_succ_cons, List.take_zero, List.take_nil, Bool.true_and, Bool.and_true, Bool.false_and, Bool.and_false, Bool.or_true, Bool.or_false, Bool.true_or, Bool.false_or, Bool.not_true, Bool.not_false, if_true, if_false, ite_true, ite_false, true_and, and_true, eq_self_iff_true, Bool.false_eq_true, reduceIte, Nat.reduceSub, Nat.reduceAdd, reduceCtorEq, String.reduceBEq, beq_self_eq_true, true_or, or_true, false_or, or_false, false_and, and_false, decide_true, decide_false, Bool.not_not, cl, cutS_to a0, gIx, letter_at m0 m1, gAddS]
        refine ⟨.inl ⟨by decide, by decide⟩, by decide, lets_small2, ?_, hN _ ?_⟩
        · rw [sOf_len, sgn, sOf_len, List.length_take, sizeLine_eq]
          show _ + 1 ≤ _
          omega
        · rw [sgn, sOf_app]
          simp only [mBody, vRet, vSet, vIfS, vNext, vDrop, vVar, vC, vOp, vBl, vNot, vAnd, vOr, vAndV, vOrV, vNotV, vIf, vANil, vACons, vONil, vOCons, vTup, vLst, vgSet, vgNil, vgCons, vgTup, vFor, vAsg, vCall, vCallO, vCallL, vHold, swapIn, putBack, vRaise, gII, gIC, vFn, vChain, gTru, vpNone, vpSome, vSl, gSlL, gSlS, vIs, vFld, vMet, vMetK, vITup, vILst, vMtL, gAppend, vLc, vYes, vIRng1, vIEnumT, vIStr, vNeg, vFz, vMove, vLend, O.root, O.fz, O.toD, gEq, gNe, gIn, gCatL, gLen, gInt, gList, gTuple, vFPut, oPut, isTD, known7, noTD, eqOk, flat4, sameK, wipeE,  List.map_cons, List.map_nil, List.cons_append, List.nil_append, List.length_cons, List.length_nil, List.replicate_succ, List.replicate_zero, List.append_nil, List.getElem?_cons_zero, List.getElem?_cons_succ, List.getElem?_nil, List.set_cons_zero, List.set_cons_succ, List.set_nil, List.getD_cons_zero, List.getD_cons_succ, List.getD_nil, List.drop_zero, List.drop_succ_cons, List.take_succ_cons, List.take_zero, List.take_nil, Bool.true_and, Bool.and_true, Bool.false_and, Bool.and_false, Bool.or_true, Bool.or_false, Bool.true_or, Bool.false_or, Bool.not_true, Bool.not_false, if_true, if_false, ite_true, ite_false, true_and, and_true, eq_self_iff_true, Bool.false_eq_true, reduceIte, Nat.reduceSub, Nat.reduceAdd, reduceCtorEq, String.reduceBEq, beq_self_eq_true, true_or, or_true, false_or, or_false, false_and, and_false, decide_true, decide_false, Bool.not_not, mTake]
          refine ⟨by decide, by decide, fun t t0 t1 => ?_⟩
          simp only [mBody, vRet, vSet, vIfS, vNext, vDrop, vVar, vC, vOp, vBl, vNot, vAnd, vOr, vAndV, vOrV, vNotV, vIf, vANil, vACons, vONil, vOCons, vTup, vLst, vgSet, vgNil, vgCons, vgTup, vFor, vAsg, vCall, vCallO, vCallL, vHold, swapIn, putBack, vRaise, gII, gIC, vFn, vChain, gTru, vpNone, vpSome, vSl, gSlL, gSlS, vIs, vFld, vMet, vMetK, vITup, vILst, vMtL, gAppend, vLc, vYes, vIRng1, vIEnumT, vIStr, vNeg, vFz, vMove, vLend, O.root, O.fz, O.toD, gEq, gNe, gIn, gCatL, gLen, gInt, gList, gTuple, vFPut, oPut, isTD, known7, noTD, eqOk, flat4, sameK, wipeE,  List.map_cons, List.map_nil, List.cons_append, List.nil_append, List.length_cons, List.length_nil, List.replicate_succ, List.replicate_zero, List.append_nil, List.getElem?_cons_zero, List.getElem?_cons_succ, List.getElem?_nil, List.set_cons_zero, List.set_cons_succ, List.set_nil, List.getD_cons_zero, List.getD_cons_succ, List.getD_nil, List.drop_zero, List.drop_succ_cons, List.take_succ_cons, List.take_zero, List.take_nil, Bool.true_and, Bool.and_true, Bool.false_and, Bool.and_false, Bool.or_true, Bool.or_false, Bool.true_or, Bool.false_or, Bool.not_true, Bool.not_false, if_true, if_false, ite_true, ite_false, true_and, and_true, eq_self_iff_true, Bool.false_eq_true, reduceIte, Nat.reduceSub, Nat.reduceAdd, reduceCtorEq, String.reduceBEq, beq_self_eq_true, true_or, or_true, false_or, or_false, false_and, and_false, decide_true, decide_false, Bool.not_not, cl, cutS_at a0 (show at_ ≤ at_ + t by omega) (show (at_ + t).toNat ≤ cs.length by rw [e1]; omega), gAddS, sOf_app]
          have e8 : ((List.take at_.toNat cs ++ [letter ((st + 7 * (i : Int)) % 26).toNat]) ++ List.take ((at_ + t).toNat - at_.toNat) (List.drop at_.toNat cs)).length = at_.toNat + 1 + t.toNat := by
            rw [List.length_append, List.length_append, List.length_take, List.length_take, List.length_drop, List.length_singleton, e1]
            omega
          refine ⟨?_, ?_, hn _ ⟨ns ++ [sOf ((List.take at_.toNat cs ++ [letter ((st + 7 * (i : Int)) % 26).toNat]) ++ List.take ((at_ + t).toNat - at_.toNat) (List.drop at_.toNat cs))], .sh (.int i), .sh (.str (sOf (List.take at_.toNat cs ++ [letter ((st + 7 * (i : Int)) % 26).toNat]))), by simp [f1], ?_, ?_, by simp⟩⟩
          · rw [sOf_len, sOf_len, ← List.length_append, e8, sizeLine_eq]
            omega
          · rw [List.length_map, f1, sizeLine_eq]
            omega
          · intro z hz
            rcases List.mem_append.mp hz with hz | hz
            · exact f2 z hz
            · rw [List.mem_singleton.mp hz]
              refine isNm_of (by rw [e8]; omega) (by rw [e8]; omega) fun c hc => ?_
              rcases List.mem_append.mp hc with hc | hc
              · rcases List.mem_append.mp hc with hc | hc
                · exact e2 c (List.mem_of_mem_take hc)
                · rw [List.mem_singleton.mp hc]
                  exact letter_in (by omega)
              · exact e2 c (List.mem_of_mem_drop (List.mem_of_mem_take hc))
          · intro j z hz
            by_cases hj : j < ns.length
            · rw [List.getElem?_append_left hj] at hz
              exact f3 j z hz
            · by_cases hj2 : j = ns.length
              · subst hj2
                rw [List.getElem?_append_right (Nat.le_refl _), Nat.sub_self] at hz
                have : z = sOf ((List.take at_.toNat cs ++ [letter ((st + 7 * (i : Int)) % 26).toNat]) ++ List.take ((at_ + t).toNat - at_.toNat) (List.drop at_.toNat cs)) := by simpa using hz.symm
                rw [this, sOf_list, f1, List.getElem?_append_left (by rw [List.length_append, List.length_take, List.length_singleton]; omega), List.getElem?_append_right (by rw [List.length_take]; omega), List.length_take]
                rw [show at_.toNat - min at_.toNat cs.length = 0 from by omega]
                rfl
              · rw [List.getElem?_eq_none (by rw [List.length_append, List.length_singleton]; omega)] at hz
                cases hz
      · rintro e ⟨ns, c5, c8, f1, f2, f3, rfl⟩
        refine hN _ ?_
        simp only [mBody, vRet, vSet, vIfS, vNext, vDrop, vVar, vC, vOp, vBl, vNot, vAnd, vOr, vAndV, vOrV, vNotV, vIf, vANil, vACons, vONil, vOCons, vTup, vLst, vgSet, vgNil, vgCons, vgTup, vFor, vAsg, vCall, vCallO, vCallL, vHold, swapIn, putBack, vRaise, gII, gIC, vFn, vChain, gTru, vpNone, vpSome, vSl, gSlL, gSlS, vIs, vFld, vMet, vMetK, vITup, vILst, vMtL, gAppend, vLc, vYes, vIRng1, vIEnumT, vIStr, vNeg, vFz, vMove, vLend, O.root, O.fz, O.toD, gEq, gNe, gIn, gCatL, gLen, gInt, gList, gTuple, vFPut, oPut, isTD, known7, noTD, eqOk, flat4, sameK, wipeE,  List.map_cons, List.map_nil, List.cons_append, List.nil_append, List.length_cons, List.length_nil, List.replicate_succ, List.replicate_zero, List.append_nil, List.getElem?_cons_zero, List.getElem?_cons_succ, List.getElem?_nil, List.set_cons_zero, List.set_cons_succ, List.set_nil, List.getD_cons_zero, List.getD_cons_succ, List.getD_nil, List.drop_zero, List.drop_succ_cons, List.take_succ_cons, List.take_zero, List.take_nil, Bool.true_and, Bool.and_true, Bool.false_and, Bool.and_false, Bool.or_true, Bool.or_false, Bool.true_or, Bool.false_or, Bool.not_true, Bool.not_false, if_true, if_false, ite_true, ite_false, true_and, and_true, eq_self_iff_true, Bool.false_eq_true, reduceIte, Nat.reduceSub, Nat.reduceAdd, reduceCtorEq, String.reduceBEq, beq_self_eq_true, true_or, or_true, false_or, or_false, false_and, and_false, decide_true, decide_false, Bool.not_not]
        rw [List.length_map, List.length_range] at f1
        refine q pn ns f1 f2 ?_
        rw [List.Nodup, List.pairwise_iff_getElem]
        intro j k hj hk hjk e
        have a2 := f3 j _ (List.getElem?_eq_getElem hj)
        rw [e, f3 k _ (List.getElem?_eq_getElem hk)] at a2
        injection a2 with a2
        have := letter_inj (by omega) (by omega) a2
        omega
end
/-- a thing whose kind is known, its text not too long -/
structure Gd (d : D) : Prop where
  k : known7 d = true
  t : noTD d = true
  s : ∀ z, d = .str z → z.length ≤ sizeLine
def nmD : D → Bool
  | .str z => isNm z
  | _ => false
def whD : D → Bool
  | .int _ => true
  | _ => false
def frD (a b : Int) : D → Bool
  | .int i => decide (a ≤ i) && decide (i ≤ b)
  | _ => false
def isBD : D → Bool
  | .bl _ => true
  | _ => false
section
variable {d : D} {Q : O → List O → Prop} {x : XD}
theorem is_whole_G (g : Gd d) (q : Q (.sh (.bl (whD d))) []) : m_is_whole [.sh d] Q x := by
  have hk := g.k
  have ht := g.t
  cases d with
  | dic t kvs =>
    simp [noTD] at ht
    subst ht
    simp only [mBody, vSeq, vRet, vSet, vIfS, vNext, vDrop, vVar, vC, vOp, vBl, vNot, vAnd, vOr, vAndV, vOrV, vNotV, vIf, vANil, vACons, vONil, vOCons, vTup, vLst, vgSet, vgNil, vgCons, vgTup, vFor, vAsg, vCall, vCallO, vCallL, vHold, swapIn, putBack, vRaise, gII, gIC, vFn, vChain, gTru, vpNone, vpSome, vSl, gSlL, gSlS, vIs, vFld, vMet, vMetK, vITup, vILst, vMtL, gAppend, vLc, vYes, vIRng1, vIEnumT, vIStr, vNeg, vFz, vMove, vLend, O.root, O.fz, O.toD, gEq, gNe, gIn, gCatL, gLen, gInt, gList, gTuple, vFPut, oPut, isTD, known7, noTD, eqOk, flat4, sameK, wipeE,  List.map_cons, List.map_nil, List.cons_append, List.nil_append, List.length_cons, List.length_nil, List.replicate_succ, List.replicate_zero, List.append_nil, List.getElem?_cons_zero, List.getElem?_cons_succ, List.getElem?_nil, List.set_cons_zero, List.set_cons_succ, List.set_nil, List.getD_cons_zero, List.getD_cons_succ, List.getD_nil, List.drop_zero, List.drop_succ_cons, List.take_succ_cons, List.take_zero, List.take_nil, Bool.true_and, Bool.and_true, Bool.false_and, Bool.and_false, Bool.or_true, Bool.or_false, Bool.true_or, Bool.false_or, Bool.not_true, Bool.not_false, if_true, if_false, ite_true, ite_false, true_and, and_true, eq_self_iff_true, Bool.false_eq_true, reduceIte, Nat.reduceSub, Nat.reduceAdd, reduceCtorEq, String.reduceBEq, beq_self_eq_true, true_or, or_true, false_or, or_false, false_and, and_false, decide_true, decide_false, Bool.not_not, m_is_whole]
    simpa [whD] using q
  | set _ => cases hk
  | obj _ _ _ => cases hk
  | ref _ => cases hk
  | exc _ _ _ _ => cases hk
  | _ =>
    simp only [mBody, vSeq, vRet, vSet, vIfS, vNext, vDrop, vVar, vC, vOp, vBl, vNot, vAnd, vOr, vAndV, vOrV, vNotV, vIf, vANil, vACons, vONil, vOCons, vTup, vLst, vgSet, vgNil, vgCons, vgTup, vFor, vAsg, vCall, vCallO, vCallL, vHold, swapIn, putBack, vRaise, gII, gIC, vFn, vChain, gTru, vpNone, vpSome, vSl, gSlL, gSlS, vIs, vFld, vMet, vMetK, vITup, vILst, vMtL, gAppend, vLc, vYes, vIRng1, vIEnumT, vIStr, vNeg, vFz, vMove, vLend, O.root, O.fz, O.toD, gEq, gNe, gIn, gCatL, gLen, gInt, gList, gTuple, vFPut, oPut, isTD, known7, noTD, eqOk, flat4, sameK, wipeE,  List.map_cons, List.map_nil, List.cons_append, List.nil_append, List.length_cons, List.length_nil, List.replicate_succ, List.replicate_zero, List.append_nil, List.getElem?_cons_zero, List.getElem?_cons_succ, List.getElem?_nil, List.set_cons_zero, List.set_cons_succ, List.set_nil, List.getD_cons_zero, List.getD_cons_succ, List.getD_nil, List.drop_zero, List.drop_succ_cons, List.take_succ_cons, List.take_zero, List.take_nil, Bool.true_and, Bool.and_true, Bool.false_and, Bool.and_false, Bool.or_true, Bool.or_false, Bool.true_or, Bool.false_or, Bool.not_true, Bool.not_false, if_true, if_false, ite_true, ite_false, true_and, and_true, eq_self_iff_true, Bool.false_eq_true, reduceIte, Nat.reduceSub, Nat.reduceAdd, reduceCtorEq, String.reduceBEq, beq_self_eq_true, true_or, or_true, false_or, or_false, false_and, and_false, decide_true, decide_false, Bool.not_not, m_is_whole]
    simpa [whD] using q
theorem is_from_G {a b : Int} (g : Gd d) (q : Q (.sh (.bl (frD a b d))) []) : m_is_from [.sh d, .sh (.int a), .sh (.int b)] Q x := by
  simp only [mBody, vSeq, vRet, vSet, vIfS, vNext, vDrop, vVar, vC, vOp, vBl, vNot, vAnd, vOr, vAndV, vOrV, vNotV, vIf, vANil, vACons, vONil, vOCons, vTup, vLst, vgSet, vgNil, vgCons, vgTup, vFor, vAsg, vCall, vCallO, vCallL, vHold, swapIn, putBack, vRaise, gII, gIC, vFn, vChain, gTru, vpNone, vpSome, vSl, gSlL, gSlS, vIs, vFld, vMet, vMetK, vITup, vILst, vMtL, gAppend, vLc, vYes, vIRng1, vIEnumT, vIStr, vNeg, vFz, vMove, vLend, O.root, O.fz, O.toD, gEq, gNe, gIn, gCatL, gLen, gInt, gList, gTuple, vFPut, oPut, isTD, known7, noTD, eqOk, flat4, sameK, wipeE,  List.map_cons, List.map_nil, List.cons_append, List.nil_append, List.length_cons, List.length_nil, List.replicate_succ, List.replicate_zero, List.append_nil, List.getElem?_cons_zero, List.getElem?_cons_succ, List.getElem?_nil, List.set_cons_zero, List.set_cons_succ, List.set_nil, List.getD_cons_zero, List.getD_cons_succ, List.getD_nil, List.drop_zero, List.drop_succ_cons, List.take_succ_cons, List.take_zero, List.take_nil, Bool.true_and, Bool.and_true, Bool.false_and, Bool.and_false, Bool.or_true, Bool.or_false, Bool.true_or, Bool.false_or, Bool.not_true, Bool.not_false, if_true, if_false, ite_true, ite_false, true_and, and_true, eq_self_iff_true, Bool.false_eq_true, reduceIte, Nat.reduceSub, Nat.reduceAdd, reduceCtorEq, String.reduceBEq, beq_self_eq_true, true_or, or_true, false_or, or_false, false_and, and_false, decide_true, decide_false, Bool.not_not, m_is_from]
  refine is_whole_G g ?_
  cases d with
  | int i =>
    simp only [mBody, vSeq, vRet, vSet, vIfS, vNext, vDrop, vVar, vC, vOp, vBl, vNot, vAnd, vOr, vAndV, vOrV, vNotV, vIf, vANil, vACons, vONil, vOCons, vTup, vLst, vgSet, vgNil, vgCons, vgTup, vFor, vAsg, vCall, vCallO, vCallL, vHold, swapIn, putBack, vRaise, gII, gIC, vFn, vChain, gTru, vpNone, vpSome, vSl, gSlL, gSlS, vIs, vFld, vMet, vMetK, vITup, vILst, vMtL, gAppend, vLc, vYes, vIRng1, vIEnumT, vIStr, vNeg, vFz, vMove, vLend, O.root, O.fz, O.toD, gEq, gNe, gIn, gCatL, gLen, gInt, gList, gTuple, vFPut, oPut, isTD, known7, noTD, eqOk, flat4, sameK, wipeE,  List.map_cons, List.map_nil, List.cons_append, List.nil_append, List.length_cons, List.length_nil, List.replicate_succ, List.replicate_zero, List.append_nil, List.getElem?_cons_zero, List.getElem?_cons_succ, List.getElem?_nil, List.set_cons_zero, List.set_cons_succ, List.set_nil, List.getD_cons_zero, List.getD_cons_succ, List.getD_nil, List.drop_zero, List.drop_succ_cons, List.take_succ_cons, List.take_zero, List.take_nil, Bool.true_and, Bool.and_true, Bool.false_and, Bool.and_false, Bool.or_true, Bool.or_false, Bool.true_or, Bool.false_or, Bool.not_true, Bool.not_false, if_true, if_false, ite_true, ite_false, true_and, and_true, eq_self_iff_true, Bool.false_eq_true, reduceIte, Nat.reduceSub, Nat.reduceAdd, reduceCtorEq, String.reduceBEq, beq_self_eq_true, true_or, or_true, false_or, or_false, false_and, and_false, decide_true, decide_false, Bool.not_not, whD]
    by_cases h : a ≤ i
    · simpa [h, frD] using q
    · simpa [h, frD] using q
  | _ =>
    simp only [mBody, vSeq, vRet, vSet, vIfS, vNext, vDrop, vVar, vC, vOp, vBl, vNot, vAnd, vOr, vAndV, vOrV, vNotV, vIf, vANil, vACons, vONil, vOCons, vTup, vLst, vgSet, vgNil, vgCons, vgTup, vFor, vAsg, vCall, vCallO, vCallL, vHold, swapIn, putBack, vRaise, gII, gIC, vFn, vChain, gTru, vpNone, vpSome, vSl, gSlL, gSlS, vIs, vFld, vMet, vMetK, vITup, vILst, vMtL, gAppend, vLc, vYes, vIRng1, vIEnumT, vIStr, vNeg, vFz, vMove, vLend, O.root, O.fz, O.toD, gEq, gNe, gIn, gCatL, gLen, gInt, gList, gTuple, vFPut, oPut, isTD, known7, noTD, eqOk, flat4, sameK, wipeE,  List.map_cons, List.map_nil, List.cons_append, List.nil_append, List.length_cons, List.length_nil, List.replicate_succ, List.replicate_zero, List.append_nil, List.getElem?_cons_zero, List.getElem?_cons_succ, List.getElem?_nil, List.set_cons_zero, List.set_cons_succ, List.set_nil, List.getD_cons_zero, List.getD_cons_succ, List.getD_nil, List.drop_zero, List.drop_succ_cons, List.take_succ_cons, List.take_zero, List.take_nil, Bool.true_and, Bool.and_true, Bool.false_and, Bool.and_false, Bool.or_true, Bool.or_false, Bool.true_or, Bool.false_or, Bool.not_true, Bool.not_false, if_true, if_false, ite_true, ite_false, true_and, and_true, eq_self_iff_true, Bool.false_eq_true, reduceIte, Nat.reduceSub, Nat.reduceAdd, reduceCtorEq, String.reduceBEq, beq_self_eq_true, true_or, or_true, false_or, or_false, false_and, and_false, decide_true, decide_false, Bool.not_not, whD]
    exact q
theorem is_name_G (g : Gd d) (q : Q (.sh (.bl (nmD d))) []) : m_is_name [.sh d] Q x := by
  have hk := g.k
  have ht := g.t
  cases d with
  | str z => exact is_name_V (g.s z rfl) q
  | dic t kvs =>
    simp [noTD] at ht
    subst ht
    simp only [mBody, vSeq, vRet, vSet, vIfS, vNext, vDrop, vVar, vC, vOp, vBl, vNot, vAnd, vOr, vAndV, vOrV, vNotV, vIf, vANil, vACons, vONil, vOCons, vTup, vLst, vgSet, vgNil, vgCons, vgTup, vFor, vAsg, vCall, vCallO, vCallL, vHold, swapIn, putBack, vRaise, gII, gIC, vFn, vChain, gTru, vpNone, vpSome, vSl, gSlL, gSlS, vIs, vFld, vMet, vMetK, vITup, vILst, vMtL, gAppend, vLc, vYes, vIRng1, vIEnumT, vIStr, vNeg, vFz, vMove, vLend, O.root, O.fz, O.toD, gEq, gNe, gIn, gCatL, gLen, gInt, gList, gTuple, vFPut, oPut, isTD, known7, noTD, eqOk, flat4, sameK, wipeE,  List.map_cons, List.map_nil, List.cons_append, List.nil_append, List.length_cons, List.length_nil, List.replicate_succ, List.replicate_zero, List.append_nil, List.getElem?_cons_zero, List.getElem?_cons_succ, List.getElem?_nil, List.set_cons_zero, List.set_cons_succ, List.set_nil, List.getD_cons_zero, List.getD_cons_succ, List.getD_nil, List.drop_zero, List.drop_succ_cons, List.take_succ_cons, List.take_zero, List.take_nil, Bool.true_and, Bool.and_true, Bool.false_and, Bool.and_false, Bool.or_true, Bool.or_false, Bool.true_or, Bool.false_or, Bool.not_true, Bool.not_false, if_true, if_false, ite_true, ite_false, true_and, and_true, eq_self_iff_true, Bool.false_eq_true, reduceIte, Nat.reduceSub, Nat.reduceAdd, reduceCtorEq, String.reduceBEq, beq_self_eq_true, true_or, or_true, false_or, or_false, false_and, and_false, decide_true, decide_false, Bool.not_not, m_is_name]
    simpa [nmD] using q
  | set _ => cases hk
  | obj _ _ _ => cases hk
  | ref _ => cases hk
  | exc _ _ _ _ => cases hk
  | _ =>
    simp only [mBody, vSeq, vRet, vSet, vIfS, vNext, vDrop, vVar, vC, vOp, vBl, vNot, vAnd, vOr, vAndV, vOrV, vNotV, vIf, vANil, vACons, vONil, vOCons, vTup, vLst, vgSet, vgNil, vgCons, vgTup, vFor, vAsg, vCall, vCallO, vCallL, vHold, swapIn, putBack, vRaise, gII, gIC, vFn, vChain, gTru, vpNone, vpSome, vSl, gSlL, gSlS, vIs, vFld, vMet, vMetK, vITup, vILst, vMtL, gAppend, vLc, vYes, vIRng1, vIEnumT, vIStr, vNeg, vFz, vMove, vLend, O.root, O.fz, O.toD, gEq, gNe, gIn, gCatL, gLen, gInt, gList, gTuple, vFPut, oPut, isTD, known7, noTD, eqOk, flat4, sameK, wipeE,  List.map_cons, List.map_nil, List.cons_append, List.nil_append, List.length_cons, List.length_nil, List.replicate_succ, List.replicate_zero, List.append_nil, List.getElem?_cons_zero, List.getElem?_cons_succ, List.getElem?_nil, List.set_cons_zero, List.set_cons_succ, List.set_nil, List.getD_cons_zero, List.getD_cons_succ, List.getD_nil, List.drop_zero, List.drop_succ_cons, List.take_succ_cons, List.take_zero, List.take_nil, Bool.true_and, Bool.and_true, Bool.false_and, Bool.and_false, Bool.or_true, Bool.or_false, Bool.true_or, Bool.false_or, Bool.not_true, Bool.not_false, if_true, if_false, ite_true, ite_false, true_and, and_true, eq_self_iff_true, Bool.false_eq_true, reduceIte, Nat.reduceSub, Nat.reduceAdd, reduceCtorEq, String.reduceBEq, beq_self_eq_true, true_or, or_true, false_or, or_false, false_and, and_false, decide_true, decide_false, Bool.not_not, m_is_name]
    simpa [nmD] using q
end
noncomputable def viaD : D → Bool
  | .non => true
  | .lst ds => ds.all nmD && decide ((uniq ds).length = ds.length)
  | _ => false
/-- what may be handed in as via -/
structure Gv (d : D) : Prop where
  g : Gd d
  l : ∀ ds, d = .lst ds → ds.length < 4000 ∧ ∀ e ∈ ds, Gd e
theorem all_names : ∀ {ds : List D}, ds.all nmD = true → ∃ ns : List Str, ds = ns.map D.str ∧ ∀ z ∈ ns, isNm z = true
  | [], _ => ⟨[], rfl, by simp⟩
  | d :: ds, h => by
    rw [List.all_cons, Bool.and_eq_true] at h
    obtain ⟨ns, e, hn⟩ := all_names h.2
    cases d with
    | str z => exact ⟨z :: ns, by rw [e]; rfl, fun y hy => by
        rcases List.mem_cons.mp hy with rfl | hy
        · exact h.1
        · exact hn y hy⟩
    | _ => exact absurd h.1 (by simp [nmD])
section
variable {d : D} {Q : O → List O → Prop} {x : XD}
theorem are_places_G (g : Gv d) (q : Q (.sh (.bl (viaD d))) []) : m_are_places [.sh d] Q x := by
  have hk := g.g.k
  have ht := g.g.t
  unfold m_are_places mBody
  refine vSeq_i fun N hN => ?_
  cases d with
  | non =>
    simp only [mBody, vRet, vSet, vIfS, vNext, vDrop, vVar, vC, vOp, vBl, vNot, vAnd, vOr, vAndV, vOrV, vNotV, vIf, vANil, vACons, vONil, vOCons, vTup, vLst, vgSet, vgNil, vgCons, vgTup, vFor, vAsg, vCall, vCallO, vCallL, vHold, swapIn, putBack, vRaise, gII, gIC, vFn, vChain, gTru, vpNone, vpSome, vSl, gSlL, gSlS, vIs, vFld, vMet, vMetK, vITup, vILst, vMtL, gAppend, vLc, vYes, vIRng1, vIEnumT, vIStr, vNeg, vFz, vMove, vLend, O.root, O.fz, O.toD, gEq, gNe, gIn, gCatL, gLen, gInt, gList, gTuple, vFPut, oPut, isTD, known7, noTD, eqOk, flat4, sameK, wipeE,  List.map_cons, List.map_nil, List.cons_append, List.nil_append, List.length_cons, List.length_nil, List.replicate_succ, List.replicate_zero, List.append_nil, List.getElem?_cons_zero, List.getElem?_cons_succ, List.getElem?_nil, List.set_cons_zero, List.set_cons_succ, List.set_nil, List.getD_cons_zero, List.getD_cons_succ, List.getD_nil, List.drop_zero, List.drop_succ_cons, List.take_succ_cons, List.take_zero, List.take_nil, Bool.true_and, Bool.and_true, Bool.false_and, Bool.and_false, Bool.or_true, Bool.or_false, Bool.true_or, Bool.false_or, Bool.not_true, Bool.not_false, if_true, if_false, ite_true, ite_false, true_and, and_true, eq_self_iff_true, Bool.false_eq_true, reduceIte, Nat.reduceSub, Nat.reduceAdd, reduceCtorEq, String.reduceBEq, beq_self_eq_true, true_or, or_true, false_or, or_false, false_and, and_false, decide_true, decide_false, Bool.not_not, gIsN, isNonD]
    exact q
  | lst ds =>
    obtain ⟨hl, hg⟩ := g.l ds rfl
    simp only [mBody, vRet, vSet, vIfS, vNext, vDrop, vVar, vC, vOp, vBl, vNot, vAnd, vOr, vAndV, vOrV, vNotV, vIf, vANil, vACons, vONil, vOCons, vTup, vLst, vgSet, vgNil, vgCons, vgTup, vFor, vAsg, vCall, vCallO, vCallL, vHold, swapIn, putBack, vRaise, gII, gIC, vFn, vChain, gTru, vpNone, vpSome, vSl, gSlL, gSlS, vIs, vFld, vMet, vMetK, vITup, vILst, vMtL, gAppend, vLc, vYes, vIRng1, vIEnumT, vIStr, vNeg, vFz, vMove, vLend, O.root, O.fz, O.toD, gEq, gNe, gIn, gCatL, gLen, gInt, gList, gTuple, vFPut, oPut, isTD, known7, noTD, eqOk, flat4, sameK, wipeE,  List.map_cons, List.map_nil, List.cons_append, List.nil_append, List.length_cons, List.length_nil, List.replicate_succ, List.replicate_zero, List.append_nil, List.getElem?_cons_zero, List.getElem?_cons_succ, List.getElem?_nil, List.set_cons_zero, List.set_cons_succ, List.set_nil, List.getD_cons_zero, List.getD_cons_succ, List.getD_nil, List.drop_zero, List.drop_succ_cons, List.take_succ_cons, List.take_zero, List.take_nil, Bool.true_and, Bool.and_true, Bool.false_and, Bool.and_false, Bool.or_true, Bool.or_false, Bool.true_or, Bool.false_or, Bool.not_true, Bool.not_false, if_true, if_false, ite_true, ite_false, true_and, and_true, eq_self_iff_true, Bool.false_eq_true, reduceIte, Nat.reduceSub, Nat.reduceAdd, reduceCtorEq, String.reduceBEq, beq_self_eq_true, true_or, or_true, false_or, or_false, false_and, and_false, decide_true, decide_false, Bool.not_not, gIsN, isNonD]
    refine hN _ ?_
    simp only [mBody, vRet, vSet, vIfS, vNext, vDrop, vVar, vC, vOp, vBl, vNot, vAnd, vOr, vAndV, vOrV, vNotV, vIf, vANil, vACons, vONil, vOCons, vTup, vLst, vgSet, vgNil, vgCons, vgTup, vFor, vAsg, vCall, vCallO, vCallL, vHold, swapIn, putBack, vRaise, gII, gIC, vFn, vChain, gTru, vpNone, vpSome, vSl, gSlL, gSlS, vIs, vFld, vMet, vMetK, vITup, vILst, vMtL, gAppend, vLc, vYes, vIRng1, vIEnumT, vIStr, vNeg, vFz, vMove, vLend, O.root, O.fz, O.toD, gEq, gNe, gIn, gCatL, gLen, gInt, gList, gTuple, vFPut, oPut, isTD, known7, noTD, eqOk, flat4, sameK, wipeE,  List.map_cons, List.map_nil, List.cons_append, List.nil_append, List.length_cons, List.length_nil, List.replicate_succ, List.replicate_zero, List.append_nil, List.getElem?_cons_zero, List.getElem?_cons_succ, List.getElem?_nil, List.set_cons_zero, List.set_cons_succ, List.set_nil, List.getD_cons_zero, List.getD_cons_succ, List.getD_nil, List.drop_zero, List.drop_succ_cons, List.take_succ_cons, List.take_zero, List.take_nil, Bool.true_and, Bool.and_true, Bool.false_and, Bool.and_false, Bool.or_true, Bool.or_false, Bool.true_or, Bool.false_or, Bool.not_true, Bool.not_false, if_true, if_false, ite_true, ite_false, true_and, and_true, eq_self_iff_true, Bool.false_eq_true, reduceIte, Nat.reduceSub, Nat.reduceAdd, reduceCtorEq, String.reduceBEq, beq_self_eq_true, true_or, or_true, false_or, or_false, false_and, and_false, decide_true, decide_false, Bool.not_not]
    rw [show ds = ds.map id by simp]
    refine vLcL_map (α := D) id (fun e => D.bl (nmD e)) ?_ ?_
    · intro e he acc Nx hn
      simp only [mBody, vRet, vSet, vIfS, vNext, vDrop, vVar, vC, vOp, vBl, vNot, vAnd, vOr, vAndV, vOrV, vNotV, vIf, vANil, vACons, vONil, vOCons, vTup, vLst, vgSet, vgNil, vgCons, vgTup, vFor, vAsg, vCall, vCallO, vCallL, vHold, swapIn, putBack, vRaise, gII, gIC, vFn, vChain, gTru, vpNone, vpSome, vSl, gSlL, gSlS, vIs, vFld, vMet, vMetK, vITup, vILst, vMtL, gAppend, vLc, vYes, vIRng1, vIEnumT, vIStr, vNeg, vFz, vMove, vLend, O.root, O.fz, O.toD, gEq, gNe, gIn, gCatL, gLen, gInt, gList, gTuple, vFPut, oPut, isTD, known7, noTD, eqOk, flat4, sameK, wipeE,  List.map_cons, List.map_nil, List.cons_append, List.nil_append, List.length_cons, List.length_nil, List.replicate_succ, List.replicate_zero, List.append_nil, List.getElem?_cons_zero, List.getElem?_cons_succ, List.getElem?_nil, List.set_cons_zero, List.set_cons_succ, List.set_nil, List.getD_cons_zero, List.getD_cons_succ, List.getD_nil, List.drop_zero, List.drop_succ_cons, List.take_succ_cons, List.take_zero, List.take_nil, Bool.true_and, Bool.and_true, Bool.false_and, Bool.and_false, Bool.or_true, Bool.or_false, Bool.true_or, Bool.false_or, Bool.not_true, Bool.not_false, if_true, if_false, ite_true, ite_false, true_and, and_true, eq_self_iff_true, Bool.false_eq_true, reduceIte, Nat.reduceSub, Nat.reduceAdd, reduceCtorEq, String.reduceBEq, beq_self_eq_true, true_or, or_true, false_or, or_false, false_and, and_false, decide_true, decide_false, Bool.not_not, id]
      exact is_name_G (hg e he) hn
    intro b
    simp only [mBody, vRet, vSet, vIfS, vNext, vDrop, vVar, vC, vOp, vBl, vNot, vAnd, vOr, vAndV, vOrV, vNotV, vIf, vANil, vACons, vONil, vOCons, vTup, vLst, vgSet, vgNil, vgCons, vgTup, vFor, vAsg, vCall, vCallO, vCallL, vHold, swapIn, putBack, vRaise, gII, gIC, vFn, vChain, gTru, vpNone, vpSome, vSl, gSlL, gSlS, vIs, vFld, vMet, vMetK, vITup, vILst, vMtL, gAppend, vLc, vYes, vIRng1, vIEnumT, vIStr, vNeg, vFz, vMove, vLend, O.root, O.fz, O.toD, gEq, gNe, gIn, gCatL, gLen, gInt, gList, gTuple, vFPut, oPut, isTD, known7, noTD, eqOk, flat4, sameK, wipeE,  List.map_cons, List.map_nil, List.cons_append, List.nil_append, List.length_cons, List.length_nil, List.replicate_succ, List.replicate_zero, List.append_nil, List.getElem?_cons_zero, List.getElem?_cons_succ, List.getElem?_nil, List.set_cons_zero, List.set_cons_succ, List.set_nil, List.getD_cons_zero, List.getD_cons_succ, List.getD_nil, List.drop_zero, List.drop_succ_cons, List.take_succ_cons, List.take_zero, List.take_nil, Bool.true_and, Bool.and_true, Bool.false_and, Bool.and_false, Bool.or_true, Bool.or_false, Bool.true_or, Bool.false_or, Bool.not_true, Bool.not_false, if_true, if_false, ite_true, ite_false, true_and, and_true, eq_self_iff_true, Bool.false_eq_true, reduceIte, Nat.reduceSub, Nat.reduceAdd, reduceCtorEq, String.reduceBEq, beq_self_eq_true, true_or, or_true, false_or, or_false, false_and, and_false, decide_true, decide_false, Bool.not_not]
    refine gAll_map ?_
    simp only [Bool.false_eq_true, if_false, List.map_id]
    cases ea : ds.all nmD with
    | false =>
      simp only [mBody, vRet, vSet, vIfS, vNext, vDrop, vVar, vC, vOp, vBl, vNot, vAnd, vOr, vAndV, vOrV, vNotV, vIf, vANil, vACons, vONil, vOCons, vTup, vLst, vgSet, vgNil, vgCons, vgTup, vFor, vAsg, vCall, vCallO, vCallL, vHold, swapIn, putBack, vRaise, gII, gIC, vFn, vChain, gTru, vpNone, vpSome, vSl, gSlL, gSlS, vIs, vFld, vMet, vMetK, vITup, vILst, vMtL, gAppend, vLc, vYes, vIRng1, vIEnumT, vIStr, vNeg, vFz, vMove, vLend, O.root, O.fz, O.toD, gEq, gNe, gIn, gCatL, gLen, gInt, gList, gTuple, vFPut, oPut, isTD, known7, noTD, eqOk, flat4, sameK, wipeE,  List.map_cons, List.map_nil, List.cons_append, List.nil_append, List.length_cons, List.length_nil, List.replicate_succ, List.replicate_zero, List.append_nil, List.getElem?_cons_zero, List.getElem?_cons_succ, List.getElem?_nil, List.set_cons_zero, List.set_cons_succ, List.set_nil, List.getD_cons_zero, List.getD_cons_succ, List.getD_nil, List.drop_zero, List.drop_succ_cons, List.take_succ_cons, List.take_zero, List.take_nil, Bool.true_and, Bool.and_true, Bool.false_and, Bool.and_false, Bool.or_true, Bool.or_false, Bool.true_or, Bool.false_or, Bool.not_true, Bool.not_false, if_true, if_false, ite_true, ite_false, true_and, and_true, eq_self_iff_true, Bool.false_eq_true, reduceIte, Nat.reduceSub, Nat.reduceAdd, reduceCtorEq, String.reduceBEq, beq_self_eq_true, true_or, or_true, false_or, or_false, false_and, and_false, decide_true, decide_false, Bool.not_not]
      simpa [viaD, ea] using q
    | true =>
      obtain ⟨ns, en, _⟩ := all_names ea
      simp only [mBody, vRet, vSet, vIfS, vNext, vDrop, vVar, vC, vOp, vBl, vNot, vAnd, vOr, vAndV, vOrV, vNotV, vIf, vANil, vACons, vONil, vOCons, vTup, vLst, vgSet, vgNil, vgCons, vgTup, vFor, vAsg, vCall, vCallO, vCallL, vHold, swapIn, putBack, vRaise, gII, gIC, vFn, vChain, gTru, vpNone, vpSome, vSl, gSlL, gSlS, vIs, vFld, vMet, vMetK, vITup, vILst, vMtL, gAppend, vLc, vYes, vIRng1, vIEnumT, vIStr, vNeg, vFz, vMove, vLend, O.root, O.fz, O.toD, gEq, gNe, gIn, gCatL, gLen, gInt, gList, gTuple, vFPut, oPut, isTD, known7, noTD, eqOk, flat4, sameK, wipeE,  List.map_cons, List.map_nil, List.cons_append, List.nil_append, List.length_cons, List.length_nil, List.replicate_succ, List.replicate_zero, List.append_nil, List.getElem?_cons_zero, List.getElem?_cons_succ, List.getElem?_nil, List.set_cons_zero, List.set_cons_succ, List.set_nil, List.getD_cons_zero, List.getD_cons_succ, List.getD_nil, List.drop_zero, List.drop_succ_cons, List.take_succ_cons, List.take_zero, List.take_nil, Bool.true_and, Bool.and_true, Bool.false_and, Bool.and_false, Bool.or_true, Bool.or_false, Bool.true_or, Bool.false_or, Bool.not_true, Bool.not_false, if_true, if_false, ite_true, ite_false, true_and, and_true, eq_self_iff_true, Bool.false_eq_true, reduceIte, Nat.reduceSub, Nat.reduceAdd, reduceCtorEq, String.reduceBEq, beq_self_eq_true, true_or, or_true, false_or, or_false, false_and, and_false, decide_true, decide_false, Bool.not_not, vLenSet]
      refine ⟨ns.map Sum.inr, by rw [en, List.map_map]; rfl, by rw [List.length_map]; rw [en, List.length_map] at hl; exact hl, ?_⟩
      rw [eqD_int]
      have e2 : decide (((uniq ds).length : Int) = (ds.length : Int)) = decide ((uniq ds).length = ds.length) := by
        rw [Bool.eq_iff_iff, decide_eq_true_eq, decide_eq_true_eq]; omega
      rw [e2]
      simpa [viaD, ea] using q
  | dic t kvs =>
    simp [noTD] at ht
    subst ht
    simp only [mBody, vRet, vSet, vIfS, vNext, vDrop, vVar, vC, vOp, vBl, vNot, vAnd, vOr, vAndV, vOrV, vNotV, vIf, vANil, vACons, vONil, vOCons, vTup, vLst, vgSet, vgNil, vgCons, vgTup, vFor, vAsg, vCall, vCallO, vCallL, vHold, swapIn, putBack, vRaise, gII, gIC, vFn, vChain, gTru, vpNone, vpSome, vSl, gSlL, gSlS, vIs, vFld, vMet, vMetK, vITup, vILst, vMtL, gAppend, vLc, vYes, vIRng1, vIEnumT, vIStr, vNeg, vFz, vMove, vLend, O.root, O.fz, O.toD, gEq, gNe, gIn, gCatL, gLen, gInt, gList, gTuple, vFPut, oPut, isTD, known7, noTD, eqOk, flat4, sameK, wipeE,  List.map_cons, List.map_nil, List.cons_append, List.nil_append, List.length_cons, List.length_nil, List.replicate_succ, List.replicate_zero, List.append_nil, List.getElem?_cons_zero, List.getElem?_cons_succ, List.getElem?_nil, List.set_cons_zero, List.set_cons_succ, List.set_nil, List.getD_cons_zero, List.getD_cons_succ, List.getD_nil, List.drop_zero, List.drop_succ_cons, List.take_succ_cons, List.take_zero, List.take_nil, Bool.true_and, Bool.and_true, Bool.false_and, Bool.and_false, Bool.or_true, Bool.or_false, Bool.true_or, Bool.false_or, Bool.not_true, Bool.not_false, if_true, if_false, ite_true, ite_false, true_and, and_true, eq_self_iff_true, Bool.false_eq_true, reduceIte, Nat.reduceSub, Nat.reduceAdd, reduceCtorEq, String.reduceBEq, beq_self_eq_true, true_or, or_true, false_or, or_false, false_and, and_false, decide_true, decide_false, Bool.not_not, gIsN, isNonD]
    refine hN _ ?_
    simp only [mBody, vRet, vSet, vIfS, vNext, vDrop, vVar, vC, vOp, vBl, vNot, vAnd, vOr, vAndV, vOrV, vNotV, vIf, vANil, vACons, vONil, vOCons, vTup, vLst, vgSet, vgNil, vgCons, vgTup, vFor, vAsg, vCall, vCallO, vCallL, vHold, swapIn, putBack, vRaise, gII, gIC, vFn, vChain, gTru, vpNone, vpSome, vSl, gSlL, gSlS, vIs, vFld, vMet, vMetK, vITup, vILst, vMtL, gAppend, vLc, vYes, vIRng1, vIEnumT, vIStr, vNeg, vFz, vMove, vLend, O.root, O.fz, O.toD, gEq, gNe, gIn, gCatL, gLen, gInt, gList, gTuple, vFPut, oPut, isTD, known7, noTD, eqOk, flat4, sameK, wipeE,  List.map_cons, List.map_nil, List.cons_append, List.nil_append, List.length_cons, List.length_nil, List.replicate_succ, List.replicate_zero, List.append_nil, List.getElem?_cons_zero, List.getElem?_cons_succ, List.getElem?_nil, List.set_cons_zero, List.set_cons_succ, List.set_nil, List.getD_cons_zero, List.getD_cons_succ, List.getD_nil, List.drop_zero, List.drop_succ_cons, List.take_succ_cons, List.take_zero, List.take_nil, Bool.true_and, Bool.and_true, Bool.false_and, Bool.and_false, Bool.or_true, Bool.or_false, Bool.true_or, Bool.false_or, Bool.not_true, Bool.not_false, if_true, if_false, ite_true, ite_false, true_and, and_true, eq_self_iff_true, Bool.false_eq_true, reduceIte, Nat.reduceSub, Nat.reduceAdd, reduceCtorEq, String.reduceBEq, beq_self_eq_true, true_or, or_true, false_or, or_false, false_and, and_false, decide_true, decide_false, Bool.not_not]
    exact q
  | set _ => cases hk
  | obj _ _ _ => cases hk
  | ref _ => cases hk
  | exc _ _ _ _ => cases hk
  | _ =>
    simp only [mBody, vRet, vSet, vIfS, vNext, vDrop, vVar, vC, vOp, vBl, vNot, vAnd, vOr, vAndV, vOrV, vNotV, vIf, vANil, vACons, vONil, vOCons, vTup, vLst, vgSet, vgNil, vgCons, vgTup, vFor, vAsg, vCall, vCallO, vCallL, vHold, swapIn, putBack, vRaise, gII, gIC, vFn, vChain, gTru, vpNone, vpSome, vSl, gSlL, gSlS, vIs, vFld, vMet, vMetK, vITup, vILst, vMtL, gAppend, vLc, vYes, vIRng1, vIEnumT, vIStr, vNeg, vFz, vMove, vLend, O.root, O.fz, O.toD, gEq, gNe, gIn, gCatL, gLen, gInt, gList, gTuple, vFPut, oPut, isTD, known7, noTD, eqOk, flat4, sameK, wipeE,  List.map_cons, List.map_nil, List.cons_append, List.nil_append, List.length_cons, List.length_nil, List.replicate_succ, List.replicate_zero, List.append_nil, List.getElem?_cons_zero, List.getElem?_cons_succ, List.getElem?_nil, List.set_cons_zero, List.set_cons_succ, List.set_nil, List.getD_cons_zero, List.getD_cons_succ, List.getD_nil, List.drop_zero, List.drop_succ_cons, List.take_succ_cons, List.take_zero, List.take_nil, Bool.true_and, Bool.and_true, Bool.false_and, Bool.and_false, Bool.or_true, Bool.or_false, Bool.true_or, Bool.false_or, Bool.not_true, Bool.not_false, if_true, if_false, ite_true, ite_false, true_and, and_true, eq_self_iff_true, Bool.false_eq_true, reduceIte, Nat.reduceSub, Nat.reduceAdd, reduceCtorEq, String.reduceBEq, beq_self_eq_true, true_or, or_true, false_or, or_false, false_and, and_false, decide_true, decide_false, Bool.not_not, gIsN, isNonD]
    refine hN _ ?_
    simp only [mBody, vRet, vSet, vIfS, vNext, vDrop, vVar, vC, vOp, vBl, vNot, vAnd, vOr, vAndV, vOrV, vNotV, vIf, vANil, vACons, vONil, vOCons, vTup, vLst, vgSet, vgNil, vgCons, vgTup, vFor, vAsg, vCall, vCallO, vCallL, vHold, swapIn, putBack, vRaise, gII, gIC, vFn, vChain, gTru, vpNone, vpSome, vSl, gSlL, gSlS, vIs, vFld, vMet, vMetK, vITup, vILst, vMtL, gAppend, vLc, vYes, vIRng1, vIEnumT, vIStr, vNeg, vFz, vMove, vLend, O.root, O.fz, O.toD, gEq, gNe, gIn, gCatL, gLen, gInt, gList, gTuple, vFPut, oPut, isTD, known7, noTD, eqOk, flat4, sameK, wipeE,  List.map_cons, List.map_nil, List.cons_append, List.nil_append, List.length_cons, List.length_nil, List.replicate_succ, List.replicate_zero, List.append_nil, List.getElem?_cons_zero, List.getElem?_cons_succ, List.getElem?_nil, List.set_cons_zero, List.set_cons_succ, List.set_nil, List.getD_cons_zero, List.getD_cons_succ, List.getD_nil, List.drop_zero, List.drop_succ_cons, List.take_succ_cons, List.take_zero, List.take_nil, Bool.true_and, Bool.and_true, Bool.false_and, Bool.and_false, Bool.or_true, Bool.or_false, Bool.true_or, Bool.false_or, Bool.not_true, Bool.not_false, if_true, if_false, ite_true, ite_false, true_and, and_true, eq_self_iff_true, Bool.false_eq_true, reduceIte, Nat.reduceSub, Nat.reduceAdd, reduceCtorEq, String.reduceBEq, beq_self_eq_true, true_or, or_true, false_or, or_false, false_and, and_false, decide_true, decide_false, Bool.not_not]
    exact q
end
open Classical in
/-- the word of the first part that is none -/
noncomputable def tkBad (d0 d1 d2 d3 d4 d5 d6 : D) : Option Str :=
  if nmD d0 = false then some "here" else if nmD d1 = false ∨ d1 = d0 then some "there"
  else if frD 0 1440 d2 = false ∨ (∀ i, d2 = .int i → frD i 1440 d3 = false) then some "window"
  else if viaD d4 = false then some "via" else if d5 ≠ .non ∧ nmD d5 = false then some "train" else if isBD d6 = false then some "breaks" else none
def viaO (q : Addr) : D → O
  | .lst ds => .ol q ds
  | d => .sh d
abbrev tkO (p q : Addr) (d0 d1 d2 d3 d4 d5 d6 : D) : O := .oo p "Ticket" [("here", .sh d0), ("there", .sh d1), ("since", .sh d2), ("till", .sh d3), ("via", viaO q d4), ("bound", .sh d5), ("breaks", .sh d6)]
abbrev tkF (d0 d1 d2 d3 d4 d5 d6 : D) : List (Str × D) := [("here", d0), ("there", d1), ("since", d2), ("till", d3), ("via", d4), ("bound", d5), ("breaks", d6)]
abbrev tkD (p : Addr) (d0 d1 d2 d3 d4 d5 d6 : D) : D := .obj p "Ticket" (tkF d0 d1 d2 d3 d4 d5 d6)
structure Gp (d0 d1 d2 d3 d4 d5 d6 : D) : Prop where
  g0 : Gd d0
  g1 : Gd d1
  g2 : Gd d2
  g3 : Gd d3
  g4 : Gv d4
  g5 : Gd d5
  g6 : Gd d6
section
variable {d0 d1 d2 d3 d4 d5 d6 : D} {Q : O → List O → Prop} {x : XD}
theorem oputA {o o1 : O} : oPut "there" o [("here", o1)] = ([("here", o1), ("there", o)] : List (Str × O)) := rfl
theorem oputB {o o1 o2 : O} : oPut "since" o [("here", o1), ("there", o2)] = ([("here", o1), ("there", o2), ("since", o)] : List (Str × O)) := rfl
theorem oputC {o o1 o2 o3 : O} : oPut "till" o [("here", o1), ("there", o2), ("since", o3)] = ([("here", o1), ("there", o2), ("since", o3), ("till", o)] : List (Str × O)) := rfl
theorem oputD {o o1 o2 o3 o4 : O} : oPut "via" o [("here", o1), ("there", o2), ("since", o3), ("till", o4)] = ([("here", o1), ("there", o2), ("since", o3), ("till", o4), ("via", o)] : List (Str × O)) := rfl
theorem oputE {o o1 o2 o3 o4 o5 : O} : oPut "bound" o [("here", o1), ("there", o2), ("since", o3), ("till", o4), ("via", o5)] = ([("here", o1), ("there", o2), ("since", o3), ("till", o4), ("via", o5), ("bound", o)] : List (Str × O)) := rfl
theorem oputF {o o1 o2 o3 o4 o5 o6 : O} : oPut "breaks" o [("here", o1), ("there", o2), ("since", o3), ("till", o4), ("via", o5), ("bound", o6)] = ([("here", o1), ("there", o2), ("since", o3), ("till", o4), ("via", o5), ("bound", o6), ("breaks", o)] : List (Str × O)) := rfl
theorem nm_str (h : nmD d0 = true) : ∃ z, d0 = .str z ∧ isNm z = true := by
  cases d0 with
  | str z => exact ⟨z, rfl, h⟩
  | _ => cases h
theorem fr_int {a b : Int} (h : frD a b d0 = true) : ∃ i, d0 = .int i ∧ a ≤ i ∧ i ≤ b := by
  cases d0 with
  | int i => exact ⟨i, rfl, by simpa [frD] using h⟩
  | _ => cases h
theorem Ticket_init_V {p : Addr} (g : Gp d0 d1 d2 d3 d4 d5 d6) (q : tkBad d0 d1 d2 d3 d4 d5 d6 = none → ∀ q, Q (.sh .non) [tkO p q d0 d1 d2 d3 d4 d5 d6]) (qx : ∀ wd, tkBad d0 d1 d2 d3 d4 d5 d6 = some wd → x "NoTicket" "what" (.str wd) [.oo p "Ticket" []]) :
    m_Ticket_init [.oo p "Ticket" [], .sh d0, .sh d1, .sh d2, .sh d3, .sh d4, .sh d5, .sh d6] Q x := by
  unfold m_Ticket_init mBody
  refine vSeq_i fun N hN => ?_
  simp only [mBody, vRet, vSet, vIfS, vNext, vDrop, vVar, vC, vOp, vBl, vNot, vAnd, vOr, vAndV, vOrV, vNotV, vIf, vANil, vACons, vONil, vOCons, vTup, vLst, vgSet, vgNil, vgCons, vgTup, vFor, vAsg, vCall, vCallO, vCallL, vHold, swapIn, putBack, vRaise, gII, gIC, vFn, vChain, gTru, vpNone, vpSome, vSl, gSlL, gSlS, vIs, vFld, vMet, vMetK, vITup, vILst, vMtL, gAppend, vLc, vYes, vIRng1, vIEnumT, vIStr, vNeg, vFz, vMove, vLend, O.root, O.fz, O.toD, gEq, gNe, gIn, gCatL, gLen, gInt, gList, gTuple, vFPut, oPut, isTD, known7, noTD, eqOk, flat4, sameK, wipeE,  List.map_cons, List.map_nil, List.cons_append, List.nil_append, List.length_cons, List.length_nil, List.replicate_succ, List.replicate_zero, List.append_nil, List.getElem?_cons_zero, List.getElem?_cons_succ, List.getElem?_nil, List.set_cons_zero, List.set_cons_succ, List.set_nil, List.getD_cons_zero, List.getD_cons_succ, List.getD_nil, List.drop_zero, List.drop_succ_cons, List.take_succ_cons, List.take_zero, List.take_nil, Bool.true_and, Bool.and_true, Bool.false_and, Bool.and_false, Bool.or_true, Bool.or_false, Bool.true_or, Bool.false_or, Bool.not_true, Bool.not_false, if_true, if_false, ite_true, ite_false, true_and, and_true, eq_self_iff_true, Bool.false_eq_true, reduceIte, Nat.reduceSub, Nat.reduceAdd, reduceCtorEq, String.reduceBEq, beq_self_eq_true, true_or, or_true, false_or, or_false, false_and, and_false, decide_true, decide_false, Bool.not_not]
  refine is_name_G g.g0 ?_
  cases e0 : nmD d0 with
  | false =>
    simp only [mBody, vRet, vSet, vIfS, vNext, vDrop, vVar, vC, vOp, vBl, vNot, vAnd, vOr, vAndV, vOrV, vNotV, vIf, vANil, vACons, vONil, vOCons, vTup, vLst, vgSet, vgNil, vgCons, vgTup, vFor, vAsg, vCall, vCallO, vCallL, vHold, swapIn, putBack, vRaise, gII, gIC, vFn, vChain, gTru, vpNone, vpSome, vSl, gSlL, gSlS, vIs, vFld, vMet, vMetK, vITup, vILst, vMtL, gAppend, vLc, vYes, vIRng1, vIEnumT, vIStr, vNeg, vFz, vMove, vLend, O.root, O.fz, O.toD, gEq, gNe, gIn, gCatL, gLen, gInt, gList, gTuple, vFPut, oPut, isTD, known7, noTD, eqOk, flat4, sameK, wipeE,  List.map_cons, List.map_nil, List.cons_append, List.nil_append, List.length_cons, List.length_nil, List.replicate_succ, List.replicate_zero, List.append_nil, List.getElem?_cons_zero, List.getElem?_cons_succ, List.getElem?_nil, List.set_cons_zero, List.set_cons_succ, List.set_nil, List.getD_cons_zero, List.getD_cons_succ, List.getD_nil, List.drop_zero, List.drop_succ_cons, List.take_succ_cons, List.take_zero, List.take_nil, Bool.true_and, Bool.and_true, Bool.false_and, Bool.and_false, Bool.or_true, Bool.or_false, Bool.true_or, Bool.false_or, Bool.not_true, Bool.not_false, if_true, if_false, ite_true, ite_false, true_and, and_true, eq_self_iff_true, Bool.false_eq_true, reduceIte, Nat.reduceSub, Nat.reduceAdd, reduceCtorEq, String.reduceBEq, beq_self_eq_true, true_or, or_true, false_or, or_false, false_and, and_false, decide_true, decide_false, Bool.not_not]
    exact qx "here" (by unfold tkBad; rw [if_pos e0])
  | true =>
  obtain ⟨z0, rfl, hz0⟩ := nm_str e0
  simp only [mBody, vRet, vSet, vIfS, vNext, vDrop, vVar, vC, vOp, vBl, vNot, vAnd, vOr, vAndV, vOrV, vNotV, vIf, vANil, vACons, vONil, vOCons, vTup, vLst, vgSet, vgNil, vgCons, vgTup, vFor, vAsg, vCall, vCallO, vCallL, vHold, swapIn, putBack, vRaise, gII, gIC, vFn, vChain, gTru, vpNone, vpSome, vSl, gSlL, gSlS, vIs, vFld, vMet, vMetK, vITup, vILst, vMtL, gAppend, vLc, vYes, vIRng1, vIEnumT, vIStr, vNeg, vFz, vMove, vLend, O.root, O.fz, O.toD, gEq, gNe, gIn, gCatL, gLen, gInt, gList, gTuple, vFPut, oPut, isTD, known7, noTD, eqOk, flat4, sameK, wipeE,  List.map_cons, List.map_nil, List.cons_append, List.nil_append, List.length_cons, List.length_nil, List.replicate_succ, List.replicate_zero, List.append_nil, List.getElem?_cons_zero, List.getElem?_cons_succ, List.getElem?_nil, List.set_cons_zero, List.set_cons_succ, List.set_nil, List.getD_cons_zero, List.getD_cons_succ, List.getD_nil, List.drop_zero, List.drop_succ_cons, List.take_succ_cons, List.take_zero, List.take_nil, Bool.true_and, Bool.and_true, Bool.false_and, Bool.and_false, Bool.or_true, Bool.or_false, Bool.true_or, Bool.false_or, Bool.not_true, Bool.not_false, if_true, if_false, ite_true, ite_false, true_and, and_true, eq_self_iff_true, Bool.false_eq_true, reduceIte, Nat.reduceSub, Nat.reduceAdd, reduceCtorEq, String.reduceBEq, beq_self_eq_true, true_or, or_true, false_or, or_false, false_and, and_false, decide_true, decide_false, Bool.not_not]
  refine hN _ (vSeq_i fun N hN => ?_)
  simp only [mBody, vRet, vSet, vIfS, vNext, vDrop, vVar, vC, vOp, vBl, vNot, vAnd, vOr, vAndV, vOrV, vNotV, vIf, vANil, vACons, vONil, vOCons, vTup, vLst, vgSet, vgNil, vgCons, vgTup, vFor, vAsg, vCall, vCallO, vCallL, vHold, swapIn, putBack, vRaise, gII, gIC, vFn, vChain, gTru, vpNone, vpSome, vSl, gSlL, gSlS, vIs, vFld, vMet, vMetK, vITup, vILst, vMtL, gAppend, vLc, vYes, vIRng1, vIEnumT, vIStr, vNeg, vFz, vMove, vLend, O.root, O.fz, O.toD, gEq, gNe, gIn, gCatL, gLen, gInt, gList, gTuple, vFPut, oPut, isTD, known7, noTD, eqOk, flat4, sameK, wipeE,  List.map_cons, List.map_nil, List.cons_append, List.nil_append, List.length_cons, List.length_nil, List.replicate_succ, List.replicate_zero, List.append_nil, List.getElem?_cons_zero, List.getElem?_cons_succ, List.getElem?_nil, List.set_cons_zero, List.set_cons_succ, List.set_nil, List.getD_cons_zero, List.getD_cons_succ, List.getD_nil, List.drop_zero, List.drop_succ_cons, List.take_succ_cons, List.take_zero, List.take_nil, Bool.true_and, Bool.and_true, Bool.false_and, Bool.and_false, Bool.or_true, Bool.or_false, Bool.true_or, Bool.false_or, Bool.not_true, Bool.not_false, if_true, if_false, ite_true, ite_false, true_and, and_true, eq_self_iff_true, Bool.false_eq_true, reduceIte, Nat.reduceSub, Nat.reduceAdd, reduceCtorEq, String.reduceBEq, beq_self_eq_true, true_or, or_true, false_or, or_false, false_and, and_false, decide_true, decide_false, Bool.not_not]
  refine is_name_G g.g1 ?_
  cases e1 : nmD d1 with
  | false =>
    simp only [mBody, vRet, vSet, vIfS, vNext, vDrop, vVar, vC, vOp, vBl, vNot, vAnd, vOr, vAndV, vOrV, vNotV, vIf, vANil, vACons, vONil, vOCons, vTup, vLst, vgSet, vgNil, vgCons, vgTup, vFor, vAsg, vCall, vCallO, vCallL, vHold, swapIn, putBack, vRaise, gII, gIC, vFn, vChain, gTru, vpNone, vpSome, vSl, gSlL, gSlS, vIs, vFld, vMet, vMetK, vITup, vILst, vMtL, gAppend, vLc, vYes, vIRng1, vIEnumT, vIStr, vNeg, vFz, vMove, vLend, O.root, O.fz, O.toD, gEq, gNe, gIn, gCatL, gLen, gInt, gList, gTuple, vFPut, oPut, isTD, known7, noTD, eqOk, flat4, sameK, wipeE,  List.map_cons, List.map_nil, List.cons_append, List.nil_append, List.length_cons, List.length_nil, List.replicate_succ, List.replicate_zero, List.append_nil, List.getElem?_cons_zero, List.getElem?_cons_succ, List.getElem?_nil, List.set_cons_zero, List.set_cons_succ, List.set_nil, List.getD_cons_zero, List.getD_cons_succ, List.getD_nil, List.drop_zero, List.drop_succ_cons, List.take_succ_cons, List.take_zero, List.take_nil, Bool.true_and, Bool.and_true, Bool.false_and, Bool.and_false, Bool.or_true, Bool.or_false, Bool.true_or, Bool.false_or, Bool.not_true, Bool.not_false, if_true, if_false, ite_true, ite_false, true_and, and_true, eq_self_iff_true, Bool.false_eq_true, reduceIte, Nat.reduceSub, Nat.reduceAdd, reduceCtorEq, String.reduceBEq, beq_self_eq_true, true_or, or_true, false_or, or_false, false_and, and_false, decide_true, decide_false, Bool.not_not]
    exact qx "there" (by unfold tkBad; rw [if_neg (by rw [e0]; simp), if_pos (.inl e1)])
  | true =>
  obtain ⟨z1, rfl, hz1⟩ := nm_str e1
  simp only [mBody, vRet, vSet, vIfS, vNext, vDrop, vVar, vC, vOp, vBl, vNot, vAnd, vOr, vAndV, vOrV, vNotV, vIf, vANil, vACons, vONil, vOCons, vTup, vLst, vgSet, vgNil, vgCons, vgTup, vFor, vAsg, vCall, vCallO, vCallL, vHold, swapIn, putBack, vRaise, gII, gIC, vFn, vChain, gTru, vpNone, vpSome, vSl, gSlL, gSlS, vIs, vFld, vMet, vMetK, vITup, vILst, vMtL, gAppend, vLc, vYes, vIRng1, vIEnumT, vIStr, vNeg, vFz, vMove, vLend, O.root, O.fz, O.toD, gEq, gNe, gIn, gCatL, gLen, gInt, gList, gTuple, vFPut, oPut, isTD, known7, noTD, eqOk, flat4, sameK, wipeE,  List.map_cons, List.map_nil, List.cons_append, List.nil_append, List.length_cons, List.length_nil, List.replicate_succ, List.replicate_zero, List.append_nil, List.getElem?_cons_zero, List.getElem?_cons_succ, List.getElem?_nil, List.set_cons_zero, List.set_cons_succ, List.set_nil, List.getD_cons_zero, List.getD_cons_succ, List.getD_nil, List.drop_zero, List.drop_succ_cons, List.take_succ_cons, List.take_zero, List.take_nil, Bool.true_and, Bool.and_true, Bool.false_and, Bool.and_false, Bool.or_true, Bool.or_false, Bool.true_or, Bool.false_or, Bool.not_true, Bool.not_false, if_true, if_false, ite_true, ite_false, true_and, and_true, eq_self_iff_true, Bool.false_eq_true, reduceIte, Nat.reduceSub, Nat.reduceAdd, reduceCtorEq, String.reduceBEq, beq_self_eq_true, true_or, or_true, false_or, or_false, false_and, and_false, decide_true, decide_false, Bool.not_not, eqD_str]
  by_cases e01 : z1 = z0
  · subst e01
    simp only [mBody, vRet, vSet, vIfS, vNext, vDrop, vVar, vC, vOp, vBl, vNot, vAnd, vOr, vAndV, vOrV, vNotV, vIf, vANil, vACons, vONil, vOCons, vTup, vLst, vgSet, vgNil, vgCons, vgTup, vFor, vAsg, vCall, vCallO, vCallL, vHold, swapIn, putBack, vRaise, gII, gIC, vFn, vChain, gTru, vpNone, vpSome, vSl, gSlL, gSlS, vIs, vFld, vMet, vMetK, vITup, vILst, vMtL, gAppend, vLc, vYes, vIRng1, vIEnumT, vIStr, vNeg, vFz, vMove, vLend, O.root, O.fz, O.toD, gEq, gNe, gIn, gCatL, gLen, gInt, gList, gTuple, vFPut, oPut, isTD, known7, noTD, eqOk, flat4, sameK, wipeE,  List.map_cons, List.map_nil, List.cons_append, List.nil_append, List.length_cons, List.length_nil, List.replicate_succ, List.replicate_zero, List.append_nil, List.getElem?_cons_zero, List.getElem?_cons_succ, List.getElem?_nil, List.set_cons_zero, List.set_cons_succ, List.set_nil, List.getD_cons_zero, List.getD_cons_succ, List.getD_nil, List.drop_zero, List.drop_succ_cons, List.take_succ_cons, List.take_zero, List.take_nil, Bool.true_and, Bool.and_true, Bool.false_and, Bool.and_false, Bool.or_true, Bool.or_false, Bool.true_or, Bool.false_or, Bool.not_true, Bool.not_false, if_true, if_false, ite_true, ite_false, true_and, and_true, eq_self_iff_true, Bool.false_eq_true, reduceIte, Nat.reduceSub, Nat.reduceAdd, reduceCtorEq, String.reduceBEq, beq_self_eq_true, true_or, or_true, false_or, or_false, false_and, and_false, decide_true, decide_false, Bool.not_not]
    exact qx "there" (by unfold tkBad; rw [if_neg (by rw [e0]; simp), if_pos (.inr rfl)])
  rw [decide_eq_false e01]
  simp only [mBody, vRet, vSet, vIfS, vNext, vDrop, vVar, vC, vOp, vBl, vNot, vAnd, vOr, vAndV, vOrV, vNotV, vIf, vANil, vACons, vONil, vOCons, vTup, vLst, vgSet, vgNil, vgCons, vgTup, vFor, vAsg, vCall, vCallO, vCallL, vHold, swapIn, putBack, vRaise, gII, gIC, vFn, vChain, gTru, vpNone, vpSome, vSl, gSlL, gSlS, vIs, vFld, vMet, vMetK, vITup, vILst, vMtL, gAppend, vLc, vYes, vIRng1, vIEnumT, vIStr, vNeg, vFz, vMove, vLend, O.root, O.fz, O.toD, gEq, gNe, gIn, gCatL, gLen, gInt, gList, gTuple, vFPut, oPut, isTD, known7, noTD, eqOk, flat4, sameK, wipeE,  List.map_cons, List.map_nil, List.cons_append, List.nil_append, List.length_cons, List.length_nil, List.replicate_succ, List.replicate_zero, List.append_nil, List.getElem?_cons_zero, List.getElem?_cons_succ, List.getElem?_nil, List.set_cons_zero, List.set_cons_succ, List.set_nil, List.getD_cons_zero, List.getD_cons_succ, List.getD_nil, List.drop_zero, List.drop_succ_cons, List.take_succ_cons, List.take_zero, List.take_nil, Bool.true_and, Bool.and_true, Bool.false_and, Bool.and_false, Bool.or_true, Bool.or_false, Bool.true_or, Bool.false_or, Bool.not_true, Bool.not_false, if_true, if_false, ite_true, ite_false, true_and, and_true, eq_self_iff_true, Bool.false_eq_true, reduceIte, Nat.reduceSub, Nat.reduceAdd, reduceCtorEq, String.reduceBEq, beq_self_eq_true, true_or, or_true, false_or, or_false, false_and, and_false, decide_true, decide_false, Bool.not_not]
  have n1 : ¬ (nmD (D.str z1) = false ∨ D.str z1 = D.str z0) := fun h => by
    rcases h with h | h
    · rw [e1] at h; cases h
    · injection h with h; exact e01 h
  refine hN _ (vSeq_i fun N hN => ?_)
  simp only [mBody, vRet, vSet, vIfS, vNext, vDrop, vVar, vC, vOp, vBl, vNot, vAnd, vOr, vAndV, vOrV, vNotV, vIf, vANil, vACons, vONil, vOCons, vTup, vLst, vgSet, vgNil, vgCons, vgTup, vFor, vAsg, vCall, vCallO, vCallL, vHold, swapIn, putBack, vRaise, gII, gIC, vFn, vChain, gTru, vpNone, vpSome, vSl, gSlL, gSlS, vIs, vFld, vMet, vMetK, vITup, vILst, vMtL, gAppend, vLc, vYes, vIRng1, vIEnumT, vIStr, vNeg, vFz, vMove, vLend, O.root, O.fz, O.toD, gEq, gNe, gIn, gCatL, gLen, gInt, gList, gTuple, vFPut, oPut, isTD, known7, noTD, eqOk, flat4, sameK, wipeE,  List.map_cons, List.map_nil, List.cons_append, List.nil_append, List.length_cons, List.length_nil, List.replicate_succ, List.replicate_zero, List.append_nil, List.getElem?_cons_zero, List.getElem?_cons_succ, List.getElem?_nil, List.set_cons_zero, List.set_cons_succ, List.set_nil, List.getD_cons_zero, List.getD_cons_succ, List.getD_nil, List.drop_zero, List.drop_succ_cons, List.take_succ_cons, List.take_zero, List.take_nil, Bool.true_and, Bool.and_true, Bool.false_and, Bool.and_false, Bool.or_true, Bool.or_false, Bool.true_or, Bool.false_or, Bool.not_true, Bool.not_false, if_true, if_false, ite_true, ite_false, true_and, and_true, eq_self_iff_true, Bool.false_eq_true, reduceIte, Nat.reduceSub, Nat.reduceAdd, reduceCtorEq, String.reduceBEq, beq_self_eq_true, true_or, or_true, false_or, or_false, false_and, and_false, decide_true, decide_false, Bool.not_not]
  refine is_from_G g.g2 ?_
  cases e2 : frD 0 1440 d2 with
  | false =>
    simp only [mBody, vRet, vSet, vIfS, vNext, vDrop, vVar, vC, vOp, vBl, vNot, vAnd, vOr, vAndV, vOrV, vNotV, vIf, vANil, vACons, vONil, vOCons, vTup, vLst, vgSet, vgNil, vgCons, vgTup, vFor, vAsg, vCall, vCallO, vCallL, vHold, swapIn, putBack, vRaise, gII, gIC, vFn, vChain, gTru, vpNone, vpSome, vSl, gSlL, gSlS, vIs, vFld, vMet, vMetK, vITup, vILst, vMtL, gAppend, vLc, vYes, vIRng1, vIEnumT, vIStr, vNeg, vFz, vMove, vLend, O.root, O.fz, O.toD, gEq, gNe, gIn, gCatL, gLen, gInt, gList, gTuple, vFPut, oPut, isTD, known7, noTD, eqOk, flat4, sameK, wipeE,  List.map_cons, List.map_nil, List.cons_append, List.nil_append, List.length_cons, List.length_nil, List.replicate_succ, List.replicate_zero, List.append_nil, List.getElem?_cons_zero, List.getElem?_cons_succ, List.getElem?_nil, List.set_cons_zero, List.set_cons_succ, List.set_nil, List.getD_cons_zero, List.getD_cons_succ, List.getD_nil, List.drop_zero, List.drop_succ_cons, List.take_succ_cons, List.take_zero, List.take_nil, Bool.true_and, Bool.and_true, Bool.false_and, Bool.and_false, Bool.or_true, Bool.or_false, Bool.true_or, Bool.false_or, Bool.not_true, Bool.not_false, if_true, if_false, ite_true, ite_false, true_and, and_true, eq_self_iff_true, Bool.false_eq_true, reduceIte, Nat.reduceSub, Nat.reduceAdd, reduceCtorEq, String.reduceBEq, beq_self_eq_true, true_or, or_true, false_or, or_false, false_and, and_false, decide_true, decide_false, Bool.not_not]
    exact qx "window" (by unfold tkBad; rw [if_neg (by rw [e0]; simp), if_neg n1, if_pos (.inl e2)])
  | true =>
  obtain ⟨i2, rfl, h2a, h2b⟩ := fr_int e2
  simp only [mBody, vRet, vSet, vIfS, vNext, vDrop, vVar, vC, vOp, vBl, vNot, vAnd, vOr, vAndV, vOrV, vNotV, vIf, vANil, vACons, vONil, vOCons, vTup, vLst, vgSet, vgNil, vgCons, vgTup, vFor, vAsg, vCall, vCallO, vCallL, vHold, swapIn, putBack, vRaise, gII, gIC, vFn, vChain, gTru, vpNone, vpSome, vSl, gSlL, gSlS, vIs, vFld, vMet, vMetK, vITup, vILst, vMtL, gAppend, vLc, vYes, vIRng1, vIEnumT, vIStr, vNeg, vFz, vMove, vLend, O.root, O.fz, O.toD, gEq, gNe, gIn, gCatL, gLen, gInt, gList, gTuple, vFPut, oPut, isTD, known7, noTD, eqOk, flat4, sameK, wipeE,  List.map_cons, List.map_nil, List.cons_append, List.nil_append, List.length_cons, List.length_nil, List.replicate_succ, List.replicate_zero, List.append_nil, List.getElem?_cons_zero, List.getElem?_cons_succ, List.getElem?_nil, List.set_cons_zero, List.set_cons_succ, List.set_nil, List.getD_cons_zero, List.getD_cons_succ, List.getD_nil, List.drop_zero, List.drop_succ_cons, List.take_succ_cons, List.take_zero, List.take_nil, Bool.true_and, Bool.and_true, Bool.false_and, Bool.and_false, Bool.or_true, Bool.or_false, Bool.true_or, Bool.false_or, Bool.not_true, Bool.not_false, if_true, if_false, ite_true, ite_false, true_and, and_true, eq_self_iff_true, Bool.false_eq_true, reduceIte, Nat.reduceSub, Nat.reduceAdd, reduceCtorEq, String.reduceBEq, beq_self_eq_true, true_or, or_true, false_or, or_false, false_and, and_false, decide_true, decide_false, Bool.not_not]
  refine is_from_G g.g3 ?_
  cases e3 : frD i2 1440 d3 with
  | false =>
    simp only [mBody, vRet, vSet, vIfS, vNext, vDrop, vVar, vC, vOp, vBl, vNot, vAnd, vOr, vAndV, vOrV, vNotV, vIf, vANil, vACons, vONil, vOCons, vTup, vLst, vgSet, vgNil, vgCons, vgTup, vFor, vAsg, vCall, vCallO, vCallL, vHold, swapIn, putBack, vRaise, gII, gIC, vFn, vChain, gTru, vpNone, vpSome, vSl, gSlL, gSlS, vIs, vFld, vMet, vMetK, vITup, vILst, vMtL, gAppend, vLc, vYes, vIRng1, vIEnumT, vIStr, vNeg, vFz, vMove, vLend, O.root, O.fz, O.toD, gEq, gNe, gIn, gCatL, gLen, gInt, gList, gTuple, vFPut, oPut, isTD, known7, noTD, eqOk, flat4, sameK, wipeE,  List.map_cons, List.map_nil, List.cons_append, List.nil_append, List.length_cons, List.length_nil, List.replicate_succ, List.replicate_zero, List.append_nil, List.getElem?_cons_zero, List.getElem?_cons_succ, List.getElem?_nil, List.set_cons_zero, List.set_cons_succ, List.set_nil, List.getD_cons_zero, List.getD_cons_succ, List.getD_nil, List.drop_zero, List.drop_succ_cons, List.take_succ_cons, List.take_zero, List.take_nil, Bool.true_and, Bool.and_true, Bool.false_and, Bool.and_false, Bool.or_true, Bool.or_false, Bool.true_or, Bool.false_or, Bool.not_true, Bool.not_false, if_true, if_false, ite_true, ite_false, true_and, and_true, eq_self_iff_true, Bool.false_eq_true, reduceIte, Nat.reduceSub, Nat.reduceAdd, reduceCtorEq, String.reduceBEq, beq_self_eq_true, true_or, or_true, false_or, or_false, false_and, and_false, decide_true, decide_false, Bool.not_not]
    exact qx "window" (by unfold tkBad; rw [if_neg (by rw [e0]; simp), if_neg n1, if_pos (.inr fun i hi => by injection hi with hi; rw [← hi]; exact e3)])
  | true =>
  simp only [mBody, vRet, vSet, vIfS, vNext, vDrop, vVar, vC, vOp, vBl, vNot, vAnd, vOr, vAndV, vOrV, vNotV, vIf, vANil, vACons, vONil, vOCons, vTup, vLst, vgSet, vgNil, vgCons, vgTup, vFor, vAsg, vCall, vCallO, vCallL, vHold, swapIn, putBack, vRaise, gII, gIC, vFn, vChain, gTru, vpNone, vpSome, vSl, gSlL, gSlS, vIs, vFld, vMet, vMetK, vITup, vILst, vMtL, gAppend, vLc, vYes, vIRng1, vIEnumT, vIStr, vNeg, vFz, vMove, vLend, O.root, O.fz, O.toD, gEq, gNe, gIn, gCatL, gLen, gInt, gList, gTuple, vFPut, oPut, isTD, known7, noTD, eqOk, flat4, sameK, wipeE,  List.map_cons, List.map_nil, List.cons_append, List.nil_append, List.length_cons, List.length_nil, List.replicate_succ, List.replicate_zero, List.append_nil, List.getElem?_cons_zero, List.getElem?_cons_succ, List.getElem?_nil, List.set_cons_zero, List.set_cons_succ, List.set_nil, List.getD_cons_zero, List.getD_cons_succ, List.getD_nil, List.drop_zero, List.drop_succ_cons, List.take_succ_cons, List.take_zero, List.take_nil, Bool.true_and, Bool.and_true, Bool.false_and, Bool.and_false, Bool.or_true, Bool.or_false, Bool.true_or, Bool.false_or, Bool.not_true, Bool.not_false, if_true, if_false, ite_true, ite_false, true_and, and_true, eq_self_iff_true, Bool.false_eq_true, reduceIte, Nat.reduceSub, Nat.reduceAdd, reduceCtorEq, String.reduceBEq, beq_self_eq_true, true_or, or_true, false_or, or_false, false_and, and_false, decide_true, decide_false, Bool.not_not]
  have n2 : ¬ (frD 0 1440 (D.int i2) = false ∨ (∀ i, D.int i2 = .int i → frD i 1440 d3 = false)) := fun h => by
    rcases h with h | h
    · rw [e2] at h; cases h
    · have := h i2 rfl; rw [e3] at this; cases this
  refine hN _ (vSeq_i fun N hN => ?_)
  simp only [mBody, vRet, vSet, vIfS, vNext, vDrop, vVar, vC, vOp, vBl, vNot, vAnd, vOr, vAndV, vOrV, vNotV, vIf, vANil, vACons, vONil, vOCons, vTup, vLst, vgSet, vgNil, vgCons, vgTup, vFor, vAsg, vCall, vCallO, vCallL, vHold, swapIn, putBack, vRaise, gII, gIC, vFn, vChain, gTru, vpNone, vpSome, vSl, gSlL, gSlS, vIs, vFld, vMet, vMetK, vITup, vILst, vMtL, gAppend, vLc, vYes, vIRng1, vIEnumT, vIStr, vNeg, vFz, vMove, vLend, O.root, O.fz, O.toD, gEq, gNe, gIn, gCatL, gLen, gInt, gList, gTuple, vFPut, oPut, isTD, known7, noTD, eqOk, flat4, sameK, wipeE,  List.map_cons, List.map_nil, List.cons_append, List.nil_append, List.length_cons, List.length_nil, List.replicate_succ, List.replicate_zero, List.append_nil, List.getElem?_cons_zero, List.getElem?_cons_succ, List.getElem?_nil, List.set_cons_zero, List.set_cons_succ, List.set_nil, List.getD_cons_zero, List.getD_cons_succ, List.getD_nil, List.drop_zero, List.drop_succ_cons, List.take_succ_cons, List.take_zero, List.take_nil, Bool.true_and, Bool.and_true, Bool.false_and, Bool.and_false, Bool.or_true, Bool.or_false, Bool.true_or, Bool.false_or, Bool.not_true, Bool.not_false, if_true, if_false, ite_true, ite_false, true_and, and_true, eq_self_iff_true, Bool.false_eq_true, reduceIte, Nat.reduceSub, Nat.reduceAdd, reduceCtorEq, String.reduceBEq, beq_self_eq_true, true_or, or_true, false_or, or_false, false_and, and_false, decide_true, decide_false, Bool.not_not]
  refine are_places_G g.g4 ?_
  cases e4 : viaD d4 with
  | false =>
    simp only [mBody, vRet, vSet, vIfS, vNext, vDrop, vVar, vC, vOp, vBl, vNot, vAnd, vOr, vAndV, vOrV, vNotV, vIf, vANil, vACons, vONil, vOCons, vTup, vLst, vgSet, vgNil, vgCons, vgTup, vFor, vAsg, vCall, vCallO, vCallL, vHold, swapIn, putBack, vRaise, gII, gIC, vFn, vChain, gTru, vpNone, vpSome, vSl, gSlL, gSlS, vIs, vFld, vMet, vMetK, vITup, vILst, vMtL, gAppend, vLc, vYes, vIRng1, vIEnumT, vIStr, vNeg, vFz, vMove, vLend, O.root, O.fz, O.toD, gEq, gNe, gIn, gCatL, gLen, gInt, gList, gTuple, vFPut, oPut, isTD, known7, noTD, eqOk, flat4, sameK, wipeE,  List.map_cons, List.map_nil, List.cons_append, List.nil_append, List.length_cons, List.length_nil, List.replicate_succ, List.replicate_zero, List.append_nil, List.getElem?_cons_zero, List.getElem?_cons_succ, List.getElem?_nil, List.set_cons_zero, List.set_cons_succ, List.set_nil, List.getD_cons_zero, List.getD_cons_succ, List.getD_nil, List.drop_zero, List.drop_succ_cons, List.take_succ_cons, List.take_zero, List.take_nil, Bool.true_and, Bool.and_true, Bool.false_and, Bool.and_false, Bool.or_true, Bool.or_false, Bool.true_or, Bool.false_or, Bool.not_true, Bool.not_false, if_true, if_false, ite_true, ite_false, true_and, and_true, eq_self_iff_true, Bool.false_eq_true, reduceIte, Nat.reduceSub, Nat.reduceAdd, reduceCtorEq, String.reduceBEq, beq_self_eq_true, true_or, or_true, false_or, or_false, false_and, and_false, decide_true, decide_false, Bool.not_not]
    exact qx "via" (by unfold tkBad; rw [if_neg (by rw [e0]; simp), if_neg n1, if_neg n2, if_pos e4])
  | true =>
  simp only [mBody, vRet, vSet, vIfS, vNext, vDrop, vVar, vC, vOp, vBl, vNot, vAnd, vOr, vAndV, vOrV, vNotV, vIf, vANil, vACons, vONil, vOCons, vTup, vLst, vgSet, vgNil, vgCons, vgTup, vFor, vAsg, vCall, vCallO, vCallL, vHold, swapIn, putBack, vRaise, gII, gIC, vFn, vChain, gTru, vpNone, vpSome, vSl, gSlL, gSlS, vIs, vFld, vMet, vMetK, vITup, vILst, vMtL, gAppend, vLc, vYes, vIRng1, vIEnumT, vIStr, vNeg, vFz, vMove, vLend, O.root, O.fz, O.toD, gEq, gNe, gIn, gCatL, gLen, gInt, gList, gTuple, vFPut, oPut, isTD, known7, noTD, eqOk, flat4, sameK, wipeE,  List.map_cons, List.map_nil, List.cons_append, List.nil_append, List.length_cons, List.length_nil, List.replicate_succ, List.replicate_zero, List.append_nil, List.getElem?_cons_zero, List.getElem?_cons_succ, List.getElem?_nil, List.set_cons_zero, List.set_cons_succ, List.set_nil, List.getD_cons_zero, List.getD_cons_succ, List.getD_nil, List.drop_zero, List.drop_succ_cons, List.take_succ_cons, List.take_zero, List.take_nil, Bool.true_and, Bool.and_true, Bool.false_and, Bool.and_false, Bool.or_true, Bool.or_false, Bool.true_or, Bool.false_or, Bool.not_true, Bool.not_false, if_true, if_false, ite_true, ite_false, true_and, and_true, eq_self_iff_true, Bool.false_eq_true, reduceIte, Nat.reduceSub, Nat.reduceAdd, reduceCtorEq, String.reduceBEq, beq_self_eq_true, true_or, or_true, false_or, or_false, false_and, and_false, decide_true, decide_false, Bool.not_not]
  refine hN _ (vSeq_i fun N hN => ?_)
  simp only [mBody, vRet, vSet, vIfS, vNext, vDrop, vVar, vC, vOp, vBl, vNot, vAnd, vOr, vAndV, vOrV, vNotV, vIf, vANil, vACons, vONil, vOCons, vTup, vLst, vgSet, vgNil, vgCons, vgTup, vFor, vAsg, vCall, vCallO, vCallL, vHold, swapIn, putBack, vRaise, gII, gIC, vFn, vChain, gTru, vpNone, vpSome, vSl, gSlL, gSlS, vIs, vFld, vMet, vMetK, vITup, vILst, vMtL, gAppend, vLc, vYes, vIRng1, vIEnumT, vIStr, vNeg, vFz, vMove, vLend, O.root, O.fz, O.toD, gEq, gNe, gIn, gCatL, gLen, gInt, gList, gTuple, vFPut, oPut, isTD, known7, noTD, eqOk, flat4, sameK, wipeE,  List.map_cons, List.map_nil, List.cons_append, List.nil_append, List.length_cons, List.length_nil, List.replicate_succ, List.replicate_zero, List.append_nil, List.getElem?_cons_zero, List.getElem?_cons_succ, List.getElem?_nil, List.set_cons_zero, List.set_cons_succ, List.set_nil, List.getD_cons_zero, List.getD_cons_succ, List.getD_nil, List.drop_zero, List.drop_succ_cons, List.take_succ_cons, List.take_zero, List.take_nil, Bool.true_and, Bool.and_true, Bool.false_and, Bool.and_false, Bool.or_true, Bool.or_false, Bool.true_or, Bool.false_or, Bool.not_true, Bool.not_false, if_true, if_false, ite_true, ite_false, true_and, and_true, eq_self_iff_true, Bool.false_eq_true, reduceIte, Nat.reduceSub, Nat.reduceAdd, reduceCtorEq, String.reduceBEq, beq_self_eq_true, true_or, or_true, false_or, or_false, false_and, and_false, decide_true, decide_false, Bool.not_not, gNotN]
  suffices H : ¬ (d5 ≠ .non ∧ nmD d5 = false) → N [.oo p "Ticket" [], .sh (.str z0), .sh (.str z1), .sh (.int i2), .sh d3, .sh d4, .sh d5, .sh d6] by
    cases e5 : isNonD d5 with
    | true =>
      have : d5 = .non := by
        cases d5 with
        | non => rfl
        | _ => cases e5
      subst this
      simp only [Bool.not_true, Bool.false_eq_true, if_false]
      exact H fun z => z.1 rfl
    | false =>
      have n5 : d5 ≠ .non := fun z => by rw [z] at e5; cases e5
      simp only [Bool.not_false, if_true]
      refine is_name_G g.g5 ?_
      cases e6 : nmD d5 with
      | false =>
        simp only [Bool.not_false, if_true]
        exact qx "train" (by unfold tkBad; rw [if_neg (by rw [e0]; simp), if_neg n1, if_neg n2, if_neg (by rw [e4]; simp), if_pos ⟨n5, e6⟩])
      | true =>
        simp only [Bool.not_true, Bool.false_eq_true, if_false]
        exact H fun z => by rw [e6] at z; cases z.2
  intro n5
  refine hN _ (vSeq_i fun N hN => ?_)
  have hk6 := g.g6.k
  have ht6 := g.g6.t
  suffices H : isBD d6 = true → N [.oo p "Ticket" [], .sh (.str z0), .sh (.str z1), .sh (.int i2), .sh d3, .sh d4, .sh d5, .sh d6] by
    have bad : isBD d6 = false → tkBad (.str z0) (.str z1) (.int i2) d3 d4 d5 d6 = some ("breaks" : Str) := fun e => by
      unfold tkBad; rw [if_neg (by rw [e0]; simp), if_neg n1, if_neg n2, if_neg (by rw [e4]; simp), if_neg n5, if_pos e]
    cases d6 with
    | bl b =>
      simp only [mBody, vRet, vSet, vIfS, vNext, vDrop, vVar, vC, vOp, vBl, vNot, vAnd, vOr, vAndV, vOrV, vNotV, vIf, vANil, vACons, vONil, vOCons, vTup, vLst, vgSet, vgNil, vgCons, vgTup, vFor, vAsg, vCall, vCallO, vCallL, vHold, swapIn, putBack, vRaise, gII, gIC, vFn, vChain, gTru, vpNone, vpSome, vSl, gSlL, gSlS, vIs, vFld, vMet, vMetK, vITup, vILst, vMtL, gAppend, vLc, vYes, vIRng1, vIEnumT, vIStr, vNeg, vFz, vMove, vLend, O.root, O.fz, O.toD, gEq, gNe, gIn, gCatL, gLen, gInt, gList, gTuple, vFPut, oPut, isTD, known7, noTD, eqOk, flat4, sameK, wipeE,  List.map_cons, List.map_nil, List.cons_append, List.nil_append, List.length_cons, List.length_nil, List.replicate_succ, List.replicate_zero, List.append_nil, List.getElem?_cons_zero, List.getElem?_cons_succ, List.getElem?_nil, List.set_cons_zero, List.set_cons_succ, List.set_nil, List.getD_cons_zero, List.getD_cons_succ, List.getD_nil, List.drop_zero, List.drop_succ_cons, List.take_succ_cons, List.take_zero, List.take_nil, Bool.true_and, Bool.and_true, Bool.false_and, Bool.and_false, Bool.or_true, Bool.or_false, Bool.true_or, Bool.false_or, Bool.not_true, Bool.not_false, if_true, if_false, ite_true, ite_false, true_and, and_true, eq_self_iff_true, Bool.false_eq_true, reduceIte, Nat.reduceSub, Nat.reduceAdd, reduceCtorEq, String.reduceBEq, beq_self_eq_true, true_or, or_true, false_or, or_false, false_and, and_false, decide_true, decide_false, Bool.not_not]
      exact H rfl
    | dic t kvs =>
      simp [noTD] at ht6
      subst ht6
      simp only [mBody, vRet, vSet, vIfS, vNext, vDrop, vVar, vC, vOp, vBl, vNot, vAnd, vOr, vAndV, vOrV, vNotV, vIf, vANil, vACons, vONil, vOCons, vTup, vLst, vgSet, vgNil, vgCons, vgTup, vFor, vAsg, vCall, vCallO, vCallL, vHold, swapIn, putBack, vRaise, gII, gIC, vFn, vChain, gTru, vpNone, vpSome, vSl, gSlL, gSlS, vIs, vFld, vMet, vMetK, vITup, vILst, vMtL, gAppend, vLc, vYes, vIRng1, vIEnumT, vIStr, vNeg, vFz, vMove, vLend, O.root, O.fz, O.toD, gEq, gNe, gIn, gCatL, gLen, gInt, gList, gTuple, vFPut, oPut, isTD, known7, noTD, eqOk, flat4, sameK, wipeE,  List.map_cons, List.map_nil, List.cons_append, List.nil_append, List.length_cons, List.length_nil, List.replicate_succ, List.replicate_zero, List.append_nil, List.getElem?_cons_zero, List.getElem?_cons_succ, List.getElem?_nil, List.set_cons_zero, List.set_cons_succ, List.set_nil, List.getD_cons_zero, List.getD_cons_succ, List.getD_nil, List.drop_zero, List.drop_succ_cons, List.take_succ_cons, List.take_zero, List.take_nil, Bool.true_and, Bool.and_true, Bool.false_and, Bool.and_false, Bool.or_true, Bool.or_false, Bool.true_or, Bool.false_or, Bool.not_true, Bool.not_false, if_true, if_false, ite_true, ite_false, true_and, and_true, eq_self_iff_true, Bool.false_eq_true, reduceIte, Nat.reduceSub, Nat.reduceAdd, reduceCtorEq, String.reduceBEq, beq_self_eq_true, true_or, or_true, false_or, or_false, false_and, and_false, decide_true, decide_false, Bool.not_not]
      exact qx "breaks" (bad rfl)
    | set _ => cases hk6
    | obj _ _ _ => cases hk6
    | ref _ => cases hk6
    | exc _ _ _ _ => cases hk6
    | _ =>
      simp only [mBody, vRet, vSet, vIfS, vNext, vDrop, vVar, vC, vOp, vBl, vNot, vAnd, vOr, vAndV, vOrV, vNotV, vIf, vANil, vACons, vONil, vOCons, vTup, vLst, vgSet, vgNil, vgCons, vgTup, vFor, vAsg, vCall, vCallO, vCallL, vHold, swapIn, putBack, vRaise, gII, gIC, vFn, vChain, gTru, vpNone, vpSome, vSl, gSlL, gSlS, vIs, vFld, vMet, vMetK, vITup, vILst, vMtL, gAppend, vLc, vYes, vIRng1, vIEnumT, vIStr, vNeg, vFz, vMove, vLend, O.root, O.fz, O.toD, gEq, gNe, gIn, gCatL, gLen, gInt, gList, gTuple, vFPut, oPut, isTD, known7, noTD, eqOk, flat4, sameK, wipeE,  List.map_cons, List.map_nil, List.cons_append, List.nil_append, List.length_cons, List.length_nil, List.replicate_succ, List.replicate_zero, List.append_nil, List.getElem?_cons_zero, List.getElem?_cons_succ, List.getElem?_nil, List.set_cons_zero, List.set_cons_succ, List.set_nil, List.getD_cons_zero, List.getD_cons_succ, List.getD_nil, List.drop_zero, List.drop_succ_cons, List.take_succ_cons, List.take_zero, List.take_nil, Bool.true_and, Bool.and_true, Bool.false_and, Bool.and_false, Bool.or_true, Bool.or_false, Bool.true_or, Bool.false_or, Bool.not_true, Bool.not_false, if_true, if_false, ite_true, ite_false, true_and, and_true, eq_self_iff_true, Bool.false_eq_true, reduceIte, Nat.reduceSub, Nat.reduceAdd, reduceCtorEq, String.reduceBEq, beq_self_eq_true, true_or, or_true, false_or, or_false, false_and, and_false, decide_true, decide_false, Bool.not_not]
      exact qx "breaks" (bad rfl)
  intro e6
  have hq := q (by unfold tkBad; rw [if_neg (by rw [e0]; simp), if_neg n1, if_neg n2, if_neg (by rw [e4]; simp), if_neg n5, if_neg (by rw [e6]; simp)])
  refine hN _ (vSeq_i fun N hN => ?_)
  simp only [mBody, vRet, vSet, vIfS, vNext, vDrop, vVar, vC, vOp, vBl, vNot, vAnd, vOr, vAndV, vOrV, vNotV, vIf, vANil, vACons, vONil, vOCons, vTup, vLst, vgSet, vgNil, vgCons, vgTup, vFor, vAsg, vCall, vCallO, vCallL, vHold, swapIn, putBack, vRaise, gII, gIC, vFn, vChain, gTru, vpNone, vpSome, vSl, gSlL, gSlS, vIs, vFld, vMet, vMetK, vITup, vILst, vMtL, gAppend, vLc, vYes, vIRng1, vIEnumT, vIStr, vNeg, vFz, vMove, vLend, O.root, O.fz, O.toD, gEq, gNe, gIn, gCatL, gLen, gInt, gList, gTuple, vFPut, oPut, isTD, known7, noTD, eqOk, flat4, sameK, wipeE,  List.map_cons, List.map_nil, List.cons_append, List.nil_append, List.length_cons, List.length_nil, List.replicate_succ, List.replicate_zero, List.append_nil, List.getElem?_cons_zero, List.getElem?_cons_succ, List.getElem?_nil, List.set_cons_zero, List.set_cons_succ, List.set_nil, List.getD_cons_zero, List.getD_cons_succ, List.getD_nil, List.drop_zero, List.drop_succ_cons, List.take_succ_cons, List.take_zero, List.take_nil, Bool.true_and, Bool.and_true, Bool.false_and, Bool.and_false, Bool.or_true, Bool.or_false, Bool.true_or, Bool.false_or, Bool.not_true, Bool.not_false, if_true, if_false, ite_true, ite_false, true_and, and_true, eq_self_iff_true, Bool.false_eq_true, reduceIte, Nat.reduceSub, Nat.reduceAdd, reduceCtorEq, String.reduceBEq, beq_self_eq_true, true_or, or_true, false_or, or_false, false_and, and_false, decide_true, decide_false, Bool.not_not, vgFPut]
  refine ⟨by decide, Nat.le_of_ble_eq_true rfl, hN _ (vSeq_i fun N hN => ?_)⟩
  simp only [mBody, vRet, vSet, vIfS, vNext, vDrop, vVar, vC, vOp, vBl, vNot, vAnd, vOr, vAndV, vOrV, vNotV, vIf, vANil, vACons, vONil, vOCons, vTup, vLst, vgSet, vgNil, vgCons, vgTup, vFor, vAsg, vCall, vCallO, vCallL, vHold, swapIn, putBack, vRaise, gII, gIC, vFn, vChain, gTru, vpNone, vpSome, vSl, gSlL, gSlS, vIs, vFld, vMet, vMetK, vITup, vILst, vMtL, gAppend, vLc, vYes, vIRng1, vIEnumT, vIStr, vNeg, vFz, vMove, vLend, O.root, O.fz, O.toD, gEq, gNe, gIn, gCatL, gLen, gInt, gList, gTuple, vFPut, oPut, isTD, known7, noTD, eqOk, flat4, sameK, wipeE,  List.map_cons, List.map_nil, List.cons_append, List.nil_append, List.length_cons, List.length_nil, List.replicate_succ, List.replicate_zero, List.append_nil, List.getElem?_cons_zero, List.getElem?_cons_succ, List.getElem?_nil, List.set_cons_zero, List.set_cons_succ, List.set_nil, List.getD_cons_zero, List.getD_cons_succ, List.getD_nil, List.drop_zero, List.drop_succ_cons, List.take_succ_cons, List.take_zero, List.take_nil, Bool.true_and, Bool.and_true, Bool.false_and, Bool.and_false, Bool.or_true, Bool.or_false, Bool.true_or, Bool.false_or, Bool.not_true, Bool.not_false, if_true, if_false, ite_true, ite_false, true_and, and_true, eq_self_iff_true, Bool.false_eq_true, reduceIte, Nat.reduceSub, Nat.reduceAdd, reduceCtorEq, String.reduceBEq, beq_self_eq_true, true_or, or_true, false_or, or_false, false_and, and_false, decide_true, decide_false, Bool.not_not, vgFPut]
  refine ⟨Nat.le_of_ble_eq_true rfl, Nat.le_of_ble_eq_true rfl, hN _ (vSeq_i fun N hN => ?_)⟩
  suffices H : ∀ qa, N [.oo p "Ticket" [("here", .sh (.str z0)), ("there", .sh (.str z1)), ("since", .sh (.int i2)), ("till", .sh d3), ("via", viaO qa d4)], .sh (.str z0), .sh (.str z1), .sh (.int i2), .sh d3, .sh d4, .sh d5, .sh d6] by
    cases d4 with
    | non =>
      simp only [mBody, vRet, vSet, vIfS, vNext, vDrop, vVar, vC, vOp, vBl, vNot, vAnd, vOr, vAndV, vOrV, vNotV, vIf, vANil, vACons, vONil, vOCons, vTup, vLst, vgSet, vgNil, vgCons, vgTup, vFor, vAsg, vCall, vCallO, vCallL, vHold, swapIn, putBack, vRaise, gII, gIC, vFn, vChain, gTru, vpNone, vpSome, vSl, gSlL, gSlS, vIs, vFld, vMet, vMetK, vITup, vILst, vMtL, gAppend, vLc, vYes, vIRng1, vIEnumT, vIStr, vNeg, vFz, vMove, vLend, O.root, O.fz, O.toD, gEq, gNe, gIn, gCatL, gLen, gInt, gList, gTuple, vFPut, oPut, isTD, known7, noTD, eqOk, flat4, sameK, wipeE,  List.map_cons, List.map_nil, List.cons_append, List.nil_append, List.length_cons, List.length_nil, List.replicate_succ, List.replicate_zero, List.append_nil, List.getElem?_cons_zero, List.getElem?_cons_succ, List.getElem?_nil, List.set_cons_zero, List.set_cons_succ, List.set_nil, List.getD_cons_zero, List.getD_cons_succ, List.getD_nil, List.drop_zero, List.drop_succ_cons, List.take_succ_cons, List.take_zero, List.take_nil, Bool.true_and, Bool.and_true, Bool.false_and, Bool.and_false, Bool.or_true, Bool.or_false, Bool.true_or, Bool.false_or, Bool.not_true, Bool.not_false, if_true, if_false, ite_true, ite_false, true_and, and_true, eq_self_iff_true, Bool.false_eq_true, reduceIte, Nat.reduceSub, Nat.reduceAdd, reduceCtorEq, String.reduceBEq, beq_self_eq_true, true_or, or_true, false_or, or_false, false_and, and_false, decide_true, decide_false, Bool.not_not, gIsN, isNonD]
      exact ⟨Nat.le_of_ble_eq_true rfl, H 0⟩
    | lst ds =>
      simp only [mBody, vRet, vSet, vIfS, vNext, vDrop, vVar, vC, vOp, vBl, vNot, vAnd, vOr, vAndV, vOrV, vNotV, vIf, vANil, vACons, vONil, vOCons, vTup, vLst, vgSet, vgNil, vgCons, vgTup, vFor, vAsg, vCall, vCallO, vCallL, vHold, swapIn, putBack, vRaise, gII, gIC, vFn, vChain, gTru, vpNone, vpSome, vSl, gSlL, gSlS, vIs, vFld, vMet, vMetK, vITup, vILst, vMtL, gAppend, vLc, vYes, vIRng1, vIEnumT, vIStr, vNeg, vFz, vMove, vLend, O.root, O.fz, O.toD, gEq, gNe, gIn, gCatL, gLen, gInt, gList, gTuple, vFPut, oPut, isTD, known7, noTD, eqOk, flat4, sameK, wipeE,  List.map_cons, List.map_nil, List.cons_append, List.nil_append, List.length_cons, List.length_nil, List.replicate_succ, List.replicate_zero, List.append_nil, List.getElem?_cons_zero, List.getElem?_cons_succ, List.getElem?_nil, List.set_cons_zero, List.set_cons_succ, List.set_nil, List.getD_cons_zero, List.getD_cons_succ, List.getD_nil, List.drop_zero, List.drop_succ_cons, List.take_succ_cons, List.take_zero, List.take_nil, Bool.true_and, Bool.and_true, Bool.false_and, Bool.and_false, Bool.or_true, Bool.or_false, Bool.true_or, Bool.false_or, Bool.not_true, Bool.not_false, if_true, if_false, ite_true, ite_false, true_and, and_true, eq_self_iff_true, Bool.false_eq_true, reduceIte, Nat.reduceSub, Nat.reduceAdd, reduceCtorEq, String.reduceBEq, beq_self_eq_true, true_or, or_true, false_or, or_false, false_and, and_false, decide_true, decide_false, Bool.not_not, gIsN, isNonD]
      exact fun qa => ⟨Nat.le_of_ble_eq_true rfl, H qa⟩
    | _ => cases e4
  intro qa
  refine hN _ (vSeq_i fun N hN => ?_)
  simp only [mBody, vRet, vSet, vIfS, vNext, vDrop, vVar, vC, vOp, vBl, vNot, vAnd, vOr, vAndV, vOrV, vNotV, vIf, vANil, vACons, vONil, vOCons, vTup, vLst, vgSet, vgNil, vgCons, vgTup, vFor, vAsg, vCall, vCallO, vCallL, vHold, swapIn, putBack, vRaise, gII, gIC, vFn, vChain, gTru, vpNone, vpSome, vSl, gSlL, gSlS, vIs, vFld, vMet, vMetK, vITup, vILst, vMtL, gAppend, vLc, vYes, vIRng1, vIEnumT, vIStr, vNeg, vFz, vMove, vLend, O.root, O.fz, O.toD, gEq, gNe, gIn, gCatL, gLen, gInt, gList, gTuple, vFPut, oPut, isTD, known7, noTD, eqOk, flat4, sameK, wipeE,  List.map_cons, List.map_nil, List.cons_append, List.nil_append, List.length_cons, List.length_nil, List.replicate_succ, List.replicate_zero, List.append_nil, List.getElem?_cons_zero, List.getElem?_cons_succ, List.getElem?_nil, List.set_cons_zero, List.set_cons_succ, List.set_nil, List.getD_cons_zero, List.getD_cons_succ, List.getD_nil, List.drop_zero, List.drop_succ_cons, List.take_succ_cons, List.take_zero, List.take_nil, Bool.true_and, Bool.and_true, Bool.false_and, Bool.and_false, Bool.or_true, Bool.or_false, Bool.true_or, Bool.false_or, Bool.not_true, Bool.not_false, if_true, if_false, ite_true, ite_false, true_and, and_true, eq_self_iff_true, Bool.false_eq_true, reduceIte, Nat.reduceSub, Nat.reduceAdd, reduceCtorEq, String.reduceBEq, beq_self_eq_true, true_or, or_true, false_or, or_false, false_and, and_false, decide_true, decide_false, Bool.not_not]
  refine ⟨Nat.le_of_ble_eq_true rfl, hN _ ?_⟩
  simp only [mBody, vRet, vSet, vIfS, vNext, vDrop, vVar, vC, vOp, vBl, vNot, vAnd, vOr, vAndV, vOrV, vNotV, vIf, vANil, vACons, vONil, vOCons, vTup, vLst, vgSet, vgNil, vgCons, vgTup, vFor, vAsg, vCall, vCallO, vCallL, vHold, swapIn, putBack, vRaise, gII, gIC, vFn, vChain, gTru, vpNone, vpSome, vSl, gSlL, gSlS, vIs, vFld, vMet, vMetK, vITup, vILst, vMtL, gAppend, vLc, vYes, vIRng1, vIEnumT, vIStr, vNeg, vFz, vMove, vLend, O.root, O.fz, O.toD, gEq, gNe, gIn, gCatL, gLen, gInt, gList, gTuple, vFPut, oPut, isTD, known7, noTD, eqOk, flat4, sameK, wipeE,  List.map_cons, List.map_nil, List.cons_append, List.nil_append, List.length_cons, List.length_nil, List.replicate_succ, List.replicate_zero, List.append_nil, List.getElem?_cons_zero, List.getElem?_cons_succ, List.getElem?_nil, List.set_cons_zero, List.set_cons_succ, List.set_nil, List.getD_cons_zero, List.getD_cons_succ, List.getD_nil, List.drop_zero, List.drop_succ_cons, List.take_succ_cons, List.take_zero, List.take_nil, Bool.true_and, Bool.and_true, Bool.false_and, Bool.and_false, Bool.or_true, Bool.or_false, Bool.true_or, Bool.false_or, Bool.not_true, Bool.not_false, if_true, if_false, ite_true, ite_false, true_and, and_true, eq_self_iff_true, Bool.false_eq_true, reduceIte, Nat.reduceSub, Nat.reduceAdd, reduceCtorEq, String.reduceBEq, beq_self_eq_true, true_or, or_true, false_or, or_false, false_and, and_false, decide_true, decide_false, Bool.not_not]
  exact ⟨Nat.le_of_ble_eq_true rfl, hq qa⟩
end
section
variable {d0 d1 d2 d3 d4 d5 d6 : D} {Q : O → List O → Prop} {x : XD}
theorem law_ticket_V (g : Gp d0 d1 d2 d3 d4 d5 d6) (q : tkBad d0 d1 d2 d3 d4 d5 d6 = none → ∀ p q, Q (tkO p q d0 d1 d2 d3 d4 d5 d6) []) (qx : ∀ wd, tkBad d0 d1 d2 d3 d4 d5 d6 = some wd → x "NoTicket" "what" (.str wd) []) :
    m__law_ticket [.sh (.lst [d0, d1, d2, d3, d4, d5, d6])] Q x := by
  unfold m__law_ticket mBody
  refine vSeq_i fun N hN => ?_
  simp only [mBody, vRet, vSet, vIfS, vNext, vDrop, vVar, vC, vOp, vBl, vNot, vAnd, vOr, vAndV, vOrV, vNotV, vIf, vANil, vACons, vONil, vOCons, vTup, vLst, vgSet, vgNil, vgCons, vgTup, vFor, vAsg, vCall, vCallO, vCallL, vHold, swapIn, putBack, vRaise, gII, gIC, vFn, vChain, gTru, vpNone, vpSome, vSl, gSlL, gSlS, vIs, vFld, vMet, vMetK, vITup, vILst, vMtL, gAppend, vLc, vYes, vIRng1, vIEnumT, vIStr, vNeg, vFz, vMove, vLend, O.root, O.fz, O.toD, gEq, gNe, gIn, gCatL, gLen, gInt, gList, gTuple, vFPut, oPut, isTD, known7, noTD, eqOk, flat4, sameK, wipeE,  List.map_cons, List.map_nil, List.cons_append, List.nil_append, List.length_cons, List.length_nil, List.replicate_succ, List.replicate_zero, List.append_nil, List.getElem?_cons_zero, List.getElem?_cons_succ, List.getElem?_nil, List.set_cons_zero, List.set_cons_succ, List.set_nil, List.getD_cons_zero, List.getD_cons_succ, List.getD_nil, List.drop_zero, List.drop_succ_cons, List.take_succ_cons, List.take_zero, List.take_nil, Bool.true_and, Bool.and_true, Bool.false_and, Bool.and_false, Bool.or_true, Bool.or_false, Bool.true_or, Bool.false_or, Bool.not_true, Bool.not_false, if_true, if_false, ite_true, ite_false, true_and, and_true, eq_self_iff_true, Bool.false_eq_true, reduceIte, Nat.reduceSub, Nat.reduceAdd, reduceCtorEq, String.reduceBEq, beq_self_eq_true, true_or, or_true, false_or, or_false, false_and, and_false, decide_true, decide_false, Bool.not_not, vgLst]
  refine hN _ ?_
  simp only [mBody, vRet, vSet, vIfS, vNext, vDrop, vVar, vC, vOp, vBl, vNot, vAnd, vOr, vAndV, vOrV, vNotV, vIf, vANil, vACons, vONil, vOCons, vTup, vLst, vgSet, vgNil, vgCons, vgTup, vFor, vAsg, vCall, vCallO, vCallL, vHold, swapIn, putBack, vRaise, gII, gIC, vFn, vChain, gTru, vpNone, vpSome, vSl, gSlL, gSlS, vIs, vFld, vMet, vMetK, vITup, vILst, vMtL, gAppend, vLc, vYes, vIRng1, vIEnumT, vIStr, vNeg, vFz, vMove, vLend, O.root, O.fz, O.toD, gEq, gNe, gIn, gCatL, gLen, gInt, gList, gTuple, vFPut, oPut, isTD, known7, noTD, eqOk, flat4, sameK, wipeE,  List.map_cons, List.map_nil, List.cons_append, List.nil_append, List.length_cons, List.length_nil, List.replicate_succ, List.replicate_zero, List.append_nil, List.getElem?_cons_zero, List.getElem?_cons_succ, List.getElem?_nil, List.set_cons_zero, List.set_cons_succ, List.set_nil, List.getD_cons_zero, List.getD_cons_succ, List.getD_nil, List.drop_zero, List.drop_succ_cons, List.take_succ_cons, List.take_zero, List.take_nil, Bool.true_and, Bool.and_true, Bool.false_and, Bool.and_false, Bool.or_true, Bool.or_false, Bool.true_or, Bool.false_or, Bool.not_true, Bool.not_false, if_true, if_false, ite_true, ite_false, true_and, and_true, eq_self_iff_true, Bool.false_eq_true, reduceIte, Nat.reduceSub, Nat.reduceAdd, reduceCtorEq, String.reduceBEq, beq_self_eq_true, true_or, or_true, false_or, or_false, false_and, and_false, decide_true, decide_false, Bool.not_not, vMk]
  intro p
  refine Ticket_init_V g (fun h qa => ?_) fun wd h => ?_
  · try simp only [mBody, vRet, vSet, vIfS, vNext, vDrop, vVar, vC, vOp, vBl, vNot, vAnd, vOr, vAndV, vOrV, vNotV, vIf, vANil, vACons, vONil, vOCons, vTup, vLst, vgSet, vgNil, vgCons, vgTup, vFor, vAsg, vCall, vCallO, vCallL, vHold, swapIn, putBack, vRaise, gII, gIC, vFn, vChain, gTru, vpNone, vpSome, vSl, gSlL, gSlS, vIs, vFld, vMet, vMetK, vITup, vILst, vMtL, gAppend, vLc, vYes, vIRng1, vIEnumT, vIStr, vNeg, vFz, vMove, vLend, O.root, O.fz, O.toD, gEq, gNe, gIn, gCatL, gLen, gInt, gList, gTuple, vFPut, oPut, isTD, known7, noTD, eqOk, flat4, sameK, wipeE,  List.map_cons, List.map_nil, List.cons_append, List.nil_append, List.length_cons, List.length_nil, List.replicate_succ, List.replicate_zero, List.append_nil, List.getElem?_cons_zero, List.getElem?_cons_succ, List.getElem?_nil, List.set_cons_zero, List.set_cons_succ, List.set_nil, List.getD_cons_zero, List.getD_cons_succ, List.getD_nil, List.drop_zero, List.drop_succ_cons, List.take_succ_cons, List.take_zero, List.take_nil, Bool.true_and, Bool.and_true, Bool.false_and, Bool.and_false, Bool.or_true, Bool.or_false, Bool.true_or, Bool.false_or, Bool.not_true, Bool.not_false, if_true, if_false, ite_true, ite_false, true_and, and_true, eq_self_iff_true, Bool.false_eq_true, reduceIte, Nat.reduceSub, Nat.reduceAdd, reduceCtorEq, String.reduceBEq, beq_self_eq_true, true_or, or_true, false_or, or_false, false_and, and_false, decide_true, decide_false, Bool.not_not]
    exact q h p qa
  · try simp only [mBody, vRet, vSet, vIfS, vNext, vDrop, vVar, vC, vOp, vBl, vNot, vAnd, vOr, vAndV, vOrV, vNotV, vIf, vANil, vACons, vONil, vOCons, vTup, vLst, vgSet, vgNil, vgCons, vgTup, vFor, vAsg, vCall, vCallO, vCallL, vHold, swapIn, putBack, vRaise, gII, gIC, vFn, vChain, gTru, vpNone, vpSome, vSl, gSlL, gSlS, vIs, vFld, vMet, vMetK, vITup, vILst, vMtL, gAppend, vLc, vYes, vIRng1, vIEnumT, vIStr, vNeg, vFz, vMove, vLend, O.root, O.fz, O.toD, gEq, gNe, gIn, gCatL, gLen, gInt, gList, gTuple, vFPut, oPut, isTD, known7, noTD, eqOk, flat4, sameK, wipeE,  List.map_cons, List.map_nil, List.cons_append, List.nil_append, List.length_cons, List.length_nil, List.replicate_succ, List.replicate_zero, List.append_nil, List.getElem?_cons_zero, List.getElem?_cons_succ, List.getElem?_nil, List.set_cons_zero, List.set_cons_succ, List.set_nil, List.getD_cons_zero, List.getD_cons_succ, List.getD_nil, List.drop_zero, List.drop_succ_cons, List.take_succ_cons, List.take_zero, List.take_nil, Bool.true_and, Bool.and_true, Bool.false_and, Bool.and_false, Bool.or_true, Bool.or_false, Bool.true_or, Bool.false_or, Bool.not_true, Bool.not_false, if_true, if_false, ite_true, ite_false, true_and, and_true, eq_self_iff_true, Bool.false_eq_true, reduceIte, Nat.reduceSub, Nat.reduceAdd, reduceCtorEq, String.reduceBEq, beq_self_eq_true, true_or, or_true, false_or, or_false, false_and, and_false, decide_true, decide_false, Bool.not_not]
    exact qx wd h
theorem law_refused_V (g : Gp d0 d1 d2 d3 d4 d5 d6) {wd : Str} (h : tkBad d0 d1 d2 d3 d4 d5 d6 = some wd) (q : Q (.sh (.str wd)) []) : m__law_refused [.sh (.lst [d0, d1, d2, d3, d4, d5, d6])] Q x := by
  unfold m__law_refused mBody
  refine vSeq_i fun N hN => ?_
  simp only [mBody, vRet, vSet, vIfS, vNext, vDrop, vVar, vC, vOp, vBl, vNot, vAnd, vOr, vAndV, vOrV, vNotV, vIf, vANil, vACons, vONil, vOCons, vTup, vLst, vgSet, vgNil, vgCons, vgTup, vFor, vAsg, vCall, vCallO, vCallL, vHold, swapIn, putBack, vRaise, gII, gIC, vFn, vChain, gTru, vpNone, vpSome, vSl, gSlL, gSlS, vIs, vFld, vMet, vMetK, vITup, vILst, vMtL, gAppend, vLc, vYes, vIRng1, vIEnumT, vIStr, vNeg, vFz, vMove, vLend, O.root, O.fz, O.toD, gEq, gNe, gIn, gCatL, gLen, gInt, gList, gTuple, vFPut, oPut, isTD, known7, noTD, eqOk, flat4, sameK, wipeE,  List.map_cons, List.map_nil, List.cons_append, List.nil_append, List.length_cons, List.length_nil, List.replicate_succ, List.replicate_zero, List.append_nil, List.getElem?_cons_zero, List.getElem?_cons_succ, List.getElem?_nil, List.set_cons_zero, List.set_cons_succ, List.set_nil, List.getD_cons_zero, List.getD_cons_succ, List.getD_nil, List.drop_zero, List.drop_succ_cons, List.take_succ_cons, List.take_zero, List.take_nil, Bool.true_and, Bool.and_true, Bool.false_and, Bool.and_false, Bool.or_true, Bool.or_false, Bool.true_or, Bool.false_or, Bool.not_true, Bool.not_false, if_true, if_false, ite_true, ite_false, true_and, and_true, eq_self_iff_true, Bool.false_eq_true, reduceIte, Nat.reduceSub, Nat.reduceAdd, reduceCtorEq, String.reduceBEq, beq_self_eq_true, true_or, or_true, false_or, or_false, false_and, and_false, decide_true, decide_false, Bool.not_not, vTry]
  refine law_ticket_V g (fun h2 => by rw [h] at h2; cases h2) fun wd2 h2 => ?_
  rw [h] at h2
  injection h2 with h2
  subst h2
  simp only [mBody, vRet, vSet, vIfS, vNext, vDrop, vVar, vC, vOp, vBl, vNot, vAnd, vOr, vAndV, vOrV, vNotV, vIf, vANil, vACons, vONil, vOCons, vTup, vLst, vgSet, vgNil, vgCons, vgTup, vFor, vAsg, vCall, vCallO, vCallL, vHold, swapIn, putBack, vRaise, gII, gIC, vFn, vChain, gTru, vpNone, vpSome, vSl, gSlL, gSlS, vIs, vFld, vMet, vMetK, vITup, vILst, vMtL, gAppend, vLc, vYes, vIRng1, vIEnumT, vIStr, vNeg, vFz, vMove, vLend, O.root, O.fz, O.toD, gEq, gNe, gIn, gCatL, gLen, gInt, gList, gTuple, vFPut, oPut, isTD, known7, noTD, eqOk, flat4, sameK, wipeE,  List.map_cons, List.map_nil, List.cons_append, List.nil_append, List.length_cons, List.length_nil, List.replicate_succ, List.replicate_zero, List.append_nil, List.getElem?_cons_zero, List.getElem?_cons_succ, List.getElem?_nil, List.set_cons_zero, List.set_cons_succ, List.set_nil, List.getD_cons_zero, List.getD_cons_succ, List.getD_nil, List.drop_zero, List.drop_succ_cons, List.take_succ_cons, List.take_zero, List.take_nil, Bool.true_and, Bool.and_true, Bool.false_and, Bool.and_false, Bool.or_true, Bool.or_false, Bool.true_or, Bool.false_or, Bool.not_true, Bool.not_false, if_true, if_false, ite_true, ite_false, true_and, and_true, eq_self_iff_true, Bool.false_eq_true, reduceIte, Nat.reduceSub, Nat.reduceAdd, reduceCtorEq, String.reduceBEq, beq_self_eq_true, true_or, or_true, false_or, or_false, false_and, and_false, decide_true, decide_false, Bool.not_not]
  intro a dd
  refine vSeq_i fun N hN => ?_
  simp only [mBody, vRet, vSet, vIfS, vNext, vDrop, vVar, vC, vOp, vBl, vNot, vAnd, vOr, vAndV, vOrV, vNotV, vIf, vANil, vACons, vONil, vOCons, vTup, vLst, vgSet, vgNil, vgCons, vgTup, vFor, vAsg, vCall, vCallO, vCallL, vHold, swapIn, putBack, vRaise, gII, gIC, vFn, vChain, gTru, vpNone, vpSome, vSl, gSlL, gSlS, vIs, vFld, vMet, vMetK, vITup, vILst, vMtL, gAppend, vLc, vYes, vIRng1, vIEnumT, vIStr, vNeg, vFz, vMove, vLend, O.root, O.fz, O.toD, gEq, gNe, gIn, gCatL, gLen, gInt, gList, gTuple, vFPut, oPut, isTD, known7, noTD, eqOk, flat4, sameK, wipeE,  List.map_cons, List.map_nil, List.cons_append, List.nil_append, List.length_cons, List.length_nil, List.replicate_succ, List.replicate_zero, List.append_nil, List.getElem?_cons_zero, List.getElem?_cons_succ, List.getElem?_nil, List.set_cons_zero, List.set_cons_succ, List.set_nil, List.getD_cons_zero, List.getD_cons_succ, List.getD_nil, List.drop_zero, List.drop_succ_cons, List.take_succ_cons, List.take_zero, List.take_nil, Bool.true_and, Bool.and_true, Bool.false_and, Bool.and_false, Bool.or_true, Bool.or_false, Bool.true_or, Bool.false_or, Bool.not_true, Bool.not_false, if_true, if_false, ite_true, ite_false, true_and, and_true, eq_self_iff_true, Bool.false_eq_true, reduceIte, Nat.reduceSub, Nat.reduceAdd, reduceCtorEq, String.reduceBEq, beq_self_eq_true, true_or, or_true, false_or, or_false, false_and, and_false, decide_true, decide_false, Bool.not_not, vIsX]
  refine hN _ ?_
  simp only [mBody, vRet, vSet, vIfS, vNext, vDrop, vVar, vC, vOp, vBl, vNot, vAnd, vOr, vAndV, vOrV, vNotV, vIf, vANil, vACons, vONil, vOCons, vTup, vLst, vgSet, vgNil, vgCons, vgTup, vFor, vAsg, vCall, vCallO, vCallL, vHold, swapIn, putBack, vRaise, gII, gIC, vFn, vChain, gTru, vpNone, vpSome, vSl, gSlL, gSlS, vIs, vFld, vMet, vMetK, vITup, vILst, vMtL, gAppend, vLc, vYes, vIRng1, vIEnumT, vIStr, vNeg, vFz, vMove, vLend, O.root, O.fz, O.toD, gEq, gNe, gIn, gCatL, gLen, gInt, gList, gTuple, vFPut, oPut, isTD, known7, noTD, eqOk, flat4, sameK, wipeE,  List.map_cons, List.map_nil, List.cons_append, List.nil_append, List.length_cons, List.length_nil, List.replicate_succ, List.replicate_zero, List.append_nil, List.getElem?_cons_zero, List.getElem?_cons_succ, List.getElem?_nil, List.set_cons_zero, List.set_cons_succ, List.set_nil, List.getD_cons_zero, List.getD_cons_succ, List.getD_nil, List.drop_zero, List.drop_succ_cons, List.take_succ_cons, List.take_zero, List.take_nil, Bool.true_and, Bool.and_true, Bool.false_and, Bool.and_false, Bool.or_true, Bool.or_false, Bool.true_or, Bool.false_or, Bool.not_true, Bool.not_false, if_true, if_false, ite_true, ite_false, true_and, and_true, eq_self_iff_true, Bool.false_eq_true, reduceIte, Nat.reduceSub, Nat.reduceAdd, reduceCtorEq, String.reduceBEq, beq_self_eq_true, true_or, or_true, false_or, or_false, false_and, and_false, decide_true, decide_false, Bool.not_not, vXf]
  exact q
end
/-- the parts of a good ticket -/
structure Pt where
  h : Str
  t : Str
  a : Int
  b : Int
  v : Option (List Str)
  c : Option Str
  k : Bool
abbrev Pt.dv (p : Pt) : D := match p.v with
  | none => .non
  | some ns => .lst (ns.map D.str)
abbrev Pt.dc (p : Pt) : D := match p.c with
  | none => .non
  | some z => .str z
abbrev Pt.ds (p : Pt) : List D := [.str p.h, .str p.t, .int p.a, .int p.b, p.dv, p.dc, .bl p.k]
structure PtOk (p : Pt) : Prop where
  h : isNm p.h = true
  t : isNm p.t = true
  a0 : 0 ≤ p.a
  a1 : p.a ≤ 1440
  b0 : 0 ≤ p.b
  b1 : p.b ≤ 1440
  v : ∀ ns, p.v = some ns → ns.length < 4000 ∧ ns.Nodup ∧ ∀ z ∈ ns, isNm z = true
  c : ∀ z, p.c = some z → isNm z = true
section
variable {p : Pt}
theorem gd_nm {z : Str} (h : isNm z = true) : Gd (.str z) := ⟨rfl, rfl, fun y e => by injection e with e; rw [← e]; exact nm_small h⟩
theorem gd_int {i : Int} : Gd (.int i) := ⟨rfl, rfl, fun y e => by cases e⟩
theorem gd_bl {b : Bool} : Gd (.bl b) := ⟨rfl, rfl, fun y e => by cases e⟩
theorem gd_non : Gd .non := ⟨rfl, rfl, fun y e => by cases e⟩
theorem PtOk.gv (ok : PtOk p) : Gv p.dv := by
  obtain ⟨h, t, a, b, v, c, k⟩ := p
  cases v with
  | none => exact ⟨gd_non, fun ds e => by cases e⟩
  | some ns =>
    obtain ⟨h1, h2, h3⟩ := ok.v ns rfl
    refine ⟨⟨rfl, rfl, fun y e => by cases e⟩, fun ds e => ?_⟩
    have e : D.lst (ns.map D.str) = .lst ds := e
    injection e with e
    subst e
    exact ⟨by simpa using h1, fun e he => by
      obtain ⟨z, hz, rfl⟩ := List.mem_map.mp he
      exact gd_nm (h3 z hz)⟩
theorem PtOk.gc (ok : PtOk p) : Gd p.dc := by
  obtain ⟨h, t, a, b, v, c, k⟩ := p
  cases c with
  | none => exact gd_non
  | some z => exact gd_nm (ok.c z rfl)
theorem PtOk.gp (ok : PtOk p) : Gp (.str p.h) (.str p.t) (.int p.a) (.int p.b) p.dv p.dc (.bl p.k) := ⟨gd_nm ok.h, gd_nm ok.t, gd_int, gd_int, ok.gv, ok.gc, gd_bl⟩
theorem names_all {ns : List Str} (h : ∀ z ∈ ns, isNm z = true) : (ns.map D.str).all nmD = true := by
  rw [List.all_eq_true]
  intro d hd
  obtain ⟨z, hz, rfl⟩ := List.mem_map.mp hd
  exact h z hz
theorem nd_str {ns : List Str} (h : ns.Nodup) : (ns.map D.str).Nodup := List.Pairwise.map D.str (fun a b hab e => hab (by injection e)) h
theorem PtOk.via (ok : PtOk p) : viaD p.dv = true := by
  obtain ⟨h, t, a, b, v, c, k⟩ := p
  cases v with
  | none => rfl
  | some ns =>
    obtain ⟨h1, h2, h3⟩ := ok.v ns rfl
    show ((ns.map D.str).all nmD && decide ((uniq (ns.map D.str)).length = (ns.map D.str).length)) = true
    rw [names_all h3, decide_eq_true (uniq_nodup.mpr (nd_str h2))]; rfl
theorem PtOk.train (ok : PtOk p) : ¬ (p.dc ≠ .non ∧ nmD p.dc = false) := by
  obtain ⟨h, t, a, b, v, c, k⟩ := p
  cases c with
  | none => exact fun z => z.1 rfl
  | some z => exact fun y => by have : isNm z = false := y.2; rw [ok.c z rfl] at this; cases this
theorem fr_yes {a b i : Int} (h1 : a ≤ i) (h2 : i ≤ b) : frD a b (.int i) = true := by simp [frD, h1, h2]
/-- a good one, its two ends unlike, its window right way round -/
theorem PtOk.good (ok : PtOk p) (ne : p.h ≠ p.t) (ab : p.a ≤ p.b) : tkBad (.str p.h) (.str p.t) (.int p.a) (.int p.b) p.dv p.dc (.bl p.k) = none := by
  have n1 : ¬ (nmD (.str p.t) = false ∨ D.str p.t = D.str p.h) := fun z => by
    rcases z with z | z
    · rw [show nmD (.str p.t) = true from ok.t] at z; cases z
    · injection z with z; exact ne z.symm
  have n2 : ¬ (frD 0 1440 (.int p.a) = false ∨ ∀ i, D.int p.a = .int i → frD i 1440 (.int p.b) = false) := fun z => by
    rcases z with z | z
    · rw [fr_yes ok.a0 ok.a1] at z; cases z
    · have := z p.a rfl
      rw [fr_yes ab ok.b1] at this; cases this
  unfold tkBad
  rw [if_neg (by rw [show nmD (.str p.h) = true from ok.h]; simp), if_neg n1, if_neg n2, if_neg (by rw [ok.via]; simp), if_neg ok.train, if_neg (by simp [isBD])]
theorem PtOk.lyv (ok : PtOk p) : Ly 1 p.dv := by
  obtain ⟨h, t, a, b, v, c, k⟩ := p
  cases v with
  | none => exact ly_non
  | some ns =>
    refine ly_lst fun d hd => ?_
    obtain ⟨z, hz, rfl⟩ := List.mem_map.mp hd
    exact ly_nm ((ok.v ns rfl).2.2 z hz)
theorem PtOk.lyc (ok : PtOk p) : Ly 1 p.dc := by
  obtain ⟨h, t, a, b, v, c, k⟩ := p
  cases c with
  | none => exact ly_non
  | some z => exact ly_nm (ok.c z rfl)
theorem PtOk.mem (ok : PtOk p) : ∀ d ∈ p.ds, Ly 1 d := fun d hd => by
  have : d = .str p.h ∨ d = .str p.t ∨ d = .int p.a ∨ d = .int p.b ∨ d = p.dv ∨ d = p.dc ∨ d = .bl p.k := by simpa using hd
  rcases this with rfl | rfl | rfl | rfl | rfl | rfl | rfl
  · exact ly_nm ok.h
  · exact ly_nm ok.t
  · exact ly_int _
  · exact ly_int _
  · exact ok.lyv
  · exact ok.lyc
  · exact ly_bl _
theorem PtOk.lyl (ok : PtOk p) : Ly 2 (.lst p.ds) := ly_lst ok.mem
theorem PtOk.lyt (ok : PtOk p) : Ly 2 (.tup p.ds) := ly_tup ok.mem
end
section
variable {a b : Addr} {d0 d1 d2 d3 d4 d5 d6 e0 e1 e2 e3 e4 e5 e6 : D} {Q : O → List O → Prop} {x : XD}
theorem tk_here : (tkF d0 d1 d2 d3 d4 d5 d6).lookup ("here" : Str) = some d0 := rfl
theorem tk_there : (tkF d0 d1 d2 d3 d4 d5 d6).lookup ("there" : Str) = some d1 := rfl
theorem tk_since : (tkF d0 d1 d2 d3 d4 d5 d6).lookup ("since" : Str) = some d2 := rfl
theorem tk_till : (tkF d0 d1 d2 d3 d4 d5 d6).lookup ("till" : Str) = some d3 := rfl
theorem tk_via : (tkF d0 d1 d2 d3 d4 d5 d6).lookup ("via" : Str) = some d4 := rfl
theorem tk_bound : (tkF d0 d1 d2 d3 d4 d5 d6).lookup ("bound" : Str) = some d5 := rfl
theorem tk_breaks : (tkF d0 d1 d2 d3 d4 d5 d6).lookup ("breaks" : Str) = some d6 := rfl
theorem law_told_V (q : ∀ b, Q (.ol b [d0, d1, d2, d3, d4, d5, d6]) []) : m__law_told [.sh (tkD a d0 d1 d2 d3 d4 d5 d6)] Q x := by
  unfold m__law_told mBody
  simp only [mBody, vRet, vSet, vIfS, vNext, vDrop, vVar, vC, vOp, vBl, vNot, vAnd, vOr, vAndV, vOrV, vNotV, vIf, vANil, vACons, vONil, vOCons, vTup, vLst, vgSet, vgNil, vgCons, vgTup, vFor, vAsg, vCall, vCallO, vCallL, vHold, swapIn, putBack, vRaise, gII, gIC, vFn, vChain, gTru, vpNone, vpSome, vSl, gSlL, gSlS, vIs, vFld, vMet, vMetK, vITup, vILst, vMtL, gAppend, vLc, vYes, vIRng1, vIEnumT, vIStr, vNeg, vFz, vMove, vLend, O.root, O.fz, O.toD, gEq, gNe, gIn, gCatL, gLen, gInt, gList, gTuple, vFPut, oPut, isTD, known7, noTD, eqOk, flat4, sameK, wipeE,  List.map_cons, List.map_nil, List.cons_append, List.nil_append, List.length_cons, List.length_nil, List.replicate_succ, List.replicate_zero, List.append_nil, List.getElem?_cons_zero, List.getElem?_cons_succ, List.getElem?_nil, List.set_cons_zero, List.set_cons_succ, List.set_nil, List.getD_cons_zero, List.getD_cons_succ, List.getD_nil, List.drop_zero, List.drop_succ_cons, List.take_succ_cons, List.take_zero, List.take_nil, Bool.true_and, Bool.and_true, Bool.false_and, Bool.and_false, Bool.or_true, Bool.or_false, Bool.true_or, Bool.false_or, Bool.not_true, Bool.not_false, if_true, if_false, ite_true, ite_false, true_and, and_true, eq_self_iff_true, Bool.false_eq_true, reduceIte, Nat.reduceSub, Nat.reduceAdd, reduceCtorEq, String.reduceBEq, beq_self_eq_true, true_or, or_true, false_or, or_false, false_and, and_false, decide_true, decide_false, Bool.not_not, tk_here, tk_there, tk_since, tk_till, tk_via, tk_bound, tk_breaks]
  exact q
theorem clauses_V (q : Q (.sh (.tup [d0, d1, d2, d3, d4, d5, d6])) []) : m_Ticket_clauses [.sh (tkD a d0 d1 d2 d3 d4 d5 d6)] Q x := by
  unfold m_Ticket_clauses mBody
  simp only [mBody, vRet, vSet, vIfS, vNext, vDrop, vVar, vC, vOp, vBl, vNot, vAnd, vOr, vAndV, vOrV, vNotV, vIf, vANil, vACons, vONil, vOCons, vTup, vLst, vgSet, vgNil, vgCons, vgTup, vFor, vAsg, vCall, vCallO, vCallL, vHold, swapIn, putBack, vRaise, gII, gIC, vFn, vChain, gTru, vpNone, vpSome, vSl, gSlL, gSlS, vIs, vFld, vMet, vMetK, vITup, vILst, vMtL, gAppend, vLc, vYes, vIRng1, vIEnumT, vIStr, vNeg, vFz, vMove, vLend, O.root, O.fz, O.toD, gEq, gNe, gIn, gCatL, gLen, gInt, gList, gTuple, vFPut, oPut, isTD, known7, noTD, eqOk, flat4, sameK, wipeE,  List.map_cons, List.map_nil, List.cons_append, List.nil_append, List.length_cons, List.length_nil, List.replicate_succ, List.replicate_zero, List.append_nil, List.getElem?_cons_zero, List.getElem?_cons_succ, List.getElem?_nil, List.set_cons_zero, List.set_cons_succ, List.set_nil, List.getD_cons_zero, List.getD_cons_succ, List.getD_nil, List.drop_zero, List.drop_succ_cons, List.take_succ_cons, List.take_zero, List.take_nil, Bool.true_and, Bool.and_true, Bool.false_and, Bool.and_false, Bool.or_true, Bool.or_false, Bool.true_or, Bool.false_or, Bool.not_true, Bool.not_false, if_true, if_false, ite_true, ite_false, true_and, and_true, eq_self_iff_true, Bool.false_eq_true, reduceIte, Nat.reduceSub, Nat.reduceAdd, reduceCtorEq, String.reduceBEq, beq_self_eq_true, true_or, or_true, false_or, or_false, false_and, and_false, decide_true, decide_false, Bool.not_not, tk_here, tk_there, tk_since, tk_till, tk_via, tk_bound, tk_breaks]
  exact q
theorem Ticket_eq_V {n : Nat} (h : Ly n (.tup [d0, d1, d2, d3, d4, d5, d6])) (h' : Ly n (.tup [e0, e1, e2, e3, e4, e5, e6])) (hn : n ≤ 64) (q : Q (.sh (.bl (eqD (.tup [d0, d1, d2, d3, d4, d5, d6]) (.tup [e0, e1, e2, e3, e4, e5, e6])))) []) :
    m_Ticketdd_eqdd [.sh (tkD a d0 d1 d2 d3 d4 d5 d6), .sh (tkD b e0 e1 e2 e3 e4 e5 e6)] Q x := by
  unfold m_Ticketdd_eqdd mBody
  simp only [mBody, vRet, vSet, vIfS, vNext, vDrop, vVar, vC, vOp, vBl, vNot, vAnd, vOr, vAndV, vOrV, vNotV, vIf, vANil, vACons, vONil, vOCons, vTup, vLst, vgSet, vgNil, vgCons, vgTup, vFor, vAsg, vCall, vCallO, vCallL, vHold, swapIn, putBack, vRaise, gII, gIC, vFn, vChain, gTru, vpNone, vpSome, vSl, gSlL, gSlS, vIs, vFld, vMet, vMetK, vITup, vILst, vMtL, gAppend, vLc, vYes, vIRng1, vIEnumT, vIStr, vNeg, vFz, vMove, vLend, O.root, O.fz, O.toD, gEq, gNe, gIn, gCatL, gLen, gInt, gList, gTuple, vFPut, oPut, isTD, known7, noTD, eqOk, flat4, sameK, wipeE,  List.map_cons, List.map_nil, List.cons_append, List.nil_append, List.length_cons, List.length_nil, List.replicate_succ, List.replicate_zero, List.append_nil, List.getElem?_cons_zero, List.getElem?_cons_succ, List.getElem?_nil, List.set_cons_zero, List.set_cons_succ, List.set_nil, List.getD_cons_zero, List.getD_cons_succ, List.getD_nil, List.drop_zero, List.drop_succ_cons, List.take_succ_cons, List.take_zero, List.take_nil, Bool.true_and, Bool.and_true, Bool.false_and, Bool.and_false, Bool.or_true, Bool.or_false, Bool.true_or, Bool.false_or, Bool.not_true, Bool.not_false, if_true, if_false, ite_true, ite_false, true_and, and_true, eq_self_iff_true, Bool.false_eq_true, reduceIte, Nat.reduceSub, Nat.reduceAdd, reduceCtorEq, String.reduceBEq, beq_self_eq_true, true_or, or_true, false_or, or_false, false_and, and_false, decide_true, decide_false, Bool.not_not, vIsO, eqArg]
  refine ⟨rfl, clauses_V ?_⟩
  simp only [mBody, vRet, vSet, vIfS, vNext, vDrop, vVar, vC, vOp, vBl, vNot, vAnd, vOr, vAndV, vOrV, vNotV, vIf, vANil, vACons, vONil, vOCons, vTup, vLst, vgSet, vgNil, vgCons, vgTup, vFor, vAsg, vCall, vCallO, vCallL, vHold, swapIn, putBack, vRaise, gII, gIC, vFn, vChain, gTru, vpNone, vpSome, vSl, gSlL, gSlS, vIs, vFld, vMet, vMetK, vITup, vILst, vMtL, gAppend, vLc, vYes, vIRng1, vIEnumT, vIStr, vNeg, vFz, vMove, vLend, O.root, O.fz, O.toD, gEq, gNe, gIn, gCatL, gLen, gInt, gList, gTuple, vFPut, oPut, isTD, known7, noTD, eqOk, flat4, sameK, wipeE,  List.map_cons, List.map_nil, List.cons_append, List.nil_append, List.length_cons, List.length_nil, List.replicate_succ, List.replicate_zero, List.append_nil, List.getElem?_cons_zero, List.getElem?_cons_succ, List.getElem?_nil, List.set_cons_zero, List.set_cons_succ, List.set_nil, List.getD_cons_zero, List.getD_cons_succ, List.getD_nil, List.drop_zero, List.drop_succ_cons, List.take_succ_cons, List.take_zero, List.take_nil, Bool.true_and, Bool.and_true, Bool.false_and, Bool.and_false, Bool.or_true, Bool.or_false, Bool.true_or, Bool.false_or, Bool.not_true, Bool.not_false, if_true, if_false, ite_true, ite_false, true_and, and_true, eq_self_iff_true, Bool.false_eq_true, reduceIte, Nat.reduceSub, Nat.reduceAdd, reduceCtorEq, String.reduceBEq, beq_self_eq_true, true_or, or_true, false_or, or_false, false_and, and_false, decide_true, decide_false, Bool.not_not]
  refine ⟨rfl, clauses_V ?_⟩
  simp only [mBody, vRet, vSet, vIfS, vNext, vDrop, vVar, vC, vOp, vBl, vNot, vAnd, vOr, vAndV, vOrV, vNotV, vIf, vANil, vACons, vONil, vOCons, vTup, vLst, vgSet, vgNil, vgCons, vgTup, vFor, vAsg, vCall, vCallO, vCallL, vHold, swapIn, putBack, vRaise, gII, gIC, vFn, vChain, gTru, vpNone, vpSome, vSl, gSlL, gSlS, vIs, vFld, vMet, vMetK, vITup, vILst, vMtL, gAppend, vLc, vYes, vIRng1, vIEnumT, vIStr, vNeg, vFz, vMove, vLend, O.root, O.fz, O.toD, gEq, gNe, gIn, gCatL, gLen, gInt, gList, gTuple, vFPut, oPut, isTD, known7, noTD, eqOk, flat4, sameK, wipeE,  List.map_cons, List.map_nil, List.cons_append, List.nil_append, List.length_cons, List.length_nil, List.replicate_succ, List.replicate_zero, List.append_nil, List.getElem?_cons_zero, List.getElem?_cons_succ, List.getElem?_nil, List.set_cons_zero, List.set_cons_succ, List.set_nil, List.getD_cons_zero, List.getD_cons_succ, List.getD_nil, List.drop_zero, List.drop_succ_cons, List.take_succ_cons, List.take_zero, List.take_nil, Bool.true_and, Bool.and_true, Bool.false_and, Bool.and_false, Bool.or_true, Bool.or_false, Bool.true_or, Bool.false_or, Bool.not_true, Bool.not_false, if_true, if_false, ite_true, ite_false, true_and, and_true, eq_self_iff_true, Bool.false_eq_true, reduceIte, Nat.reduceSub, Nat.reduceAdd, reduceCtorEq, String.reduceBEq, beq_self_eq_true, true_or, or_true, false_or, or_false, false_and, and_false, decide_true, decide_false, Bool.not_not]
  exact ⟨by rw [h.ok hn, h'.ok hn]; rfl, q⟩
theorem Ticket_eq_no {d : D} (h : eqArg "Ticket" d = true) (h7 : known7 d = true) (q : Q (.sh (.bl false)) []) : m_Ticketdd_eqdd [.sh (tkD a d0 d1 d2 d3 d4 d5 d6), .sh d] Q x := by
  unfold m_Ticketdd_eqdd mBody
  simp only [vRet, vAndV, vIsO, vVar, O.fz, O.toD, List.cons_append, List.nil_append, List.getElem?_cons_zero, List.getElem?_cons_succ, h, h7, true_and, Bool.not_true]
  exact q
theorem viaO_toD {q : Addr} {d : D} : (viaO q d).toD = some d := by cases d <;> rfl
theorem tkO_toD {p q : Addr} : (tkO p q d0 d1 d2 d3 d4 d5 d6).toD = some (tkD p d0 d1 d2 d3 d4 d5 d6) := by
  cases d4 <;> rfl
end
section
variable {Q : O → List O → Prop} {x : XD}
theorem cutL_at {α : Type} {xs : List α} {i j : Int} (h : 0 ≤ i) (h1 : i ≤ j) (h2 : j.toNat ≤ xs.length) : cutL xs (some i) (some j) = (xs.drop i.toNat).take (j.toNat - i.toNat) := by
  unfold cutL
  have e1 : HT.sIx xs.length 0 (some i) = i.toNat := by
    show (if i < 0 then (i + (xs.length : Int)).toNat else min i.toNat xs.length) = _
    rw [if_neg (by omega), Nat.min_eq_left (by omega)]
  have e2 : HT.sIx xs.length xs.length (some j) = j.toNat := by
    show (if j < 0 then (j + (xs.length : Int)).toNat else min j.toNat xs.length) = _
    rw [if_neg (by omega), Nat.min_eq_left (by omega)]
  rw [e1, e2]
/-- a good ticket's parts are drawn -/
structure Good (p : Pt) : Prop where
  ok : PtOk p
  ne : p.h ≠ p.t
  ab : p.a ≤ p.b
theorem law_good_V {s : Addr} (q : ∀ b p, Good p → Q (.ol b p.ds) [.src s]) : m__law_good [.src s] Q x := by
  unfold m__law_good mBody
  refine vSeq_i fun N hN => ?_
  simp only [mBody, vRet, vSet, vIfS, vNext, vDrop, vVar, vC, vOp, vBl, vNot, vAnd, vOr, vAndV, vOrV, vNotV, vIf, vANil, vACons, vONil, vOCons, vTup, vLst, vgSet, vgNil, vgCons, vgTup, vFor, vAsg, vCall, vCallO, vCallL, vHold, swapIn, putBack, vRaise, gII, gIC, vFn, vChain, gTru, vpNone, vpSome, vSl, gSlL, gSlS, vIs, vFld, vMet, vMetK, vITup, vILst, vMtL, gAppend, vLc, vYes, vIRng1, vIEnumT, vIStr, vNeg, vFz, vMove, vLend, O.root, O.fz, O.toD, gEq, gNe, gIn, gCatL, gLen, gInt, gList, gTuple, vFPut, oPut, isTD, known7, noTD, eqOk, flat4, sameK, wipeE,  List.map_cons, List.map_nil, List.cons_append, List.nil_append, List.length_cons, List.length_nil, List.replicate_succ, List.replicate_zero, List.append_nil, List.getElem?_cons_zero, List.getElem?_cons_succ, List.getElem?_nil, List.set_cons_zero, List.set_cons_succ, List.set_nil, List.getD_cons_zero, List.getD_cons_succ, List.getD_nil, List.drop_zero, List.drop_succ_cons, List.take_succ_cons, List.take_zero, List.take_nil, Bool.true_and, Bool.and_true, Bool.false_and, Bool.and_false, Bool.or_true, Bool.or_false, Bool.true_or, Bool.false_or, Bool.not_true, Bool.not_false, if_true, if_false, ite_true, ite_false, true_and, and_true, eq_self_iff_true, Bool.false_eq_true, reduceIte, Nat.reduceSub, Nat.reduceAdd, reduceCtorEq, String.reduceBEq, beq_self_eq_true, true_or, or_true, false_or, or_false, false_and, and_false, decide_true, decide_false, Bool.not_not]
  refine law_names_V (by decide) (by decide) fun b1 ns l5 hnm hnd => ?_
  simp only [mBody, vRet, vSet, vIfS, vNext, vDrop, vVar, vC, vOp, vBl, vNot, vAnd, vOr, vAndV, vOrV, vNotV, vIf, vANil, vACons, vONil, vOCons, vTup, vLst, vgSet, vgNil, vgCons, vgTup, vFor, vAsg, vCall, vCallO, vCallL, vHold, swapIn, putBack, vRaise, gII, gIC, vFn, vChain, gTru, vpNone, vpSome, vSl, gSlL, gSlS, vIs, vFld, vMet, vMetK, vITup, vILst, vMtL, gAppend, vLc, vYes, vIRng1, vIEnumT, vIStr, vNeg, vFz, vMove, vLend, O.root, O.fz, O.toD, gEq, gNe, gIn, gCatL, gLen, gInt, gList, gTuple, vFPut, oPut, isTD, known7, noTD, eqOk, flat4, sameK, wipeE,  List.map_cons, List.map_nil, List.cons_append, List.nil_append, List.length_cons, List.length_nil, List.replicate_succ, List.replicate_zero, List.append_nil, List.getElem?_cons_zero, List.getElem?_cons_succ, List.getElem?_nil, List.set_cons_zero, List.set_cons_succ, List.set_nil, List.getD_cons_zero, List.getD_cons_succ, List.getD_nil, List.drop_zero, List.drop_succ_cons, List.take_succ_cons, List.take_zero, List.take_nil, Bool.true_and, Bool.and_true, Bool.false_and, Bool.and_false, Bool.or_true, Bool.or_false, Bool.true_or, Bool.false_or, Bool.not_true, Bool.not_false, if_true, if_false, ite_true, ite_false, true_and, and_true, eq_self_iff_true, Bool.false_eq_true, reduceIte, Nat.reduceSub, Nat.reduceAdd, reduceCtorEq, String.reduceBEq, beq_self_eq_true, true_or, or_true, false_or, or_false, false_and, and_false, decide_true, decide_false, Bool.not_not]
  have l5 : ns.length = 5 := l5
  obtain ⟨z0, z1, z2, z3, z4, rfl⟩ : ∃ z0 z1 z2 z3 z4, ns = [z0, z1, z2, z3, z4] := by
    match ns, l5 with
    | [a, b, c, d, e], _ => exact ⟨a, b, c, d, e, rfl⟩
  refine hN _ (vSeq_i fun N hN => ?_)
  simp only [mBody, vRet, vSet, vIfS, vNext, vDrop, vVar, vC, vOp, vBl, vNot, vAnd, vOr, vAndV, vOrV, vNotV, vIf, vANil, vACons, vONil, vOCons, vTup, vLst, vgSet, vgNil, vgCons, vgTup, vFor, vAsg, vCall, vCallO, vCallL, vHold, swapIn, putBack, vRaise, gII, gIC, vFn, vChain, gTru, vpNone, vpSome, vSl, gSlL, gSlS, vIs, vFld, vMet, vMetK, vITup, vILst, vMtL, gAppend, vLc, vYes, vIRng1, vIEnumT, vIStr, vNeg, vFz, vMove, vLend, O.root, O.fz, O.toD, gEq, gNe, gIn, gCatL, gLen, gInt, gList, gTuple, vFPut, oPut, isTD, known7, noTD, eqOk, flat4, sameK, wipeE,  List.map_cons, List.map_nil, List.cons_append, List.nil_append, List.length_cons, List.length_nil, List.replicate_succ, List.replicate_zero, List.append_nil, List.getElem?_cons_zero, List.getElem?_cons_succ, List.getElem?_nil, List.set_cons_zero, List.set_cons_succ, List.set_nil, List.getD_cons_zero, List.getD_cons_succ, List.getD_nil, List.drop_zero, List.drop_succ_cons, List.take_succ_cons, List.take_zero, List.take_nil, Bool.true_and, Bool.and_true, Bool.false_and, Bool.and_false, Bool.or_true, Bool.or_false, Bool.true_or, Bool.false_or, Bool.not_true, Bool.not_false, if_true, if_false, ite_true, ite_false, true_and, and_true, eq_self_iff_true, Bool.false_eq_true, reduceIte, Nat.reduceSub, Nat.reduceAdd, reduceCtorEq, String.reduceBEq, beq_self_eq_true, true_or, or_true, false_or, or_false, false_and, and_false, decide_true, decide_false, Bool.not_not, mTake]
  refine ⟨by decide, by decide, fun k1 k10 k11 => ?_⟩
  intro b2
  refine ⟨by decide, by decide, fun k2 k20 k21 => ?_⟩
  obtain ⟨op, hop, o0, o1⟩ : ∃ op, atI [D.int 0, .int 1440, .int k1] k2 = some (.int op) ∧ 0 ≤ op ∧ op ≤ 1440 := by
    have : k2 = 0 ∨ k2 = 1 ∨ k2 = 2 := by omega
    rcases this with rfl | rfl | rfl
    · exact ⟨0, rfl, by omega, by omega⟩
    · exact ⟨1440, rfl, by omega, by omega⟩
    · exact ⟨k1, rfl, by omega, by omega⟩
  refine gIx_lst hop ?_
  refine hN _ (vSeq_i fun N hN => ?_)
  simp only [mBody, vRet, vSet, vIfS, vNext, vDrop, vVar, vC, vOp, vBl, vNot, vAnd, vOr, vAndV, vOrV, vNotV, vIf, vANil, vACons, vONil, vOCons, vTup, vLst, vgSet, vgNil, vgCons, vgTup, vFor, vAsg, vCall, vCallO, vCallL, vHold, swapIn, putBack, vRaise, gII, gIC, vFn, vChain, gTru, vpNone, vpSome, vSl, gSlL, gSlS, vIs, vFld, vMet, vMetK, vITup, vILst, vMtL, gAppend, vLc, vYes, vIRng1, vIEnumT, vIStr, vNeg, vFz, vMove, vLend, O.root, O.fz, O.toD, gEq, gNe, gIn, gCatL, gLen, gInt, gList, gTuple, vFPut, oPut, isTD, known7, noTD, eqOk, flat4, sameK, wipeE,  List.map_cons, List.map_nil, List.cons_append, List.nil_append, List.length_cons, List.length_nil, List.replicate_succ, List.replicate_zero, List.append_nil, List.getElem?_cons_zero, List.getElem?_cons_succ, List.getElem?_nil, List.set_cons_zero, List.set_cons_succ, List.set_nil, List.getD_cons_zero, List.getD_cons_succ, List.getD_nil, List.drop_zero, List.drop_succ_cons, List.take_succ_cons, List.take_zero, List.take_nil, Bool.true_and, Bool.and_true, Bool.false_and, Bool.and_false, Bool.or_true, Bool.or_false, Bool.true_or, Bool.false_or, Bool.not_true, Bool.not_false, if_true, if_false, ite_true, ite_false, true_and, and_true, eq_self_iff_true, Bool.false_eq_true, reduceIte, Nat.reduceSub, Nat.reduceAdd, reduceCtorEq, String.reduceBEq, beq_self_eq_true, true_or, or_true, false_or, or_false, false_and, and_false, decide_true, decide_false, Bool.not_not, mTake]
  refine ⟨by omega, by omega, fun k3 k30 k31 => ?_⟩
  intro b3
  refine ⟨by decide, by decide, fun k4 k40 k41 => ?_⟩
  obtain ⟨cl, hcl, c0, c1⟩ : ∃ cl, atI [D.int 1440, .int op, .int (op + k3)] k4 = some (.int cl) ∧ op ≤ cl ∧ cl ≤ 1440 := by
    have : k4 = 0 ∨ k4 = 1 ∨ k4 = 2 := by omega
    rcases this with rfl | rfl | rfl
    · exact ⟨1440, rfl, by omega, by omega⟩
    · exact ⟨op, rfl, by omega, by omega⟩
    · exact ⟨op + k3, rfl, by omega, by omega⟩
  refine gIx_lst hcl ?_
  refine hN _ (vSeq_i fun N hN => ?_)
  simp only [mBody, vRet, vSet, vIfS, vNext, vDrop, vVar, vC, vOp, vBl, vNot, vAnd, vOr, vAndV, vOrV, vNotV, vIf, vANil, vACons, vONil, vOCons, vTup, vLst, vgSet, vgNil, vgCons, vgTup, vFor, vAsg, vCall, vCallO, vCallL, vHold, swapIn, putBack, vRaise, gII, gIC, vFn, vChain, gTru, vpNone, vpSome, vSl, gSlL, gSlS, vIs, vFld, vMet, vMetK, vITup, vILst, vMtL, gAppend, vLc, vYes, vIRng1, vIEnumT, vIStr, vNeg, vFz, vMove, vLend, O.root, O.fz, O.toD, gEq, gNe, gIn, gCatL, gLen, gInt, gList, gTuple, vFPut, oPut, isTD, known7, noTD, eqOk, flat4, sameK, wipeE,  List.map_cons, List.map_nil, List.cons_append, List.nil_append, List.length_cons, List.length_nil, List.replicate_succ, List.replicate_zero, List.append_nil, List.getElem?_cons_zero, List.getElem?_cons_succ, List.getElem?_nil, List.set_cons_zero, List.set_cons_succ, List.set_nil, List.getD_cons_zero, List.getD_cons_succ, List.getD_nil, List.drop_zero, List.drop_succ_cons, List.take_succ_cons, List.take_zero, List.take_nil, Bool.true_and, Bool.and_true, Bool.false_and, Bool.and_false, Bool.or_true, Bool.or_false, Bool.true_or, Bool.false_or, Bool.not_true, Bool.not_false, if_true, if_false, ite_true, ite_false, true_and, and_true, eq_self_iff_true, Bool.false_eq_true, reduceIte, Nat.reduceSub, Nat.reduceAdd, reduceCtorEq, String.reduceBEq, beq_self_eq_true, true_or, or_true, false_or, or_false, false_and, and_false, decide_true, decide_false, Bool.not_not, mTake]
  intro b4
  refine ⟨by decide, by decide, fun k5 k50 k51 => ?_⟩
  intro b5 b6
  refine ⟨by decide, by decide, fun k6 k60 k61 => ?_⟩
  have nz : ∀ z ∈ [z2, z3, z4], isNm z = true := fun z hz => hnm z (List.mem_cons_of_mem _ (List.mem_cons_of_mem _ hz))
  have nd3 : [z2, z3, z4].Nodup := (List.nodup_cons.mp (List.nodup_cons.mp hnd).2).2
  obtain ⟨vn, hvn, vl, vnd, vnm⟩ : ∃ vn : List Str, cutL [D.str z0, D.str z1, D.str z2, D.str z3, D.str z4] (some 2) (some (3 + k5)) = vn.map D.str ∧ vn.length < 4000 ∧ vn.Nodup ∧ ∀ z ∈ vn, isNm z = true := by
    have : k5 = 0 ∨ k5 = 1 ∨ k5 = 2 := by omega
    rcases this with rfl | rfl | rfl
    · exact ⟨[z2], rfl, Nat.le_of_ble_eq_true rfl, by simp, fun z hz => nz z (by simp at hz; simp [hz])⟩
    · refine ⟨[z2, z3], rfl, Nat.le_of_ble_eq_true rfl, ?_, fun z hz => nz z (by simp at hz; rcases hz with rfl | rfl <;> simp)⟩
      have : [z2, z3].Sublist [z2, z3, z4] := by simp
      exact nd3.sublist this
    · exact ⟨[z2, z3, z4], rfl, Nat.le_of_ble_eq_true rfl, nd3, nz⟩
  rw [hvn]
  obtain ⟨v, hv, hvok⟩ : ∃ v : Option (List Str), atI [D.non, .lst [], .lst (vn.map D.str)] k6 = some (Pt.dv ⟨z0, z1, op, cl, v, none, true⟩) ∧ ∀ ms, v = some ms → ms.length < 4000 ∧ ms.Nodup ∧ ∀ z ∈ ms, isNm z = true := by
    have : k6 = 0 ∨ k6 = 1 ∨ k6 = 2 := by omega
    rcases this with rfl | rfl | rfl
    · exact ⟨none, rfl, fun ms e => by cases e⟩
    · exact ⟨some [], rfl, fun ms e => by injection e with e; subst e; exact ⟨by decide, List.nodup_nil, by simp⟩⟩
    · exact ⟨some vn, rfl, fun ms e => by injection e with e; subst e; exact ⟨vl, vnd, vnm⟩⟩
  refine gIx_lst hv ?_
  refine hN _ (vSeq_i fun N hN => ?_)
  simp only [mBody, vRet, vSet, vIfS, vNext, vDrop, vVar, vC, vOp, vBl, vNot, vAnd, vOr, vAndV, vOrV, vNotV, vIf, vANil, vACons, vONil, vOCons, vTup, vLst, vgSet, vgNil, vgCons, vgTup, vFor, vAsg, vCall, vCallO, vCallL, vHold, swapIn, putBack, vRaise, gII, gIC, vFn, vChain, gTru, vpNone, vpSome, vSl, gSlL, gSlS, vIs, vFld, vMet, vMetK, vITup, vILst, vMtL, gAppend, vLc, vYes, vIRng1, vIEnumT, vIStr, vNeg, vFz, vMove, vLend, O.root, O.fz, O.toD, gEq, gNe, gIn, gCatL, gLen, gInt, gList, gTuple, vFPut, oPut, isTD, known7, noTD, eqOk, flat4, sameK, wipeE,  List.map_cons, List.map_nil, List.cons_append, List.nil_append, List.length_cons, List.length_nil, List.replicate_succ, List.replicate_zero, List.append_nil, List.getElem?_cons_zero, List.getElem?_cons_succ, List.getElem?_nil, List.set_cons_zero, List.set_cons_succ, List.set_nil, List.getD_cons_zero, List.getD_cons_succ, List.getD_nil, List.drop_zero, List.drop_succ_cons, List.take_succ_cons, List.take_zero, List.take_nil, Bool.true_and, Bool.and_true, Bool.false_and, Bool.and_false, Bool.or_true, Bool.or_false, Bool.true_or, Bool.false_or, Bool.not_true, Bool.not_false, if_true, if_false, ite_true, ite_false, true_and, and_true, eq_self_iff_true, Bool.false_eq_true, reduceIte, Nat.reduceSub, Nat.reduceAdd, reduceCtorEq, String.reduceBEq, beq_self_eq_true, true_or, or_true, false_or, or_false, false_and, and_false, decide_true, decide_false, Bool.not_not, mTake]
  refine gIx_lst (d := .str z4) rfl ?_
  simp only [mBody, vRet, vSet, vIfS, vNext, vDrop, vVar, vC, vOp, vBl, vNot, vAnd, vOr, vAndV, vOrV, vNotV, vIf, vANil, vACons, vONil, vOCons, vTup, vLst, vgSet, vgNil, vgCons, vgTup, vFor, vAsg, vCall, vCallO, vCallL, vHold, swapIn, putBack, vRaise, gII, gIC, vFn, vChain, gTru, vpNone, vpSome, vSl, gSlL, gSlS, vIs, vFld, vMet, vMetK, vITup, vILst, vMtL, gAppend, vLc, vYes, vIRng1, vIEnumT, vIStr, vNeg, vFz, vMove, vLend, O.root, O.fz, O.toD, gEq, gNe, gIn, gCatL, gLen, gInt, gList, gTuple, vFPut, oPut, isTD, known7, noTD, eqOk, flat4, sameK, wipeE,  List.map_cons, List.map_nil, List.cons_append, List.nil_append, List.length_cons, List.length_nil, List.replicate_succ, List.replicate_zero, List.append_nil, List.getElem?_cons_zero, List.getElem?_cons_succ, List.getElem?_nil, List.set_cons_zero, List.set_cons_succ, List.set_nil, List.getD_cons_zero, List.getD_cons_succ, List.getD_nil, List.drop_zero, List.drop_succ_cons, List.take_succ_cons, List.take_zero, List.take_nil, Bool.true_and, Bool.and_true, Bool.false_and, Bool.and_false, Bool.or_true, Bool.or_false, Bool.true_or, Bool.false_or, Bool.not_true, Bool.not_false, if_true, if_false, ite_true, ite_false, true_and, and_true, eq_self_iff_true, Bool.false_eq_true, reduceIte, Nat.reduceSub, Nat.reduceAdd, reduceCtorEq, String.reduceBEq, beq_self_eq_true, true_or, or_true, false_or, or_false, false_and, and_false, decide_true, decide_false, Bool.not_not]
  intro b7
  refine ⟨by decide, by decide, fun k7 k70 k71 => ?_⟩
  obtain ⟨c, hc, hcok⟩ : ∃ c : Option Str, atI [D.non, .str z4] k7 = some (Pt.dc ⟨z0, z1, op, cl, v, c, true⟩) ∧ ∀ z, c = some z → isNm z = true := by
    have : k7 = 0 ∨ k7 = 1 := by omega
    rcases this with rfl | rfl
    · exact ⟨none, rfl, fun ms e => by cases e⟩
    · exact ⟨some z4, rfl, fun z e => by injection e with e; rw [← e]; exact hnm z4 (by simp)⟩
  refine gIx_lst hc ?_
  refine hN _ ?_
  simp only [mBody, vRet, vSet, vIfS, vNext, vDrop, vVar, vC, vOp, vBl, vNot, vAnd, vOr, vAndV, vOrV, vNotV, vIf, vANil, vACons, vONil, vOCons, vTup, vLst, vgSet, vgNil, vgCons, vgTup, vFor, vAsg, vCall, vCallO, vCallL, vHold, swapIn, putBack, vRaise, gII, gIC, vFn, vChain, gTru, vpNone, vpSome, vSl, gSlL, gSlS, vIs, vFld, vMet, vMetK, vITup, vILst, vMtL, gAppend, vLc, vYes, vIRng1, vIEnumT, vIStr, vNeg, vFz, vMove, vLend, O.root, O.fz, O.toD, gEq, gNe, gIn, gCatL, gLen, gInt, gList, gTuple, vFPut, oPut, isTD, known7, noTD, eqOk, flat4, sameK, wipeE,  List.map_cons, List.map_nil, List.cons_append, List.nil_append, List.length_cons, List.length_nil, List.replicate_succ, List.replicate_zero, List.append_nil, List.getElem?_cons_zero, List.getElem?_cons_succ, List.getElem?_nil, List.set_cons_zero, List.set_cons_succ, List.set_nil, List.getD_cons_zero, List.getD_cons_succ, List.getD_nil, List.drop_zero, List.drop_succ_cons, List.take_succ_cons, List.take_zero, List.take_nil, Bool.true_and, Bool.and_true, Bool.false_and, Bool.and_false, Bool.or_true, Bool.or_false, Bool.true_or, Bool.false_or, Bool.not_true, Bool.not_false, if_true, if_false, ite_true, ite_false, true_and, and_true, eq_self_iff_true, Bool.false_eq_true, reduceIte, Nat.reduceSub, Nat.reduceAdd, reduceCtorEq, String.reduceBEq, beq_self_eq_true, true_or, or_true, false_or, or_false, false_and, and_false, decide_true, decide_false, Bool.not_not, mTake]
  refine gIx_lst (d := .str z0) rfl ?_
  simp only [mBody, vRet, vSet, vIfS, vNext, vDrop, vVar, vC, vOp, vBl, vNot, vAnd, vOr, vAndV, vOrV, vNotV, vIf, vANil, vACons, vONil, vOCons, vTup, vLst, vgSet, vgNil, vgCons, vgTup, vFor, vAsg, vCall, vCallO, vCallL, vHold, swapIn, putBack, vRaise, gII, gIC, vFn, vChain, gTru, vpNone, vpSome, vSl, gSlL, gSlS, vIs, vFld, vMet, vMetK, vITup, vILst, vMtL, gAppend, vLc, vYes, vIRng1, vIEnumT, vIStr, vNeg, vFz, vMove, vLend, O.root, O.fz, O.toD, gEq, gNe, gIn, gCatL, gLen, gInt, gList, gTuple, vFPut, oPut, isTD, known7, noTD, eqOk, flat4, sameK, wipeE,  List.map_cons, List.map_nil, List.cons_append, List.nil_append, List.length_cons, List.length_nil, List.replicate_succ, List.replicate_zero, List.append_nil, List.getElem?_cons_zero, List.getElem?_cons_succ, List.getElem?_nil, List.set_cons_zero, List.set_cons_succ, List.set_nil, List.getD_cons_zero, List.getD_cons_succ, List.getD_nil, List.drop_zero, List.drop_succ_cons, List.take_succ_cons, List.take_zero, List.take_nil, Bool.true_and, Bool.and_true, Bool.false_and, Bool.and_false, Bool.or_true, Bool.or_false, Bool.true_or, Bool.false_or, Bool.not_true, Bool.not_false, if_true, if_false, ite_true, ite_false, true_and, and_true, eq_self_iff_true, Bool.false_eq_true, reduceIte, Nat.reduceSub, Nat.reduceAdd, reduceCtorEq, String.reduceBEq, beq_self_eq_true, true_or, or_true, false_or, or_false, false_and, and_false, decide_true, decide_false, Bool.not_not]
  refine gIx_lst (d := .str z1) rfl ?_
  simp only [mBody, vRet, vSet, vIfS, vNext, vDrop, vVar, vC, vOp, vBl, vNot, vAnd, vOr, vAndV, vOrV, vNotV, vIf, vANil, vACons, vONil, vOCons, vTup, vLst, vgSet, vgNil, vgCons, vgTup, vFor, vAsg, vCall, vCallO, vCallL, vHold, swapIn, putBack, vRaise, gII, gIC, vFn, vChain, gTru, vpNone, vpSome, vSl, gSlL, gSlS, vIs, vFld, vMet, vMetK, vITup, vILst, vMtL, gAppend, vLc, vYes, vIRng1, vIEnumT, vIStr, vNeg, vFz, vMove, vLend, O.root, O.fz, O.toD, gEq, gNe, gIn, gCatL, gLen, gInt, gList, gTuple, vFPut, oPut, isTD, known7, noTD, eqOk, flat4, sameK, wipeE,  List.map_cons, List.map_nil, List.cons_append, List.nil_append, List.length_cons, List.length_nil, List.replicate_succ, List.replicate_zero, List.append_nil, List.getElem?_cons_zero, List.getElem?_cons_succ, List.getElem?_nil, List.set_cons_zero, List.set_cons_succ, List.set_nil, List.getD_cons_zero, List.getD_cons_succ, List.getD_nil, List.drop_zero, List.drop_succ_cons, List.take_succ_cons, List.take_zero, List.take_nil, Bool.true_and, Bool.and_true, Bool.false_and, Bool.and_false, Bool.or_true, Bool.or_false, Bool.true_or, Bool.false_or, Bool.not_true, Bool.not_false, if_true, if_false, ite_true, ite_false, true_and, and_true, eq_self_iff_true, Bool.false_eq_true, reduceIte, Nat.reduceSub, Nat.reduceAdd, reduceCtorEq, String.reduceBEq, beq_self_eq_true, true_or, or_true, false_or, or_false, false_and, and_false, decide_true, decide_false, Bool.not_not]
  refine ⟨by decide, by decide, fun k8 k80 k81 b8 => ?_⟩
  refine q b8 ⟨z0, z1, op, cl, v, c, eqD (.int k8) (.int 0)⟩ ⟨⟨hnm z0 (by simp), hnm z1 (by simp), o0, o1, by show 0 ≤ cl; omega, c1, hvok, hcok⟩, fun e => ?_, c0⟩
  have : z0 = z1 := e
  have := (List.nodup_cons.mp hnd).1
  simp_all
end
def oddL : List D := [.str "", .str "Ab", .str "abcdefghi", .non, .int 7, .bl true, .lst [.str "a"], .str "a1"]
def minL : List D := [.int (-1), .int 1441, .bl true, .str "5", .non, .int (10 ^ 20), .tup [.int 0]]
def viaL : List D := [.tup [], .str "ab", .lst [.str "a", .str "a"], .lst [.str "a", .str "B"], .lst [.non], .int 5, .bl true, .dic false []]
def trnL : List D := [.str "", .str "Ab", .str "abcdefghi", .int 7, .bl true, .lst [.str "a"]]
def brkL : List D := [.int 0, .int 1, .non, .str "yes", .lst [.bl true]]
theorem gd_str {z : Str} (h : z.length ≤ 100) : Gd (.str z) := ⟨rfl, rfl, fun y e => by injection e with e; rw [← e, sizeLine_eq]; omega⟩
theorem gd_lst {l : List D} : Gd (.lst l) := ⟨rfl, rfl, fun y e => by cases e⟩
theorem gd_tup {l : List D} : Gd (.tup l) := ⟨rfl, rfl, fun y e => by cases e⟩
theorem gd_dic {l : List (D × D)} : Gd (.dic false l) := ⟨rfl, rfl, fun y e => by cases e⟩
theorem gv_of {d : D} (g : Gd d) (h : ∀ ds, d ≠ .lst ds) : Gv d := ⟨g, fun ds e => absurd e (h ds)⟩
theorem atI_mem {α : Type} {L : List α} {r : Int} (h0 : 0 ≤ r) (h1 : r < L.length) : ∃ e ∈ L, atI L r = some e := by
  have hl : r.toNat < L.length := by omega
  exact ⟨L[r.toNat], List.getElem_mem hl, atI_int h0 (List.getElem?_eq_getElem hl)⟩
theorem odd_bad : ∀ e ∈ oddL, Gd e ∧ nmD e = false := fun e he => by
  have : e = .str "" ∨ e = .str "Ab" ∨ e = .str "abcdefghi" ∨ e = .non ∨ e = .int 7 ∨ e = .bl true ∨ e = .lst [.str "a"] ∨ e = .str "a1" := by simpa [oddL] using he
  rcases this with rfl | rfl | rfl | rfl | rfl | rfl | rfl | rfl
  · exact ⟨gd_str (by decide +kernel), by decide +kernel⟩
  · exact ⟨gd_str (by decide +kernel), by decide +kernel⟩
  · exact ⟨gd_str (by decide +kernel), by decide +kernel⟩
  · exact ⟨gd_non, rfl⟩
  · exact ⟨gd_int, rfl⟩
  · exact ⟨gd_bl, rfl⟩
  · exact ⟨gd_lst, rfl⟩
  · exact ⟨gd_str (by decide +kernel), by decide +kernel⟩
theorem min_bad : ∀ e ∈ minL, Gd e ∧ ∀ i : Int, 0 ≤ i → frD i 1440 e = false := fun e he => by
  have : e = .int (-1) ∨ e = .int 1441 ∨ e = .bl true ∨ e = .str "5" ∨ e = .non ∨ e = .int (10 ^ 20) ∨ e = .tup [.int 0] := by simpa [minL] using he
  rcases this with rfl | rfl | rfl | rfl | rfl | rfl | rfl
  · exact ⟨gd_int, fun i hi => by simp [frD]; omega⟩
  · exact ⟨gd_int, fun i hi => by simp [frD]⟩
  · exact ⟨gd_bl, fun i hi => rfl⟩
  · exact ⟨gd_str (by decide +kernel), fun i hi => rfl⟩
  · exact ⟨gd_non, fun i hi => rfl⟩
  · exact ⟨gd_int, fun i hi => by simp [frD]⟩
  · exact ⟨gd_tup, fun i hi => rfl⟩
theorem via_bad : ∀ e ∈ viaL, Gv e ∧ viaD e = false := fun e he => by
  have : e = .tup [] ∨ e = .str "ab" ∨ e = .lst [.str "a", .str "a"] ∨ e = .lst [.str "a", .str "B"] ∨ e = .lst [.non] ∨ e = .int 5 ∨ e = .bl true ∨ e = .dic false [] := by simpa [viaL] using he
  rcases this with rfl | rfl | rfl | rfl | rfl | rfl | rfl | rfl
  · exact ⟨gv_of gd_tup (by simp), rfl⟩
  · exact ⟨gv_of (gd_str (by decide +kernel)) (by simp), rfl⟩
  · refine ⟨⟨gd_lst, fun ds e => by injection e with e; subst e; exact ⟨Nat.le_of_ble_eq_true rfl, fun d hd => by
      have : d = .str "a" := by simpa using hd
      rw [this]; exact gd_str (by decide +kernel)⟩⟩, ?_⟩
    have : ¬ (uniq [D.str "a", D.str "a"]).length = [D.str "a", D.str "a"].length := fun h => by
      have := uniq_nodup.mp h
      simp at this
    show ([D.str "a", D.str "a"].all nmD && decide ((uniq [D.str "a", D.str "a"]).length = [D.str "a", D.str "a"].length)) = false
    rw [decide_eq_false this]; simp
  · refine ⟨⟨gd_lst, fun ds e => by injection e with e; subst e; exact ⟨Nat.le_of_ble_eq_true rfl, fun d hd => by
      have : d = .str "a" ∨ d = .str "B" := by simpa using hd
      rcases this with rfl | rfl <;> exact gd_str (by decide +kernel)⟩⟩, ?_⟩
    show ([D.str "a", D.str "B"].all nmD && decide ((uniq [D.str "a", D.str "B"]).length = [D.str "a", D.str "B"].length)) = false
    rw [show [D.str "a", D.str "B"].all nmD = false from by decide +kernel]; rfl
  · refine ⟨⟨gd_lst, fun ds e => by injection e with e; subst e; exact ⟨Nat.le_of_ble_eq_true rfl, fun d hd => by
      have : d = .non := by simpa using hd
      rw [this]; exact gd_non⟩⟩, ?_⟩
    show ([D.non].all nmD && decide ((uniq [D.non]).length = [D.non].length)) = false
    rfl
  · exact ⟨gv_of gd_int (by simp), rfl⟩
  · exact ⟨gv_of gd_bl (by simp), rfl⟩
  · exact ⟨gv_of gd_dic (by simp), rfl⟩
theorem trn_bad : ∀ e ∈ trnL, Gd e ∧ e ≠ .non ∧ nmD e = false := fun e he => by
  have : e = .str "" ∨ e = .str "Ab" ∨ e = .str "abcdefghi" ∨ e = .int 7 ∨ e = .bl true ∨ e = .lst [.str "a"] := by simpa [trnL] using he
  rcases this with rfl | rfl | rfl | rfl | rfl | rfl
  · exact ⟨gd_str (by decide +kernel), by simp, by decide +kernel⟩
  · exact ⟨gd_str (by decide +kernel), by simp, by decide +kernel⟩
  · exact ⟨gd_str (by decide +kernel), by simp, by decide +kernel⟩
  · exact ⟨gd_int, by simp, rfl⟩
  · exact ⟨gd_bl, by simp, rfl⟩
  · exact ⟨gd_lst, by simp, rfl⟩
theorem brk_bad : ∀ e ∈ brkL, Gd e ∧ isBD e = false := fun e he => by
  have : e = .int 0 ∨ e = .int 1 ∨ e = .non ∨ e = .str "yes" ∨ e = .lst [.bl true] := by simpa [brkL] using he
  rcases this with rfl | rfl | rfl | rfl | rfl
  · exact ⟨gd_int, rfl⟩
  · exact ⟨gd_int, rfl⟩
  · exact ⟨gd_non, rfl⟩
  · exact ⟨gd_str (by decide +kernel), rfl⟩
  · exact ⟨gd_lst, rfl⟩
/-- what a part is spoilt to -/
def Sp (a : Nat) (d0 e : D) : Prop := match a with
  | 0 => Gd e ∧ nmD e = false
  | 1 => Gd e ∧ (nmD e = false ∨ e = d0)
  | 2 => Gd e ∧ frD 0 1440 e = false
  | 3 => Gd e ∧ ∀ i : Int, 0 ≤ i → frD i 1440 e = false
  | 4 => Gv e ∧ viaD e = false
  | 5 => Gd e ∧ e ≠ .non ∧ nmD e = false
  | 6 => Gd e ∧ isBD e = false
  | _ => False
section
variable {d0 d1 d2 d3 d4 d5 d6 : D} {Q : O → List O → Prop} {x : XD}
theorem skip_if {t : VTS} {env : DE} {E : VX} {a k : Int} (h : env[2]? = some (.sh (.int a))) (ne : a ≠ k) (n : E.nx env) : vIfS (vBl (vOp gEq (vVar 2) (vC (.int k)))) t vNext env E := by
  simp only [vIfS, vBl, vOp, vVar, vC, h, O.fz, O.toD, gEq, eqD_int, decide_eq_false ne, Bool.false_eq_true, if_false, vNext]
  exact ⟨rfl, n⟩
theorem hit_if {t : VTS} {env : DE} {E : VX} {a : Int} (h : env[2]? = some (.sh (.int a))) (n : t env E) : vIfS (vBl (vOp gEq (vVar 2) (vC (.int a)))) t vNext env E := by
  simp only [vIfS, vBl, vOp, vVar, vC, h, O.fz, O.toD, gEq, eqD_int, decide_true, if_true]
  exact ⟨rfl, n⟩
theorem law_spoilt_V {s : Addr} {a : Nat} (ha : a ≤ 6) (g0 : Gd d0) (q : ∀ b e, Sp a d0 e → Q (.ol b ([d0, d1, d2, d3, d4, d5, d6].set a e)) [.src s]) : m__law_spoilt [.src s, .sh (.lst [d0, d1, d2, d3, d4, d5, d6]), .sh (.int a)] Q x := by
  unfold m__law_spoilt mBody
  refine vSeq_i fun N hN => ?_
  simp only [mBody, vRet, vSet, vIfS, vNext, vDrop, vVar, vC, vOp, vBl, vNot, vAnd, vOr, vAndV, vOrV, vNotV, vIf, vANil, vACons, vONil, vOCons, vTup, vLst, vgSet, vgNil, vgCons, vgTup, vFor, vAsg, vCall, vCallO, vCallL, vHold, swapIn, putBack, vRaise, gII, gIC, vFn, vChain, gTru, vpNone, vpSome, vSl, gSlL, gSlS, vIs, vFld, vMet, vMetK, vITup, vILst, vMtL, gAppend, vLc, vYes, vIRng1, vIEnumT, vIStr, vNeg, vFz, vMove, vLend, O.root, O.fz, O.toD, gEq, gNe, gIn, gCatL, gLen, gInt, gList, gTuple, vFPut, oPut, isTD, known7, noTD, eqOk, flat4, sameK, wipeE,  List.map_cons, List.map_nil, List.cons_append, List.nil_append, List.length_cons, List.length_nil, List.replicate_succ, List.replicate_zero, List.append_nil, List.getElem?_cons_zero, List.getElem?_cons_succ, List.getElem?_nil, List.set_cons_zero, List.set_cons_succ, List.set_nil, List.getD_cons_zero, List.getD_cons_succ, List.getD_nil, List.drop_zero, List.drop_succ_cons, List.take_succ_cons, List.take_zero, List.take_nil, Bool.true_and, Bool.and_true, Bool.false_and, Bool.and_false, Bool.or_true, Bool.or_false, Bool.true_or, Bool.false_or, Bool.not_true, Bool.not_false, if_true, if_false, ite_true, ite_false, true_and, and_true, eq_self_iff_true, Bool.false_eq_true, reduceIte, Nat.reduceSub, Nat.reduceAdd, reduceCtorEq, String.reduceBEq, beq_self_eq_true, true_or, or_true, false_or, or_false, false_and, and_false, decide_true, decide_false, Bool.not_not]
  intro b0 b1
  refine hN _ (vSeq_i fun N hN => ?_)
  simp only [mBody, vRet, vSet, vIfS, vNext, vDrop, vVar, vC, vOp, vBl, vNot, vAnd, vOr, vAndV, vOrV, vNotV, vIf, vANil, vACons, vONil, vOCons, vTup, vLst, vgSet, vgNil, vgCons, vgTup, vFor, vAsg, vCall, vCallO, vCallL, vHold, swapIn, putBack, vRaise, gII, gIC, vFn, vChain, gTru, vpNone, vpSome, vSl, gSlL, gSlS, vIs, vFld, vMet, vMetK, vITup, vILst, vMtL, gAppend, vLc, vYes, vIRng1, vIEnumT, vIStr, vNeg, vFz, vMove, vLend, O.root, O.fz, O.toD, gEq, gNe, gIn, gCatL, gLen, gInt, gList, gTuple, vFPut, oPut, isTD, known7, noTD, eqOk, flat4, sameK, wipeE,  List.map_cons, List.map_nil, List.cons_append, List.nil_append, List.length_cons, List.length_nil, List.replicate_succ, List.replicate_zero, List.append_nil, List.getElem?_cons_zero, List.getElem?_cons_succ, List.getElem?_nil, List.set_cons_zero, List.set_cons_succ, List.set_nil, List.getD_cons_zero, List.getD_cons_succ, List.getD_nil, List.drop_zero, List.drop_succ_cons, List.take_succ_cons, List.take_zero, List.take_nil, Bool.true_and, Bool.and_true, Bool.false_and, Bool.and_false, Bool.or_true, Bool.or_false, Bool.true_or, Bool.false_or, Bool.not_true, Bool.not_false, if_true, if_false, ite_true, ite_false, true_and, and_true, eq_self_iff_true, Bool.false_eq_true, reduceIte, Nat.reduceSub, Nat.reduceAdd, reduceCtorEq, String.reduceBEq, beq_self_eq_true, true_or, or_true, false_or, or_false, false_and, and_false, decide_true, decide_false, Bool.not_not]
  refine ⟨⟨by decide, by decide, by decide⟩, fun b2 => ?_⟩
  refine hN _ (vSeq_i fun N hN => ?_)
  simp only [mBody, vRet, vSet, vIfS, vNext, vDrop, vVar, vC, vOp, vBl, vNot, vAnd, vOr, vAndV, vOrV, vNotV, vIf, vANil, vACons, vONil, vOCons, vTup, vLst, vgSet, vgNil, vgCons, vgTup, vFor, vAsg, vCall, vCallO, vCallL, vHold, swapIn, putBack, vRaise, gII, gIC, vFn, vChain, gTru, vpNone, vpSome, vSl, gSlL, gSlS, vIs, vFld, vMet, vMetK, vITup, vILst, vMtL, gAppend, vLc, vYes, vIRng1, vIEnumT, vIStr, vNeg, vFz, vMove, vLend, O.root, O.fz, O.toD, gEq, gNe, gIn, gCatL, gLen, gInt, gList, gTuple, vFPut, oPut, isTD, known7, noTD, eqOk, flat4, sameK, wipeE,  List.map_cons, List.map_nil, List.cons_append, List.nil_append, List.length_cons, List.length_nil, List.replicate_succ, List.replicate_zero, List.append_nil, List.getElem?_cons_zero, List.getElem?_cons_succ, List.getElem?_nil, List.set_cons_zero, List.set_cons_succ, List.set_nil, List.getD_cons_zero, List.getD_cons_succ, List.getD_nil, List.drop_zero, List.drop_succ_cons, List.take_succ_cons, List.take_zero, List.take_nil, Bool.true_and, Bool.and_true, Bool.false_and, Bool.and_false, Bool.or_true, Bool.or_false, Bool.true_or, Bool.false_or, Bool.not_true, Bool.not_false, if_true, if_false, ite_true, ite_false, true_and, and_true, eq_self_iff_true, Bool.false_eq_true, reduceIte, Nat.reduceSub, Nat.reduceAdd, reduceCtorEq, String.reduceBEq, beq_self_eq_true, true_or, or_true, false_or, or_false, false_and, and_false, decide_true, decide_false, Bool.not_not, vDNew]
  intro b3 b4 b5 b6 b7
  refine hN _ (vSeq_i fun N hN => ?_)
  simp only [mBody, vRet, vSet, vIfS, vNext, vDrop, vVar, vC, vOp, vBl, vNot, vAnd, vOr, vAndV, vOrV, vNotV, vIf, vANil, vACons, vONil, vOCons, vTup, vLst, vgSet, vgNil, vgCons, vgTup, vFor, vAsg, vCall, vCallO, vCallL, vHold, swapIn, putBack, vRaise, gII, gIC, vFn, vChain, gTru, vpNone, vpSome, vSl, gSlL, gSlS, vIs, vFld, vMet, vMetK, vITup, vILst, vMtL, gAppend, vLc, vYes, vIRng1, vIEnumT, vIStr, vNeg, vFz, vMove, vLend, O.root, O.fz, O.toD, gEq, gNe, gIn, gCatL, gLen, gInt, gList, gTuple, vFPut, oPut, isTD, known7, noTD, eqOk, flat4, sameK, wipeE,  List.map_cons, List.map_nil, List.cons_append, List.nil_append, List.length_cons, List.length_nil, List.replicate_succ, List.replicate_zero, List.append_nil, List.getElem?_cons_zero, List.getElem?_cons_succ, List.getElem?_nil, List.set_cons_zero, List.set_cons_succ, List.set_nil, List.getD_cons_zero, List.getD_cons_succ, List.getD_nil, List.drop_zero, List.drop_succ_cons, List.take_succ_cons, List.take_zero, List.take_nil, Bool.true_and, Bool.and_true, Bool.false_and, Bool.and_false, Bool.or_true, Bool.or_false, Bool.true_or, Bool.false_or, Bool.not_true, Bool.not_false, if_true, if_false, ite_true, ite_false, true_and, and_true, eq_self_iff_true, Bool.false_eq_true, reduceIte, Nat.reduceSub, Nat.reduceAdd, reduceCtorEq, String.reduceBEq, beq_self_eq_true, true_or, or_true, false_or, or_false, false_and, and_false, decide_true, decide_false, Bool.not_not]
  intro b8
  have ha : a = 0 ∨ a = 1 ∨ a = 2 ∨ a = 3 ∨ a = 4 ∨ a = 5 ∨ a = 6 := by omega
  rcases ha with rfl | rfl | rfl | rfl | rfl | rfl | rfl
  · -- 0
    refine hN _ (vSeq_i fun N hN => hit_if rfl ?_)
    simp only [mBody, vRet, vSet, vIfS, vNext, vDrop, vVar, vC, vOp, vBl, vNot, vAnd, vOr, vAndV, vOrV, vNotV, vIf, vANil, vACons, vONil, vOCons, vTup, vLst, vgSet, vgNil, vgCons, vgTup, vFor, vAsg, vCall, vCallO, vCallL, vHold, swapIn, putBack, vRaise, gII, gIC, vFn, vChain, gTru, vpNone, vpSome, vSl, gSlL, gSlS, vIs, vFld, vMet, vMetK, vITup, vILst, vMtL, gAppend, vLc, vYes, vIRng1, vIEnumT, vIStr, vNeg, vFz, vMove, vLend, O.root, O.fz, O.toD, gEq, gNe, gIn, gCatL, gLen, gInt, gList, gTuple, vFPut, oPut, isTD, known7, noTD, eqOk, flat4, sameK, wipeE,  List.map_cons, List.map_nil, List.cons_append, List.nil_append, List.length_cons, List.length_nil, List.replicate_succ, List.replicate_zero, List.append_nil, List.getElem?_cons_zero, List.getElem?_cons_succ, List.getElem?_nil, List.set_cons_zero, List.set_cons_succ, List.set_nil, List.getD_cons_zero, List.getD_cons_succ, List.getD_nil, List.drop_zero, List.drop_succ_cons, List.take_succ_cons, List.take_zero, List.take_nil, Bool.true_and, Bool.and_true, Bool.false_and, Bool.and_false, Bool.or_true, Bool.or_false, Bool.true_or, Bool.false_or, Bool.not_true, Bool.not_false, if_true, if_false, ite_true, ite_false, true_and, and_true, eq_self_iff_true, Bool.false_eq_true, reduceIte, Nat.reduceSub, Nat.reduceAdd, reduceCtorEq, String.reduceBEq, beq_self_eq_true, true_or, or_true, false_or, or_false, false_and, and_false, decide_true, decide_false, Bool.not_not, mTake, vIxL]
    refine ⟨by decide, by decide, fun r r0 r1 => ?_⟩
    obtain ⟨e, he, hat⟩ := atI_mem (L := oddL) r0 r1
    have sp : Sp 0 d0 e := odd_bad e he
    refine gIx_lst hat ?_
    simp only [mBody, vRet, vSet, vIfS, vNext, vDrop, vVar, vC, vOp, vBl, vNot, vAnd, vOr, vAndV, vOrV, vNotV, vIf, vANil, vACons, vONil, vOCons, vTup, vLst, vgSet, vgNil, vgCons, vgTup, vFor, vAsg, vCall, vCallO, vCallL, vHold, swapIn, putBack, vRaise, gII, gIC, vFn, vChain, gTru, vpNone, vpSome, vSl, gSlL, gSlS, vIs, vFld, vMet, vMetK, vITup, vILst, vMtL, gAppend, vLc, vYes, vIRng1, vIEnumT, vIStr, vNeg, vFz, vMove, vLend, O.root, O.fz, O.toD, gEq, gNe, gIn, gCatL, gLen, gInt, gList, gTuple, vFPut, oPut, isTD, known7, noTD, eqOk, flat4, sameK, wipeE,  List.map_cons, List.map_nil, List.cons_append, List.nil_append, List.length_cons, List.length_nil, List.replicate_succ, List.replicate_zero, List.append_nil, List.getElem?_cons_zero, List.getElem?_cons_succ, List.getElem?_nil, List.set_cons_zero, List.set_cons_succ, List.set_nil, List.getD_cons_zero, List.getD_cons_succ, List.getD_nil, List.drop_zero, List.drop_succ_cons, List.take_succ_cons, List.take_zero, List.take_nil, Bool.true_and, Bool.and_true, Bool.false_and, Bool.and_false, Bool.or_true, Bool.or_false, Bool.true_or, Bool.false_or, Bool.not_true, Bool.not_false, if_true, if_false, ite_true, ite_false, true_and, and_true, eq_self_iff_true, Bool.false_eq_true, reduceIte, Nat.reduceSub, Nat.reduceAdd, reduceCtorEq, String.reduceBEq, beq_self_eq_true, true_or, or_true, false_or, or_false, false_and, and_false, decide_true, decide_false, Bool.not_not, vgLPut]
    refine ⟨0, rfl, ?_⟩
    refine hN _ (vSeq_i fun N hN => skip_if rfl (by decide) ?_)
    refine hN _ (vSeq_i fun N hN => skip_if rfl (by decide) ?_)
    refine hN _ (vSeq_i fun N hN => skip_if rfl (by decide) ?_)
    refine hN _ (vSeq_i fun N hN => skip_if rfl (by decide) ?_)
    refine hN _ (vSeq_i fun N hN => skip_if rfl (by decide) ?_)
    refine hN _ (vSeq_i fun N hN => skip_if rfl (by decide) ?_)
    refine hN _ ?_
    simp only [mBody, vRet, vSet, vIfS, vNext, vDrop, vVar, vC, vOp, vBl, vNot, vAnd, vOr, vAndV, vOrV, vNotV, vIf, vANil, vACons, vONil, vOCons, vTup, vLst, vgSet, vgNil, vgCons, vgTup, vFor, vAsg, vCall, vCallO, vCallL, vHold, swapIn, putBack, vRaise, gII, gIC, vFn, vChain, gTru, vpNone, vpSome, vSl, gSlL, gSlS, vIs, vFld, vMet, vMetK, vITup, vILst, vMtL, gAppend, vLc, vYes, vIRng1, vIEnumT, vIStr, vNeg, vFz, vMove, vLend, O.root, O.fz, O.toD, gEq, gNe, gIn, gCatL, gLen, gInt, gList, gTuple, vFPut, oPut, isTD, known7, noTD, eqOk, flat4, sameK, wipeE,  List.map_cons, List.map_nil, List.cons_append, List.nil_append, List.length_cons, List.length_nil, List.replicate_succ, List.replicate_zero, List.append_nil, List.getElem?_cons_zero, List.getElem?_cons_succ, List.getElem?_nil, List.set_cons_zero, List.set_cons_succ, List.set_nil, List.getD_cons_zero, List.getD_cons_succ, List.getD_nil, List.drop_zero, List.drop_succ_cons, List.take_succ_cons, List.take_zero, List.take_nil, Bool.true_and, Bool.and_true, Bool.false_and, Bool.and_false, Bool.or_true, Bool.or_false, Bool.true_or, Bool.false_or, Bool.not_true, Bool.not_false, if_true, if_false, ite_true, ite_false, true_and, and_true, eq_self_iff_true, Bool.false_eq_true, reduceIte, Nat.reduceSub, Nat.reduceAdd, reduceCtorEq, String.reduceBEq, beq_self_eq_true, true_or, or_true, false_or, or_false, false_and, and_false, decide_true, decide_false, Bool.not_not]
    exact q _ e sp
  · -- 1
    refine hN _ (vSeq_i fun N hN => skip_if rfl (by decide) ?_)
    refine hN _ (vSeq_i fun N hN => hit_if rfl ?_)
    simp only [mBody, vRet, vSet, vIfS, vNext, vDrop, vVar, vC, vOp, vBl, vNot, vAnd, vOr, vAndV, vOrV, vNotV, vIf, vANil, vACons, vONil, vOCons, vTup, vLst, vgSet, vgNil, vgCons, vgTup, vFor, vAsg, vCall, vCallO, vCallL, vHold, swapIn, putBack, vRaise, gII, gIC, vFn, vChain, gTru, vpNone, vpSome, vSl, gSlL, gSlS, vIs, vFld, vMet, vMetK, vITup, vILst, vMtL, gAppend, vLc, vYes, vIRng1, vIEnumT, vIStr, vNeg, vFz, vMove, vLend, O.root, O.fz, O.toD, gEq, gNe, gIn, gCatL, gLen, gInt, gList, gTuple, vFPut, oPut, isTD, known7, noTD, eqOk, flat4, sameK, wipeE,  List.map_cons, List.map_nil, List.cons_append, List.nil_append, List.length_cons, List.length_nil, List.replicate_succ, List.replicate_zero, List.append_nil, List.getElem?_cons_zero, List.getElem?_cons_succ, List.getElem?_nil, List.set_cons_zero, List.set_cons_succ, List.set_nil, List.getD_cons_zero, List.getD_cons_succ, List.getD_nil, List.drop_zero, List.drop_succ_cons, List.take_succ_cons, List.take_zero, List.take_nil, Bool.true_and, Bool.and_true, Bool.false_and, Bool.and_false, Bool.or_true, Bool.or_false, Bool.true_or, Bool.false_or, Bool.not_true, Bool.not_false, if_true, if_false, ite_true, ite_false, true_and, and_true, eq_self_iff_true, Bool.false_eq_true, reduceIte, Nat.reduceSub, Nat.reduceAdd, reduceCtorEq, String.reduceBEq, beq_self_eq_true, true_or, or_true, false_or, or_false, false_and, and_false, decide_true, decide_false, Bool.not_not, mTake, vIxL]
    rw [show atI [d0, d1, d2, d3, d4, d5, d6] 0 = some d0 from rfl]
    dsimp only
    intro b9
    refine ⟨by rw [sizeLine_eq]; decide, fun b10 => ⟨by decide, by decide, fun r r0 r1 => ?_⟩⟩
    obtain ⟨e, he, hat⟩ := atI_mem (L := oddL ++ [d0]) r0 r1
    have sp : Sp 1 d0 e := by
      rcases List.mem_append.mp he with he | he
      · exact ⟨(odd_bad e he).1, .inl (odd_bad e he).2⟩
      · have : e = d0 := by simpa using he
        exact ⟨by rw [this]; exact g0, .inr this⟩
    refine gIx_lst hat ?_
    simp only [mBody, vRet, vSet, vIfS, vNext, vDrop, vVar, vC, vOp, vBl, vNot, vAnd, vOr, vAndV, vOrV, vNotV, vIf, vANil, vACons, vONil, vOCons, vTup, vLst, vgSet, vgNil, vgCons, vgTup, vFor, vAsg, vCall, vCallO, vCallL, vHold, swapIn, putBack, vRaise, gII, gIC, vFn, vChain, gTru, vpNone, vpSome, vSl, gSlL, gSlS, vIs, vFld, vMet, vMetK, vITup, vILst, vMtL, gAppend, vLc, vYes, vIRng1, vIEnumT, vIStr, vNeg, vFz, vMove, vLend, O.root, O.fz, O.toD, gEq, gNe, gIn, gCatL, gLen, gInt, gList, gTuple, vFPut, oPut, isTD, known7, noTD, eqOk, flat4, sameK, wipeE,  List.map_cons, List.map_nil, List.cons_append, List.nil_append, List.length_cons, List.length_nil, List.replicate_succ, List.replicate_zero, List.append_nil, List.getElem?_cons_zero, List.getElem?_cons_succ, List.getElem?_nil, List.set_cons_zero, List.set_cons_succ, List.set_nil, List.getD_cons_zero, List.getD_cons_succ, List.getD_nil, List.drop_zero, List.drop_succ_cons, List.take_succ_cons, List.take_zero, List.take_nil, Bool.true_and, Bool.and_true, Bool.false_and, Bool.and_false, Bool.or_true, Bool.or_false, Bool.true_or, Bool.false_or, Bool.not_true, Bool.not_false, if_true, if_false, ite_true, ite_false, true_and, and_true, eq_self_iff_true, Bool.false_eq_true, reduceIte, Nat.reduceSub, Nat.reduceAdd, reduceCtorEq, String.reduceBEq, beq_self_eq_true, true_or, or_true, false_or, or_false, false_and, and_false, decide_true, decide_false, Bool.not_not, vgLPut]
    refine ⟨1, rfl, ?_⟩
    refine hN _ (vSeq_i fun N hN => skip_if rfl (by decide) ?_)
    refine hN _ (vSeq_i fun N hN => skip_if rfl (by decide) ?_)
    refine hN _ (vSeq_i fun N hN => skip_if rfl (by decide) ?_)
    refine hN _ (vSeq_i fun N hN => skip_if rfl (by decide) ?_)
    refine hN _ (vSeq_i fun N hN => skip_if rfl (by decide) ?_)
    refine hN _ ?_
    simp only [mBody, vRet, vSet, vIfS, vNext, vDrop, vVar, vC, vOp, vBl, vNot, vAnd, vOr, vAndV, vOrV, vNotV, vIf, vANil, vACons, vONil, vOCons, vTup, vLst, vgSet, vgNil, vgCons, vgTup, vFor, vAsg, vCall, vCallO, vCallL, vHold, swapIn, putBack, vRaise, gII, gIC, vFn, vChain, gTru, vpNone, vpSome, vSl, gSlL, gSlS, vIs, vFld, vMet, vMetK, vITup, vILst, vMtL, gAppend, vLc, vYes, vIRng1, vIEnumT, vIStr, vNeg, vFz, vMove, vLend, O.root, O.fz, O.toD, gEq, gNe, gIn, gCatL, gLen, gInt, gList, gTuple, vFPut, oPut, isTD, known7, noTD, eqOk, flat4, sameK, wipeE,  List.map_cons, List.map_nil, List.cons_append, List.nil_append, List.length_cons, List.length_nil, List.replicate_succ, List.replicate_zero, List.append_nil, List.getElem?_cons_zero, List.getElem?_cons_succ, List.getElem?_nil, List.set_cons_zero, List.set_cons_succ, List.set_nil, List.getD_cons_zero, List.getD_cons_succ, List.getD_nil, List.drop_zero, List.drop_succ_cons, List.take_succ_cons, List.take_zero, List.take_nil, Bool.true_and, Bool.and_true, Bool.false_and, Bool.and_false, Bool.or_true, Bool.or_false, Bool.true_or, Bool.false_or, Bool.not_true, Bool.not_false, if_true, if_false, ite_true, ite_false, true_and, and_true, eq_self_iff_true, Bool.false_eq_true, reduceIte, Nat.reduceSub, Nat.reduceAdd, reduceCtorEq, String.reduceBEq, beq_self_eq_true, true_or, or_true, false_or, or_false, false_and, and_false, decide_true, decide_false, Bool.not_not]
    exact q _ e sp
  · -- 2
    refine hN _ (vSeq_i fun N hN => skip_if rfl (by decide) ?_)
    refine hN _ (vSeq_i fun N hN => skip_if rfl (by decide) ?_)
    refine hN _ (vSeq_i fun N hN => hit_if rfl ?_)
    simp only [mBody, vRet, vSet, vIfS, vNext, vDrop, vVar, vC, vOp, vBl, vNot, vAnd, vOr, vAndV, vOrV, vNotV, vIf, vANil, vACons, vONil, vOCons, vTup, vLst, vgSet, vgNil, vgCons, vgTup, vFor, vAsg, vCall, vCallO, vCallL, vHold, swapIn, putBack, vRaise, gII, gIC, vFn, vChain, gTru, vpNone, vpSome, vSl, gSlL, gSlS, vIs, vFld, vMet, vMetK, vITup, vILst, vMtL, gAppend, vLc, vYes, vIRng1, vIEnumT, vIStr, vNeg, vFz, vMove, vLend, O.root, O.fz, O.toD, gEq, gNe, gIn, gCatL, gLen, gInt, gList, gTuple, vFPut, oPut, isTD, known7, noTD, eqOk, flat4, sameK, wipeE,  List.map_cons, List.map_nil, List.cons_append, List.nil_append, List.length_cons, List.length_nil, List.replicate_succ, List.replicate_zero, List.append_nil, List.getElem?_cons_zero, List.getElem?_cons_succ, List.getElem?_nil, List.set_cons_zero, List.set_cons_succ, List.set_nil, List.getD_cons_zero, List.getD_cons_succ, List.getD_nil, List.drop_zero, List.drop_succ_cons, List.take_succ_cons, List.take_zero, List.take_nil, Bool.true_and, Bool.and_true, Bool.false_and, Bool.and_false, Bool.or_true, Bool.or_false, Bool.true_or, Bool.false_or, Bool.not_true, Bool.not_false, if_true, if_false, ite_true, ite_false, true_and, and_true, eq_self_iff_true, Bool.false_eq_true, reduceIte, Nat.reduceSub, Nat.reduceAdd, reduceCtorEq, String.reduceBEq, beq_self_eq_true, true_or, or_true, false_or, or_false, false_and, and_false, decide_true, decide_false, Bool.not_not, mTake, vIxL]
    refine ⟨by decide, by decide, fun r r0 r1 => ?_⟩
    obtain ⟨e, he, hat⟩ := atI_mem (L := minL) r0 r1
    have sp : Sp 2 d0 e := ⟨(min_bad e he).1, (min_bad e he).2 0 (by decide)⟩
    refine gIx_lst hat ?_
    simp only [mBody, vRet, vSet, vIfS, vNext, vDrop, vVar, vC, vOp, vBl, vNot, vAnd, vOr, vAndV, vOrV, vNotV, vIf, vANil, vACons, vONil, vOCons, vTup, vLst, vgSet, vgNil, vgCons, vgTup, vFor, vAsg, vCall, vCallO, vCallL, vHold, swapIn, putBack, vRaise, gII, gIC, vFn, vChain, gTru, vpNone, vpSome, vSl, gSlL, gSlS, vIs, vFld, vMet, vMetK, vITup, vILst, vMtL, gAppend, vLc, vYes, vIRng1, vIEnumT, vIStr, vNeg, vFz, vMove, vLend, O.root, O.fz, O.toD, gEq, gNe, gIn, gCatL, gLen, gInt, gList, gTuple, vFPut, oPut, isTD, known7, noTD, eqOk, flat4, sameK, wipeE,  List.map_cons, List.map_nil, List.cons_append, List.nil_append, List.length_cons, List.length_nil, List.replicate_succ, List.replicate_zero, List.append_nil, List.getElem?_cons_zero, List.getElem?_cons_succ, List.getElem?_nil, List.set_cons_zero, List.set_cons_succ, List.set_nil, List.getD_cons_zero, List.getD_cons_succ, List.getD_nil, List.drop_zero, List.drop_succ_cons, List.take_succ_cons, List.take_zero, List.take_nil, Bool.true_and, Bool.and_true, Bool.false_and, Bool.and_false, Bool.or_true, Bool.or_false, Bool.true_or, Bool.false_or, Bool.not_true, Bool.not_false, if_true, if_false, ite_true, ite_false, true_and, and_true, eq_self_iff_true, Bool.false_eq_true, reduceIte, Nat.reduceSub, Nat.reduceAdd, reduceCtorEq, String.reduceBEq, beq_self_eq_true, true_or, or_true, false_or, or_false, false_and, and_false, decide_true, decide_false, Bool.not_not, vgLPut]
    refine ⟨2, rfl, ?_⟩
    refine hN _ (vSeq_i fun N hN => skip_if rfl (by decide) ?_)
    refine hN _ (vSeq_i fun N hN => skip_if rfl (by decide) ?_)
    refine hN _ (vSeq_i fun N hN => skip_if rfl (by decide) ?_)
    refine hN _ (vSeq_i fun N hN => skip_if rfl (by decide) ?_)
    refine hN _ ?_
    simp only [mBody, vRet, vSet, vIfS, vNext, vDrop, vVar, vC, vOp, vBl, vNot, vAnd, vOr, vAndV, vOrV, vNotV, vIf, vANil, vACons, vONil, vOCons, vTup, vLst, vgSet, vgNil, vgCons, vgTup, vFor, vAsg, vCall, vCallO, vCallL, vHold, swapIn, putBack, vRaise, gII, gIC, vFn, vChain, gTru, vpNone, vpSome, vSl, gSlL, gSlS, vIs, vFld, vMet, vMetK, vITup, vILst, vMtL, gAppend, vLc, vYes, vIRng1, vIEnumT, vIStr, vNeg, vFz, vMove, vLend, O.root, O.fz, O.toD, gEq, gNe, gIn, gCatL, gLen, gInt, gList, gTuple, vFPut, oPut, isTD, known7, noTD, eqOk, flat4, sameK, wipeE,  List.map_cons, List.map_nil, List.cons_append, List.nil_append, List.length_cons, List.length_nil, List.replicate_succ, List.replicate_zero, List.append_nil, List.getElem?_cons_zero, List.getElem?_cons_succ, List.getElem?_nil, List.set_cons_zero, List.set_cons_succ, List.set_nil, List.getD_cons_zero, List.getD_cons_succ, List.getD_nil, List.drop_zero, List.drop_succ_cons, List.take_succ_cons, List.take_zero, List.take_nil, Bool.true_and, Bool.and_true, Bool.false_and, Bool.and_false, Bool.or_true, Bool.or_false, Bool.true_or, Bool.false_or, Bool.not_true, Bool.not_false, if_true, if_false, ite_true, ite_false, true_and, and_true, eq_self_iff_true, Bool.false_eq_true, reduceIte, Nat.reduceSub, Nat.reduceAdd, reduceCtorEq, String.reduceBEq, beq_self_eq_true, true_or, or_true, false_or, or_false, false_and, and_false, decide_true, decide_false, Bool.not_not]
    exact q _ e sp
  · -- 3
    refine hN _ (vSeq_i fun N hN => skip_if rfl (by decide) ?_)
    refine hN _ (vSeq_i fun N hN => skip_if rfl (by decide) ?_)
    refine hN _ (vSeq_i fun N hN => skip_if rfl (by decide) ?_)
    refine hN _ (vSeq_i fun N hN => hit_if rfl ?_)
    simp only [mBody, vRet, vSet, vIfS, vNext, vDrop, vVar, vC, vOp, vBl, vNot, vAnd, vOr, vAndV, vOrV, vNotV, vIf, vANil, vACons, vONil, vOCons, vTup, vLst, vgSet, vgNil, vgCons, vgTup, vFor, vAsg, vCall, vCallO, vCallL, vHold, swapIn, putBack, vRaise, gII, gIC, vFn, vChain, gTru, vpNone, vpSome, vSl, gSlL, gSlS, vIs, vFld, vMet, vMetK, vITup, vILst, vMtL, gAppend, vLc, vYes, vIRng1, vIEnumT, vIStr, vNeg, vFz, vMove, vLend, O.root, O.fz, O.toD, gEq, gNe, gIn, gCatL, gLen, gInt, gList, gTuple, vFPut, oPut, isTD, known7, noTD, eqOk, flat4, sameK, wipeE,  List.map_cons, List.map_nil, List.cons_append, List.nil_append, List.length_cons, List.length_nil, List.replicate_succ, List.replicate_zero, List.append_nil, List.getElem?_cons_zero, List.getElem?_cons_succ, List.getElem?_nil, List.set_cons_zero, List.set_cons_succ, List.set_nil, List.getD_cons_zero, List.getD_cons_succ, List.getD_nil, List.drop_zero, List.drop_succ_cons, List.take_succ_cons, List.take_zero, List.take_nil, Bool.true_and, Bool.and_true, Bool.false_and, Bool.and_false, Bool.or_true, Bool.or_false, Bool.true_or, Bool.false_or, Bool.not_true, Bool.not_false, if_true, if_false, ite_true, ite_false, true_and, and_true, eq_self_iff_true, Bool.false_eq_true, reduceIte, Nat.reduceSub, Nat.reduceAdd, reduceCtorEq, String.reduceBEq, beq_self_eq_true, true_or, or_true, false_or, or_false, false_and, and_false, decide_true, decide_false, Bool.not_not, mTake, vIxL]
    rw [show atI [d0, d1, d2, d3, d4, d5, d6] 2 = some d2 from rfl]
    dsimp only
    intro b9 b10
    refine ⟨by rw [sizeLine_eq]; decide, fun b11 => ⟨by decide, by decide, fun r r0 r1 => ?_⟩⟩
    obtain ⟨e, he, hat⟩ := atI_mem (L := minL ++ ([.lst [d2], .int (-5)] : List D)) r0 r1
    have sp : Sp 3 d0 e := by
      rcases List.mem_append.mp he with he | he
      · exact min_bad e he
      · have : e = .lst [d2] ∨ e = .int (-5) := by simpa using he
        rcases this with rfl | rfl
        · exact ⟨gd_lst, fun i hi => rfl⟩
        · exact ⟨gd_int, fun i hi => by simp [frD]; omega⟩
    refine gIx_lst hat ?_
    simp only [mBody, vRet, vSet, vIfS, vNext, vDrop, vVar, vC, vOp, vBl, vNot, vAnd, vOr, vAndV, vOrV, vNotV, vIf, vANil, vACons, vONil, vOCons, vTup, vLst, vgSet, vgNil, vgCons, vgTup, vFor, vAsg, vCall, vCallO, vCallL, vHold, swapIn, putBack, vRaise, gII, gIC, vFn, vChain, gTru, vpNone, vpSome, vSl, gSlL, gSlS, vIs, vFld, vMet, vMetK, vITup, vILst, vMtL, gAppend, vLc, vYes, vIRng1, vIEnumT, vIStr, vNeg, vFz, vMove, vLend, O.root, O.fz, O.toD, gEq, gNe, gIn, gCatL, gLen, gInt, gList, gTuple, vFPut, oPut, isTD, known7, noTD, eqOk, flat4, sameK, wipeE,  List.map_cons, List.map_nil, List.cons_append, List.nil_append, List.length_cons, List.length_nil, List.replicate_succ, List.replicate_zero, List.append_nil, List.getElem?_cons_zero, List.getElem?_cons_succ, List.getElem?_nil, List.set_cons_zero, List.set_cons_succ, List.set_nil, List.getD_cons_zero, List.getD_cons_succ, List.getD_nil, List.drop_zero, List.drop_succ_cons, List.take_succ_cons, List.take_zero, List.take_nil, Bool.true_and, Bool.and_true, Bool.false_and, Bool.and_false, Bool.or_true, Bool.or_false, Bool.true_or, Bool.false_or, Bool.not_true, Bool.not_false, if_true, if_false, ite_true, ite_false, true_and, and_true, eq_self_iff_true, Bool.false_eq_true, reduceIte, Nat.reduceSub, Nat.reduceAdd, reduceCtorEq, String.reduceBEq, beq_self_eq_true, true_or, or_true, false_or, or_false, false_and, and_false, decide_true, decide_false, Bool.not_not, vgLPut]
    refine ⟨3, rfl, ?_⟩
    refine hN _ (vSeq_i fun N hN => skip_if rfl (by decide) ?_)
    refine hN _ (vSeq_i fun N hN => skip_if rfl (by decide) ?_)
    refine hN _ (vSeq_i fun N hN => skip_if rfl (by decide) ?_)
    refine hN _ ?_
    simp only [mBody, vRet, vSet, vIfS, vNext, vDrop, vVar, vC, vOp, vBl, vNot, vAnd, vOr, vAndV, vOrV, vNotV, vIf, vANil, vACons, vONil, vOCons, vTup, vLst, vgSet, vgNil, vgCons, vgTup, vFor, vAsg, vCall, vCallO, vCallL, vHold, swapIn, putBack, vRaise, gII, gIC, vFn, vChain, gTru, vpNone, vpSome, vSl, gSlL, gSlS, vIs, vFld, vMet, vMetK, vITup, vILst, vMtL, gAppend, vLc, vYes, vIRng1, vIEnumT, vIStr, vNeg, vFz, vMove, vLend, O.root, O.fz, O.toD, gEq, gNe, gIn, gCatL, gLen, gInt, gList, gTuple, vFPut, oPut, isTD, known7, noTD, eqOk, flat4, sameK, wipeE,  List.map_cons, List.map_nil, List.cons_append, List.nil_append, List.length_cons, List.length_nil, List.replicate_succ, List.replicate_zero, List.append_nil, List.getElem?_cons_zero, List.getElem?_cons_succ, List.getElem?_nil, List.set_cons_zero, List.set_cons_succ, List.set_nil, List.getD_cons_zero, List.getD_cons_succ, List.getD_nil, List.drop_zero, List.drop_succ_cons, List.take_succ_cons, List.take_zero, List.take_nil, Bool.true_and, Bool.and_true, Bool.false_and, Bool.and_false, Bool.or_true, Bool.or_false, Bool.true_or, Bool.false_or, Bool.not_true, Bool.not_false, if_true, if_false, ite_true, ite_false, true_and, and_true, eq_self_iff_true, Bool.false_eq_true, reduceIte, Nat.reduceSub, Nat.reduceAdd, reduceCtorEq, String.reduceBEq, beq_self_eq_true, true_or, or_true, false_or, or_false, false_and, and_false, decide_true, decide_false, Bool.not_not]
    exact q _ e sp
  · -- 4
    refine hN _ (vSeq_i fun N hN => skip_if rfl (by decide) ?_)
    refine hN _ (vSeq_i fun N hN => skip_if rfl (by decide) ?_)
    refine hN _ (vSeq_i fun N hN => skip_if rfl (by decide) ?_)
    refine hN _ (vSeq_i fun N hN => skip_if rfl (by decide) ?_)
    refine hN _ (vSeq_i fun N hN => hit_if rfl ?_)
    simp only [mBody, vRet, vSet, vIfS, vNext, vDrop, vVar, vC, vOp, vBl, vNot, vAnd, vOr, vAndV, vOrV, vNotV, vIf, vANil, vACons, vONil, vOCons, vTup, vLst, vgSet, vgNil, vgCons, vgTup, vFor, vAsg, vCall, vCallO, vCallL, vHold, swapIn, putBack, vRaise, gII, gIC, vFn, vChain, gTru, vpNone, vpSome, vSl, gSlL, gSlS, vIs, vFld, vMet, vMetK, vITup, vILst, vMtL, gAppend, vLc, vYes, vIRng1, vIEnumT, vIStr, vNeg, vFz, vMove, vLend, O.root, O.fz, O.toD, gEq, gNe, gIn, gCatL, gLen, gInt, gList, gTuple, vFPut, oPut, isTD, known7, noTD, eqOk, flat4, sameK, wipeE,  List.map_cons, List.map_nil, List.cons_append, List.nil_append, List.length_cons, List.length_nil, List.replicate_succ, List.replicate_zero, List.append_nil, List.getElem?_cons_zero, List.getElem?_cons_succ, List.getElem?_nil, List.set_cons_zero, List.set_cons_succ, List.set_nil, List.getD_cons_zero, List.getD_cons_succ, List.getD_nil, List.drop_zero, List.drop_succ_cons, List.take_succ_cons, List.take_zero, List.take_nil, Bool.true_and, Bool.and_true, Bool.false_and, Bool.and_false, Bool.or_true, Bool.or_false, Bool.true_or, Bool.false_or, Bool.not_true, Bool.not_false, if_true, if_false, ite_true, ite_false, true_and, and_true, eq_self_iff_true, Bool.false_eq_true, reduceIte, Nat.reduceSub, Nat.reduceAdd, reduceCtorEq, String.reduceBEq, beq_self_eq_true, true_or, or_true, false_or, or_false, false_and, and_false, decide_true, decide_false, Bool.not_not, mTake, vIxL]
    refine ⟨by decide, by decide, fun r r0 r1 => ?_⟩
    obtain ⟨e, he, hat⟩ := atI_mem (L := viaL) r0 r1
    have sp : Sp 4 d0 e := via_bad e he
    refine gIx_lst hat ?_
    simp only [mBody, vRet, vSet, vIfS, vNext, vDrop, vVar, vC, vOp, vBl, vNot, vAnd, vOr, vAndV, vOrV, vNotV, vIf, vANil, vACons, vONil, vOCons, vTup, vLst, vgSet, vgNil, vgCons, vgTup, vFor, vAsg, vCall, vCallO, vCallL, vHold, swapIn, putBack, vRaise, gII, gIC, vFn, vChain, gTru, vpNone, vpSome, vSl, gSlL, gSlS, vIs, vFld, vMet, vMetK, vITup, vILst, vMtL, gAppend, vLc, vYes, vIRng1, vIEnumT, vIStr, vNeg, vFz, vMove, vLend, O.root, O.fz, O.toD, gEq, gNe, gIn, gCatL, gLen, gInt, gList, gTuple, vFPut, oPut, isTD, known7, noTD, eqOk, flat4, sameK, wipeE,  List.map_cons, List.map_nil, List.cons_append, List.nil_append, List.length_cons, List.length_nil, List.replicate_succ, List.replicate_zero, List.append_nil, List.getElem?_cons_zero, List.getElem?_cons_succ, List.getElem?_nil, List.set_cons_zero, List.set_cons_succ, List.set_nil, List.getD_cons_zero, List.getD_cons_succ, List.getD_nil, List.drop_zero, List.drop_succ_cons, List.take_succ_cons, List.take_zero, List.take_nil, Bool.true_and, Bool.and_true, Bool.false_and, Bool.and_false, Bool.or_true, Bool.or_false, Bool.true_or, Bool.false_or, Bool.not_true, Bool.not_false, if_true, if_false, ite_true, ite_false, true_and, and_true, eq_self_iff_true, Bool.false_eq_true, reduceIte, Nat.reduceSub, Nat.reduceAdd, reduceCtorEq, String.reduceBEq, beq_self_eq_true, true_or, or_true, false_or, or_false, false_and, and_false, decide_true, decide_false, Bool.not_not, vgLPut]
    refine ⟨4, rfl, ?_⟩
    refine hN _ (vSeq_i fun N hN => skip_if rfl (by decide) ?_)
    refine hN _ (vSeq_i fun N hN => skip_if rfl (by decide) ?_)
    refine hN _ ?_
    simp only [mBody, vRet, vSet, vIfS, vNext, vDrop, vVar, vC, vOp, vBl, vNot, vAnd, vOr, vAndV, vOrV, vNotV, vIf, vANil, vACons, vONil, vOCons, vTup, vLst, vgSet, vgNil, vgCons, vgTup, vFor, vAsg, vCall, vCallO, vCallL, vHold, swapIn, putBack, vRaise, gII, gIC, vFn, vChain, gTru, vpNone, vpSome, vSl, gSlL, gSlS, vIs, vFld, vMet, vMetK, vITup, vILst, vMtL, gAppend, vLc, vYes, vIRng1, vIEnumT, vIStr, vNeg, vFz, vMove, vLend, O.root, O.fz, O.toD, gEq, gNe, gIn, gCatL, gLen, gInt, gList, gTuple, vFPut, oPut, isTD, known7, noTD, eqOk, flat4, sameK, wipeE,  List.map_cons, List.map_nil, List.cons_append, List.nil_append, List.length_cons, List.length_nil, List.replicate_succ, List.replicate_zero, List.append_nil, List.getElem?_cons_zero, List.getElem?_cons_succ, List.getElem?_nil, List.set_cons_zero, List.set_cons_succ, List.set_nil, List.getD_cons_zero, List.getD_cons_succ, List.getD_nil, List.drop_zero, List.drop_succ_cons, List.take_succ_cons, List.take_zero, List.take_nil, Bool.true_and, Bool.and_true, Bool.false_and, Bool.and_false, Bool.or_true, Bool.or_false, Bool.true_or, Bool.false_or, Bool.not_true, Bool.not_false, if_true, if_false, ite_true, ite_false, true_and, and_true, eq_self_iff_true, Bool.false_eq_true, reduceIte, Nat.reduceSub, Nat.reduceAdd, reduceCtorEq, String.reduceBEq, beq_self_eq_true, true_or, or_true, false_or, or_false, false_and, and_false, decide_true, decide_false, Bool.not_not]
    exact q _ e sp
  · -- 5
    refine hN _ (vSeq_i fun N hN => skip_if rfl (by decide) ?_)
    refine hN _ (vSeq_i fun N hN => skip_if rfl (by decide) ?_)
    refine hN _ (vSeq_i fun N hN => skip_if rfl (by decide) ?_)
    refine hN _ (vSeq_i fun N hN => skip_if rfl (by decide) ?_)
    refine hN _ (vSeq_i fun N hN => skip_if rfl (by decide) ?_)
    refine hN _ (vSeq_i fun N hN => hit_if rfl ?_)
    simp only [mBody, vRet, vSet, vIfS, vNext, vDrop, vVar, vC, vOp, vBl, vNot, vAnd, vOr, vAndV, vOrV, vNotV, vIf, vANil, vACons, vONil, vOCons, vTup, vLst, vgSet, vgNil, vgCons, vgTup, vFor, vAsg, vCall, vCallO, vCallL, vHold, swapIn, putBack, vRaise, gII, gIC, vFn, vChain, gTru, vpNone, vpSome, vSl, gSlL, gSlS, vIs, vFld, vMet, vMetK, vITup, vILst, vMtL, gAppend, vLc, vYes, vIRng1, vIEnumT, vIStr, vNeg, vFz, vMove, vLend, O.root, O.fz, O.toD, gEq, gNe, gIn, gCatL, gLen, gInt, gList, gTuple, vFPut, oPut, isTD, known7, noTD, eqOk, flat4, sameK, wipeE,  List.map_cons, List.map_nil, List.cons_append, List.nil_append, List.length_cons, List.length_nil, List.replicate_succ, List.replicate_zero, List.append_nil, List.getElem?_cons_zero, List.getElem?_cons_succ, List.getElem?_nil, List.set_cons_zero, List.set_cons_succ, List.set_nil, List.getD_cons_zero, List.getD_cons_succ, List.getD_nil, List.drop_zero, List.drop_succ_cons, List.take_succ_cons, List.take_zero, List.take_nil, Bool.true_and, Bool.and_true, Bool.false_and, Bool.and_false, Bool.or_true, Bool.or_false, Bool.true_or, Bool.false_or, Bool.not_true, Bool.not_false, if_true, if_false, ite_true, ite_false, true_and, and_true, eq_self_iff_true, Bool.false_eq_true, reduceIte, Nat.reduceSub, Nat.reduceAdd, reduceCtorEq, String.reduceBEq, beq_self_eq_true, true_or, or_true, false_or, or_false, false_and, and_false, decide_true, decide_false, Bool.not_not, mTake, vIxL]
    intro b9 b10
    refine ⟨by decide, by decide, fun r r0 r1 => ?_⟩
    obtain ⟨e, he, hat⟩ := atI_mem (L := trnL) r0 r1
    have sp : Sp 5 d0 e := trn_bad e he
    refine gIx_lst hat ?_
    simp only [mBody, vRet, vSet, vIfS, vNext, vDrop, vVar, vC, vOp, vBl, vNot, vAnd, vOr, vAndV, vOrV, vNotV, vIf, vANil, vACons, vONil, vOCons, vTup, vLst, vgSet, vgNil, vgCons, vgTup, vFor, vAsg, vCall, vCallO, vCallL, vHold, swapIn, putBack, vRaise, gII, gIC, vFn, vChain, gTru, vpNone, vpSome, vSl, gSlL, gSlS, vIs, vFld, vMet, vMetK, vITup, vILst, vMtL, gAppend, vLc, vYes, vIRng1, vIEnumT, vIStr, vNeg, vFz, vMove, vLend, O.root, O.fz, O.toD, gEq, gNe, gIn, gCatL, gLen, gInt, gList, gTuple, vFPut, oPut, isTD, known7, noTD, eqOk, flat4, sameK, wipeE,  List.map_cons, List.map_nil, List.cons_append, List.nil_append, List.length_cons, List.length_nil, List.replicate_succ, List.replicate_zero, List.append_nil, List.getElem?_cons_zero, List.getElem?_cons_succ, List.getElem?_nil, List.set_cons_zero, List.set_cons_succ, List.set_nil, List.getD_cons_zero, List.getD_cons_succ, List.getD_nil, List.drop_zero, List.drop_succ_cons, List.take_succ_cons, List.take_zero, List.take_nil, Bool.true_and, Bool.and_true, Bool.false_and, Bool.and_false, Bool.or_true, Bool.or_false, Bool.true_or, Bool.false_or, Bool.not_true, Bool.not_false, if_true, if_false, ite_true, ite_false, true_and, and_true, eq_self_iff_true, Bool.false_eq_true, reduceIte, Nat.reduceSub, Nat.reduceAdd, reduceCtorEq, String.reduceBEq, beq_self_eq_true, true_or, or_true, false_or, or_false, false_and, and_false, decide_true, decide_false, Bool.not_not, vgLPut]
    refine ⟨5, rfl, ?_⟩
    refine hN _ (vSeq_i fun N hN => skip_if rfl (by decide) ?_)
    refine hN _ ?_
    simp only [mBody, vRet, vSet, vIfS, vNext, vDrop, vVar, vC, vOp, vBl, vNot, vAnd, vOr, vAndV, vOrV, vNotV, vIf, vANil, vACons, vONil, vOCons, vTup, vLst, vgSet, vgNil, vgCons, vgTup, vFor, vAsg, vCall, vCallO, vCallL, vHold, swapIn, putBack, vRaise, gII, gIC, vFn, vChain, gTru, vpNone, vpSome, vSl, gSlL, gSlS, vIs, vFld, vMet, vMetK, vITup, vILst, vMtL, gAppend, vLc, vYes, vIRng1, vIEnumT, vIStr, vNeg, vFz, vMove, vLend, O.root, O.fz, O.toD, gEq, gNe, gIn, gCatL, gLen, gInt, gList, gTuple, vFPut, oPut, isTD, known7, noTD, eqOk, flat4, sameK, wipeE,  List.map_cons, List.map_nil, List.cons_append, List.nil_append, List.length_cons, List.length_nil, List.replicate_succ, List.replicate_zero, List.append_nil, List.getElem?_cons_zero, List.getElem?_cons_succ, List.getElem?_nil, List.set_cons_zero, List.set_cons_succ, List.set_nil, List.getD_cons_zero, List.getD_cons_succ, List.getD_nil, List.drop_zero, List.drop_succ_cons, List.take_succ_cons, List.take_zero, List.take_nil, Bool.true_and, Bool.and_true, Bool.false_and, Bool.and_false, Bool.or_true, Bool.or_false, Bool.true_or, Bool.false_or, Bool.not_true, Bool.not_false, if_true, if_false, ite_true, ite_false, true_and, and_true, eq_self_iff_true, Bool.false_eq_true, reduceIte, Nat.reduceSub, Nat.reduceAdd, reduceCtorEq, String.reduceBEq, beq_self_eq_true, true_or, or_true, false_or, or_false, false_and, and_false, decide_true, decide_false, Bool.not_not]
    exact q _ e sp
  · -- 6
    refine hN _ (vSeq_i fun N hN => skip_if rfl (by decide) ?_)
    refine hN _ (vSeq_i fun N hN => skip_if rfl (by decide) ?_)
    refine hN _ (vSeq_i fun N hN => skip_if rfl (by decide) ?_)
    refine hN _ (vSeq_i fun N hN => skip_if rfl (by decide) ?_)
    refine hN _ (vSeq_i fun N hN => skip_if rfl (by decide) ?_)
    refine hN _ (vSeq_i fun N hN => skip_if rfl (by decide) ?_)
    refine hN _ (vSeq_i fun N hN => hit_if rfl ?_)
    simp only [mBody, vRet, vSet, vIfS, vNext, vDrop, vVar, vC, vOp, vBl, vNot, vAnd, vOr, vAndV, vOrV, vNotV, vIf, vANil, vACons, vONil, vOCons, vTup, vLst, vgSet, vgNil, vgCons, vgTup, vFor, vAsg, vCall, vCallO, vCallL, vHold, swapIn, putBack, vRaise, gII, gIC, vFn, vChain, gTru, vpNone, vpSome, vSl, gSlL, gSlS, vIs, vFld, vMet, vMetK, vITup, vILst, vMtL, gAppend, vLc, vYes, vIRng1, vIEnumT, vIStr, vNeg, vFz, vMove, vLend, O.root, O.fz, O.toD, gEq, gNe, gIn, gCatL, gLen, gInt, gList, gTuple, vFPut, oPut, isTD, known7, noTD, eqOk, flat4, sameK, wipeE,  List.map_cons, List.map_nil, List.cons_append, List.nil_append, List.length_cons, List.length_nil, List.replicate_succ, List.replicate_zero, List.append_nil, List.getElem?_cons_zero, List.getElem?_cons_succ, List.getElem?_nil, List.set_cons_zero, List.set_cons_succ, List.set_nil, List.getD_cons_zero, List.getD_cons_succ, List.getD_nil, List.drop_zero, List.drop_succ_cons, List.take_succ_cons, List.take_zero, List.take_nil, Bool.true_and, Bool.and_true, Bool.false_and, Bool.and_false, Bool.or_true, Bool.or_false, Bool.true_or, Bool.false_or, Bool.not_true, Bool.not_false, if_true, if_false, ite_true, ite_false, true_and, and_true, eq_self_iff_true, Bool.false_eq_true, reduceIte, Nat.reduceSub, Nat.reduceAdd, reduceCtorEq, String.reduceBEq, beq_self_eq_true, true_or, or_true, false_or, or_false, false_and, and_false, decide_true, decide_false, Bool.not_not, mTake, vIxL]
    intro b9 b10
    refine ⟨by decide, by decide, fun r r0 r1 => ?_⟩
    obtain ⟨e, he, hat⟩ := atI_mem (L := brkL) r0 r1
    have sp : Sp 6 d0 e := brk_bad e he
    refine gIx_lst hat ?_
    simp only [mBody, vRet, vSet, vIfS, vNext, vDrop, vVar, vC, vOp, vBl, vNot, vAnd, vOr, vAndV, vOrV, vNotV, vIf, vANil, vACons, vONil, vOCons, vTup, vLst, vgSet, vgNil, vgCons, vgTup, vFor, vAsg, vCall, vCallO, vCallL, vHold, swapIn, putBack, vRaise, gII, gIC, vFn, vChain, gTru, vpNone, vpSome, vSl, gSlL, gSlS, vIs, vFld, vMet, vMetK, vITup, vILst, vMtL, gAppend, vLc, vYes, vIRng1, vIEnumT, vIStr, vNeg, vFz, vMove, vLend, O.root, O.fz, O.toD, gEq, gNe, gIn, gCatL, gLen, gInt, gList, gTuple, vFPut, oPut, isTD, known7, noTD, eqOk, flat4, sameK, wipeE,  List.map_cons, List.map_nil, List.cons_append, List.nil_append, List.length_cons, List.length_nil, List.replicate_succ, List.replicate_zero, List.append_nil, List.getElem?_cons_zero, List.getElem?_cons_succ, List.getElem?_nil, List.set_cons_zero, List.set_cons_succ, List.set_nil, List.getD_cons_zero, List.getD_cons_succ, List.getD_nil, List.drop_zero, List.drop_succ_cons, List.take_succ_cons, List.take_zero, List.take_nil, Bool.true_and, Bool.and_true, Bool.false_and, Bool.and_false, Bool.or_true, Bool.or_false, Bool.true_or, Bool.false_or, Bool.not_true, Bool.not_false, if_true, if_false, ite_true, ite_false, true_and, and_true, eq_self_iff_true, Bool.false_eq_true, reduceIte, Nat.reduceSub, Nat.reduceAdd, reduceCtorEq, String.reduceBEq, beq_self_eq_true, true_or, or_true, false_or, or_false, false_and, and_false, decide_true, decide_false, Bool.not_not, vgLPut]
    refine ⟨6, rfl, ?_⟩
    refine hN _ ?_
    simp only [mBody, vRet, vSet, vIfS, vNext, vDrop, vVar, vC, vOp, vBl, vNot, vAnd, vOr, vAndV, vOrV, vNotV, vIf, vANil, vACons, vONil, vOCons, vTup, vLst, vgSet, vgNil, vgCons, vgTup, vFor, vAsg, vCall, vCallO, vCallL, vHold, swapIn, putBack, vRaise, gII, gIC, vFn, vChain, gTru, vpNone, vpSome, vSl, gSlL, gSlS, vIs, vFld, vMet, vMetK, vITup, vILst, vMtL, gAppend, vLc, vYes, vIRng1, vIEnumT, vIStr, vNeg, vFz, vMove, vLend, O.root, O.fz, O.toD, gEq, gNe, gIn, gCatL, gLen, gInt, gList, gTuple, vFPut, oPut, isTD, known7, noTD, eqOk, flat4, sameK, wipeE,  List.map_cons, List.map_nil, List.cons_append, List.nil_append, List.length_cons, List.length_nil, List.replicate_succ, List.replicate_zero, List.append_nil, List.getElem?_cons_zero, List.getElem?_cons_succ, List.getElem?_nil, List.set_cons_zero, List.set_cons_succ, List.set_nil, List.getD_cons_zero, List.getD_cons_succ, List.getD_nil, List.drop_zero, List.drop_succ_cons, List.take_succ_cons, List.take_zero, List.take_nil, Bool.true_and, Bool.and_true, Bool.false_and, Bool.and_false, Bool.or_true, Bool.or_false, Bool.true_or, Bool.false_or, Bool.not_true, Bool.not_false, if_true, if_false, ite_true, ite_false, true_and, and_true, eq_self_iff_true, Bool.false_eq_true, reduceIte, Nat.reduceSub, Nat.reduceAdd, reduceCtorEq, String.reduceBEq, beq_self_eq_true, true_or, or_true, false_or, or_false, false_and, and_false, decide_true, decide_false, Bool.not_not]
    exact q _ e sp
end
abbrev wordT : List Str := ["here", "there", "window", "window", "via", "train", "breaks"]
/-- seven parts of known kinds -/
structure Gl (l : List D) : Prop where
  n : l.length = 7
  g : ∀ i d, l[i]? = some d → Gd d ∧ (i = 4 → Gv d)
section
variable {d0 d1 d2 d3 d4 d5 d6 : D} {p : Pt}
theorem Gl.gp (h : Gl [d0, d1, d2, d3, d4, d5, d6]) : Gp d0 d1 d2 d3 d4 d5 d6 := ⟨(h.g 0 d0 rfl).1, (h.g 1 d1 rfl).1, (h.g 2 d2 rfl).1, (h.g 3 d3 rfl).1, (h.g 4 d4 rfl).2 rfl, (h.g 5 d5 rfl).1, (h.g 6 d6 rfl).1⟩
theorem Gp.gl (h : Gp d0 d1 d2 d3 d4 d5 d6) : Gl [d0, d1, d2, d3, d4, d5, d6] := ⟨rfl, fun i d e => by
  match i, e with
  | 0, e => exact ⟨by have : d0 = d := by simpa using e
                      rw [← this]; exact h.g0, fun z => by cases z⟩
  | 1, e => exact ⟨by have : d1 = d := by simpa using e
                      rw [← this]; exact h.g1, fun z => by cases z⟩
  | 2, e => exact ⟨by have : d2 = d := by simpa using e
                      rw [← this]; exact h.g2, fun z => by cases z⟩
  | 3, e => exact ⟨by have : d3 = d := by simpa using e
                      rw [← this]; exact h.g3, fun z => by cases z⟩
  | 4, e =>
    have : d4 = d := by simpa using e
    rw [← this]
    exact ⟨h.g4.g, fun _ => h.g4⟩
  | 5, e => exact ⟨by have : d5 = d := by simpa using e
                      rw [← this]; exact h.g5, fun z => by cases z⟩
  | 6, e => exact ⟨by have : d6 = d := by simpa using e
                      rw [← this]; exact h.g6, fun z => by cases z⟩
  | n + 7, e => simp at e⟩
theorem Sp.gd {a : Nat} {e : D} (h : Sp a d0 e) : Gd e ∧ (a = 4 → Gv e) := by
  unfold Sp at h
  split at h
  · exact ⟨h.1, fun z => by cases z⟩
  · exact ⟨h.1, fun z => by cases z⟩
  · exact ⟨h.1, fun z => by cases z⟩
  · exact ⟨h.1, fun z => by cases z⟩
  · exact ⟨h.1.g, fun _ => h.1⟩
  · exact ⟨h.1, fun z => by cases z⟩
  · exact ⟨h.1, fun z => by cases z⟩
  · exact h.elim
theorem Gl.set {l : List D} {a : Nat} {e : D} (h : Gl l) (s : Sp a d0 e) : Gl (l.set a e) := ⟨by rw [List.length_set]; exact h.n, fun i d hi => by
  by_cases q : a = i
  · subst q
    have hl : a < l.length := by
      have := (List.getElem?_eq_some_iff.mp hi).1
      rwa [List.length_set] at this
    rw [List.getElem?_set_self hl] at hi
    injection hi with hi
    subst hi
    exact s.gd
  · rw [List.getElem?_set_ne q] at hi
    exact h.g i d hi⟩
theorem Gl.seven {l : List D} (h : Gl l) : ∃ d0 d1 d2 d3 d4 d5 d6, l = [d0, d1, d2, d3, d4, d5, d6] := by
  match l, h.n with
  | [a, b, c, d, e, f, g], _ => exact ⟨a, b, c, d, e, f, g, rfl⟩
/-- the first part that was spoilt gives the word -/
theorem tkBad_at {a : Nat} {e : D} (ok : Good p) (ha : a ≤ 6) (same : ∀ i, i < a → [d0, d1, d2, d3, d4, d5, d6][i]? = p.ds[i]?) (he : [d0, d1, d2, d3, d4, d5, d6][a]? = some e) (sp : Sp a (.str p.h) e) :
    tkBad d0 d1 d2 d3 d4 d5 d6 = wordT[a]? := by
  have s0 : 0 < a → d0 = .str p.h := fun h => by simpa using same 0 h
  have s1 : 1 < a → d1 = .str p.t := fun h => by simpa using same 1 h
  have s2 : 2 < a → d2 = .int p.a := fun h => by simpa using same 2 h
  have s3 : 3 < a → d3 = .int p.b := fun h => by simpa using same 3 h
  have s4 : 4 < a → d4 = p.dv := fun h => by simpa using same 4 h
  have s5 : 5 < a → d5 = p.dc := fun h => by simpa using same 5 h
  have f0 : 0 < a → ¬ nmD d0 = false := fun h => by rw [s0 h, show nmD (.str p.h) = true from ok.ok.h]; simp
  have f1 : 1 < a → ¬ (nmD d1 = false ∨ d1 = d0) := fun h z => by
    rw [s1 h, s0 (by omega)] at z
    rcases z with z | z
    · rw [show nmD (.str p.t) = true from ok.ok.t] at z; cases z
    · injection z with z; exact ok.ne z.symm
  have f2 : 3 < a → ¬ (frD 0 1440 d2 = false ∨ ∀ i, d2 = .int i → frD i 1440 d3 = false) := fun h z => by
    rw [s2 (by omega), s3 h] at z
    rcases z with z | z
    · rw [fr_yes ok.ok.a0 ok.ok.a1] at z; cases z
    · have := z p.a rfl
      rw [fr_yes ok.ab ok.ok.b1] at this; cases this
  have f4 : 4 < a → ¬ viaD d4 = false := fun h => by rw [s4 h, ok.ok.via]; simp
  have f5 : 5 < a → ¬ (d5 ≠ .non ∧ nmD d5 = false) := fun h => by rw [s5 h]; exact ok.ok.train
  have ha : a = 0 ∨ a = 1 ∨ a = 2 ∨ a = 3 ∨ a = 4 ∨ a = 5 ∨ a = 6 := by omega
  unfold tkBad
  rcases ha with rfl | rfl | rfl | rfl | rfl | rfl | rfl
  · have : d0 = e := by simpa using he
    subst this
    rw [if_pos sp.2]; rfl
  · have : d1 = e := by simpa using he
    subst this
    have sp2 := sp.2
    rw [← s0 (by decide)] at sp2
    rw [if_neg (f0 (by decide)), if_pos sp2]; rfl
  · have : d2 = e := by simpa using he
    subst this
    rw [if_neg (f0 (by decide)), if_neg (f1 (by decide)), if_pos (.inl sp.2)]; rfl
  · have : d3 = e := by simpa using he
    subst this
    rw [if_neg (f0 (by decide)), if_neg (f1 (by decide)), if_pos (.inr fun i hi => by
      rw [s2 (by decide)] at hi
      injection hi with hi
      rw [← hi]; exact sp.2 _ ok.ok.a0)]; rfl
  · have : d4 = e := by simpa using he
    subst this
    rw [if_neg (f0 (by decide)), if_neg (f1 (by decide)), if_neg (f2 (by decide)), if_pos sp.2]; rfl
  · have : d5 = e := by simpa using he
    subst this
    rw [if_neg (f0 (by decide)), if_neg (f1 (by decide)), if_neg (f2 (by decide)), if_neg (f4 (by decide)), if_pos sp.2]; rfl
  · have : d6 = e := by simpa using he
    subst this
    rw [if_neg (f0 (by decide)), if_neg (f1 (by decide)), if_neg (f2 (by decide)), if_neg (f4 (by decide)), if_neg (f5 (by decide)), if_pos sp.2]; rfl
end
/-- p with one part of o -/
def mixP (p o : Pt) : Nat → Pt
  | 0 => { p with h := o.h }
  | 1 => { p with t := o.t }
  | 2 => { p with a := o.a }
  | 3 => { p with b := o.b }
  | 4 => { p with v := o.v }
  | 5 => { p with c := o.c }
  | _ => { p with k := o.k }
section
variable {p o : Pt} {Q : O → List O → Prop} {x : XD}
theorem mix_ok (h : PtOk p) (h' : PtOk o) {i : Nat} : PtOk (mixP p o i) := by
  unfold mixP
  split
  · exact ⟨h'.h, h.t, h.a0, h.a1, h.b0, h.b1, h.v, h.c⟩
  · exact ⟨h.h, h'.t, h.a0, h.a1, h.b0, h.b1, h.v, h.c⟩
  · exact ⟨h.h, h.t, h'.a0, h'.a1, h.b0, h.b1, h.v, h.c⟩
  · exact ⟨h.h, h.t, h.a0, h.a1, h'.b0, h'.b1, h.v, h.c⟩
  · exact ⟨h.h, h.t, h.a0, h.a1, h.b0, h.b1, h'.v, h.c⟩
  · exact ⟨h.h, h.t, h.a0, h.a1, h.b0, h.b1, h.v, h'.c⟩
  · exact ⟨h.h, h.t, h.a0, h.a1, h.b0, h.b1, h.v, h.c⟩
theorem mix_ds {i : Nat} (hi : i < 7) : ∃ d, o.ds[i]? = some d ∧ p.ds.set i d = (mixP p o i).ds := by
  have : i = 0 ∨ i = 1 ∨ i = 2 ∨ i = 3 ∨ i = 4 ∨ i = 5 ∨ i = 6 := by omega
  rcases this with rfl | rfl | rfl | rfl | rfl | rfl | rfl <;> exact ⟨_, rfl, rfl⟩
theorem made_V (ok : Good p) (q : ∀ a b, Q (tkO a b (.str p.h) (.str p.t) (.int p.a) (.int p.b) p.dv p.dc (.bl p.k)) []) : m__law_ticket [.sh (.lst p.ds)] Q x :=
  law_ticket_V ok.ok.gp (fun _ => q) fun wd h => by rw [ok.ok.good ok.ne ok.ab] at h; cases h
abbrev Pt.tk (p : Pt) (a : Addr) : D := tkD a (.str p.h) (.str p.t) (.int p.a) (.int p.b) p.dv p.dc (.bl p.k)
theorem eq_V {a b : Addr} (ok : PtOk p) (ok' : PtOk o) (q : Q (.sh (.bl (eqD (.tup p.ds) (.tup o.ds)))) []) : m_Ticketdd_eqdd [.sh (p.tk a), .sh (o.tk b)] Q x := Ticket_eq_V ok.lyt ok'.lyt (by decide) q
theorem law_equal_right_V {s a0 : Addr} (ok : Good p) (q : Q (.sh (.bl true)) [.src s]) : m__law_equal_right [.src s, .sh (.lst p.ds), .sh (p.tk a0)] Q x := by
  unfold m__law_equal_right mBody
  refine vSeq_i fun N hN => ?_
  simp only [mBody, vRet, vSet, vIfS, vNext, vDrop, vVar, vC, vOp, vBl, vNot, vAnd, vOr, vAndV, vOrV, vNotV, vIf, vANil, vACons, vONil, vOCons, vTup, vLst, vgSet, vgNil, vgCons, vgTup, vFor, vAsg, vCall, vCallO, vCallL, vHold, swapIn, putBack, vRaise, gII, gIC, vFn, vChain, gTru, vpNone, vpSome, vSl, gSlL, gSlS, vIs, vFld, vMet, vMetK, vITup, vILst, vMtL, gAppend, vLc, vYes, vIRng1, vIEnumT, vIStr, vNeg, vFz, vMove, vLend, O.root, O.fz, O.toD, gEq, gNe, gIn, gCatL, gLen, gInt, gList, gTuple, vFPut, oPut, isTD, known7, noTD, eqOk, flat4, sameK, wipeE,  List.map_cons, List.map_nil, List.cons_append, List.nil_append, List.length_cons, List.length_nil, List.replicate_succ, List.replicate_zero, List.append_nil, List.getElem?_cons_zero, List.getElem?_cons_succ, List.getElem?_nil, List.set_cons_zero, List.set_cons_succ, List.set_nil, List.getD_cons_zero, List.getD_cons_succ, List.getD_nil, List.drop_zero, List.drop_succ_cons, List.take_succ_cons, List.take_zero, List.take_nil, Bool.true_and, Bool.and_true, Bool.false_and, Bool.and_false, Bool.or_true, Bool.or_false, Bool.true_or, Bool.false_or, Bool.not_true, Bool.not_false, if_true, if_false, ite_true, ite_false, true_and, and_true, eq_self_iff_true, Bool.false_eq_true, reduceIte, Nat.reduceSub, Nat.reduceAdd, reduceCtorEq, String.reduceBEq, beq_self_eq_true, true_or, or_true, false_or, or_false, false_and, and_false, decide_true, decide_false, Bool.not_not]
  refine law_good_V fun b1 o go => ?_
  simp only [mBody, vRet, vSet, vIfS, vNext, vDrop, vVar, vC, vOp, vBl, vNot, vAnd, vOr, vAndV, vOrV, vNotV, vIf, vANil, vACons, vONil, vOCons, vTup, vLst, vgSet, vgNil, vgCons, vgTup, vFor, vAsg, vCall, vCallO, vCallL, vHold, swapIn, putBack, vRaise, gII, gIC, vFn, vChain, gTru, vpNone, vpSome, vSl, gSlL, gSlS, vIs, vFld, vMet, vMetK, vITup, vILst, vMtL, gAppend, vLc, vYes, vIRng1, vIEnumT, vIStr, vNeg, vFz, vMove, vLend, O.root, O.fz, O.toD, gEq, gNe, gIn, gCatL, gLen, gInt, gList, gTuple, vFPut, oPut, isTD, known7, noTD, eqOk, flat4, sameK, wipeE,  List.map_cons, List.map_nil, List.cons_append, List.nil_append, List.length_cons, List.length_nil, List.replicate_succ, List.replicate_zero, List.append_nil, List.getElem?_cons_zero, List.getElem?_cons_succ, List.getElem?_nil, List.set_cons_zero, List.set_cons_succ, List.set_nil, List.getD_cons_zero, List.getD_cons_succ, List.getD_nil, List.drop_zero, List.drop_succ_cons, List.take_succ_cons, List.take_zero, List.take_nil, Bool.true_and, Bool.and_true, Bool.false_and, Bool.and_false, Bool.or_true, Bool.or_false, Bool.true_or, Bool.false_or, Bool.not_true, Bool.not_false, if_true, if_false, ite_true, ite_false, true_and, and_true, eq_self_iff_true, Bool.false_eq_true, reduceIte, Nat.reduceSub, Nat.reduceAdd, reduceCtorEq, String.reduceBEq, beq_self_eq_true, true_or, or_true, false_or, or_false, false_and, and_false, decide_true, decide_false, Bool.not_not]
  refine hN _ (vSeq_i fun N hN => ?_)
  simp only [mBody, vRet, vSet, vIfS, vNext, vDrop, vVar, vC, vOp, vBl, vNot, vAnd, vOr, vAndV, vOrV, vNotV, vIf, vANil, vACons, vONil, vOCons, vTup, vLst, vgSet, vgNil, vgCons, vgTup, vFor, vAsg, vCall, vCallO, vCallL, vHold, swapIn, putBack, vRaise, gII, gIC, vFn, vChain, gTru, vpNone, vpSome, vSl, gSlL, gSlS, vIs, vFld, vMet, vMetK, vITup, vILst, vMtL, gAppend, vLc, vYes, vIRng1, vIEnumT, vIStr, vNeg, vFz, vMove, vLend, O.root, O.fz, O.toD, gEq, gNe, gIn, gCatL, gLen, gInt, gList, gTuple, vFPut, oPut, isTD, known7, noTD, eqOk, flat4, sameK, wipeE,  List.map_cons, List.map_nil, List.cons_append, List.nil_append, List.length_cons, List.length_nil, List.replicate_succ, List.replicate_zero, List.append_nil, List.getElem?_cons_zero, List.getElem?_cons_succ, List.getElem?_nil, List.set_cons_zero, List.set_cons_succ, List.set_nil, List.getD_cons_zero, List.getD_cons_succ, List.getD_nil, List.drop_zero, List.drop_succ_cons, List.take_succ_cons, List.take_zero, List.take_nil, Bool.true_and, Bool.and_true, Bool.false_and, Bool.and_false, Bool.or_true, Bool.or_false, Bool.true_or, Bool.false_or, Bool.not_true, Bool.not_false, if_true, if_false, ite_true, ite_false, true_and, and_true, eq_self_iff_true, Bool.false_eq_true, reduceIte, Nat.reduceSub, Nat.reduceAdd, reduceCtorEq, String.reduceBEq, beq_self_eq_true, true_or, or_true, false_or, or_false, false_and, and_false, decide_true, decide_false, Bool.not_not, gEqO, eqArg]
  refine made_V ok fun a1 q1 => ?_
  simp only [tkO_toD]
  simp only [mBody, vRet, vSet, vIfS, vNext, vDrop, vVar, vC, vOp, vBl, vNot, vAnd, vOr, vAndV, vOrV, vNotV, vIf, vANil, vACons, vONil, vOCons, vTup, vLst, vgSet, vgNil, vgCons, vgTup, vFor, vAsg, vCall, vCallO, vCallL, vHold, swapIn, putBack, vRaise, gII, gIC, vFn, vChain, gTru, vpNone, vpSome, vSl, gSlL, gSlS, vIs, vFld, vMet, vMetK, vITup, vILst, vMtL, gAppend, vLc, vYes, vIRng1, vIEnumT, vIStr, vNeg, vFz, vMove, vLend, O.root, O.fz, O.toD, gEq, gNe, gIn, gCatL, gLen, gInt, gList, gTuple, vFPut, oPut, isTD, known7, noTD, eqOk, flat4, sameK, wipeE,  List.map_cons, List.map_nil, List.cons_append, List.nil_append, List.length_cons, List.length_nil, List.replicate_succ, List.replicate_zero, List.append_nil, List.getElem?_cons_zero, List.getElem?_cons_succ, List.getElem?_nil, List.set_cons_zero, List.set_cons_succ, List.set_nil, List.getD_cons_zero, List.getD_cons_succ, List.getD_nil, List.drop_zero, List.drop_succ_cons, List.take_succ_cons, List.take_zero, List.take_nil, Bool.true_and, Bool.and_true, Bool.false_and, Bool.and_false, Bool.or_true, Bool.or_false, Bool.true_or, Bool.false_or, Bool.not_true, Bool.not_false, if_true, if_false, ite_true, ite_false, true_and, and_true, eq_self_iff_true, Bool.false_eq_true, reduceIte, Nat.reduceSub, Nat.reduceAdd, reduceCtorEq, String.reduceBEq, beq_self_eq_true, true_or, or_true, false_or, or_false, false_and, and_false, decide_true, decide_false, Bool.not_not, gEqO, eqArg]
  refine eq_V ok.ok ok.ok ⟨_, rfl, ?_⟩
  rw [ok.ok.lyt.self]
  simp only [Bool.xor_self, Bool.false_eq_true, if_false]
  refine made_V ok fun a2 q2 => ?_
  simp only [tkO_toD]
  simp only [mBody, vRet, vSet, vIfS, vNext, vDrop, vVar, vC, vOp, vBl, vNot, vAnd, vOr, vAndV, vOrV, vNotV, vIf, vANil, vACons, vONil, vOCons, vTup, vLst, vgSet, vgNil, vgCons, vgTup, vFor, vAsg, vCall, vCallO, vCallL, vHold, swapIn, putBack, vRaise, gII, gIC, vFn, vChain, gTru, vpNone, vpSome, vSl, gSlL, gSlS, vIs, vFld, vMet, vMetK, vITup, vILst, vMtL, gAppend, vLc, vYes, vIRng1, vIEnumT, vIStr, vNeg, vFz, vMove, vLend, O.root, O.fz, O.toD, gEq, gNe, gIn, gCatL, gLen, gInt, gList, gTuple, vFPut, oPut, isTD, known7, noTD, eqOk, flat4, sameK, wipeE,  List.map_cons, List.map_nil, List.cons_append, List.nil_append, List.length_cons, List.length_nil, List.replicate_succ, List.replicate_zero, List.append_nil, List.getElem?_cons_zero, List.getElem?_cons_succ, List.getElem?_nil, List.set_cons_zero, List.set_cons_succ, List.set_nil, List.getD_cons_zero, List.getD_cons_succ, List.getD_nil, List.drop_zero, List.drop_succ_cons, List.take_succ_cons, List.take_zero, List.take_nil, Bool.true_and, Bool.and_true, Bool.false_and, Bool.and_false, Bool.or_true, Bool.or_false, Bool.true_or, Bool.false_or, Bool.not_true, Bool.not_false, if_true, if_false, ite_true, ite_false, true_and, and_true, eq_self_iff_true, Bool.false_eq_true, reduceIte, Nat.reduceSub, Nat.reduceAdd, reduceCtorEq, String.reduceBEq, beq_self_eq_true, true_or, or_true, false_or, or_false, false_and, and_false, decide_true, decide_false, Bool.not_not, gEqO, eqArg]
  refine eq_V ok.ok ok.ok ⟨_, rfl, ?_⟩
  rw [ok.ok.lyt.self]
  simp only [Bool.false_xor, Bool.not_true, Bool.false_eq_true, if_false]
  refine hN _ (vSeq_i fun N hN => ?_)
  simp only [mBody, vRet, vSet, vIfS, vNext, vDrop, vVar, vC, vOp, vBl, vNot, vAnd, vOr, vAndV, vOrV, vNotV, vIf, vANil, vACons, vONil, vOCons, vTup, vLst, vgSet, vgNil, vgCons, vgTup, vFor, vAsg, vCall, vCallO, vCallL, vHold, swapIn, putBack, vRaise, gII, gIC, vFn, vChain, gTru, vpNone, vpSome, vSl, gSlL, gSlS, vIs, vFld, vMet, vMetK, vITup, vILst, vMtL, gAppend, vLc, vYes, vIRng1, vIEnumT, vIStr, vNeg, vFz, vMove, vLend, O.root, O.fz, O.toD, gEq, gNe, gIn, gCatL, gLen, gInt, gList, gTuple, vFPut, oPut, isTD, known7, noTD, eqOk, flat4, sameK, wipeE,  List.map_cons, List.map_nil, List.cons_append, List.nil_append, List.length_cons, List.length_nil, List.replicate_succ, List.replicate_zero, List.append_nil, List.getElem?_cons_zero, List.getElem?_cons_succ, List.getElem?_nil, List.set_cons_zero, List.set_cons_succ, List.set_nil, List.getD_cons_zero, List.getD_cons_succ, List.getD_nil, List.drop_zero, List.drop_succ_cons, List.take_succ_cons, List.take_zero, List.take_nil, Bool.true_and, Bool.and_true, Bool.false_and, Bool.and_false, Bool.or_true, Bool.or_false, Bool.true_or, Bool.false_or, Bool.not_true, Bool.not_false, if_true, if_false, ite_true, ite_false, true_and, and_true, eq_self_iff_true, Bool.false_eq_true, reduceIte, Nat.reduceSub, Nat.reduceAdd, reduceCtorEq, String.reduceBEq, beq_self_eq_true, true_or, or_true, false_or, or_false, false_and, and_false, decide_true, decide_false, Bool.not_not]
  refine ⟨by decide, by decide, ?_⟩
  refine vForL_inv (fun _ e => ∃ c3 c4 c5, (c3 = .ol b1 o.ds ∨ c3 = .sh (.lst o.ds)) ∧ e = [.src s, .sh (.lst p.ds), .sh (p.tk a0), c3, c4, c5, .un]) ?_ ⟨_, _, _, .inl rfl, rfl⟩ ?_
  · rintro i d hd e ⟨c3, c4, c5, hc3, rfl⟩ Nx hn
    obtain ⟨hi, rfl⟩ := rng_get hd
    have hi : i < 7 := hi
    obtain ⟨d, hd, hset⟩ := mix_ds (p := p) (o := o) hi
    have ok' := mix_ok (i := i) ok.ok go.ok
    generalize mixP p o i = p' at *
    unfold vgSet
    refine vSeq_i fun N hN => ?_
    simp only [mBody, vRet, vSet, vIfS, vNext, vDrop, vVar, vC, vOp, vBl, vNot, vAnd, vOr, vAndV, vOrV, vNotV, vIf, vANil, vACons, vONil, vOCons, vTup, vLst, vgSet, vgNil, vgCons, vgTup, vFor, vAsg, vCall, vCallO, vCallL, vHold, swapIn, putBack, vRaise, gII, gIC, vFn, vChain, gTru, vpNone, vpSome, vSl, gSlL, gSlS, vIs, vFld, vMet, vMetK, vITup, vILst, vMtL, gAppend, vLc, vYes, vIRng1, vIEnumT, vIStr, vNeg, vFz, vMove, vLend, O.root, O.fz, O.toD, gEq, gNe, gIn, gCatL, gLen, gInt, gList, gTuple, vFPut, oPut, isTD, known7, noTD, eqOk, flat4, sameK, wipeE,  List.map_cons, List.map_nil, List.cons_append, List.nil_append, List.length_cons, List.length_nil, List.replicate_succ, List.replicate_zero, List.append_nil, List.getElem?_cons_zero, List.getElem?_cons_succ, List.getElem?_nil, List.set_cons_zero, List.set_cons_succ, List.set_nil, List.getD_cons_zero, List.getD_cons_succ, List.getD_nil, List.drop_zero, List.drop_succ_cons, List.take_succ_cons, List.take_zero, List.take_nil, Bool.true_and, Bool.and_true, Bool.false_and, Bool.and_false, Bool.or_true, Bool.or_false, Bool.true_or, Bool.false_or, Bool.not_true, Bool.not_false, if_true, if_false, ite_true, ite_false, true_and, and_true, eq_self_iff_true, Bool.false_eq_true, reduceIte, Nat.reduceSub, Nat.reduceAdd, reduceCtorEq, String.reduceBEq, beq_self_eq_true, true_or, or_true, false_or, or_false, false_and, and_false, decide_true, decide_false, Bool.not_not]
    intro b2
    refine hN _ (vSeq_i fun N hN => ?_)
    suffices H : N [.src s, .sh (.lst p.ds), .sh (p.tk a0), .sh (.lst o.ds), .sh (.int i), .ol b2 p'.ds, .un] by
      rcases hc3 with rfl | rfl
      · simp only [mBody, vRet, vSet, vIfS, vNext, vDrop, vVar, vC, vOp, vBl, vNot, vAnd, vOr, vAndV, vOrV, vNotV, vIf, vANil, vACons, vONil, vOCons, vTup, vLst, vgSet, vgNil, vgCons, vgTup, vFor, vAsg, vCall, vCallO, vCallL, vHold, swapIn, putBack, vRaise, gII, gIC, vFn, vChain, gTru, vpNone, vpSome, vSl, gSlL, gSlS, vIs, vFld, vMet, vMetK, vITup, vILst, vMtL, gAppend, vLc, vYes, vIRng1, vIEnumT, vIStr, vNeg, vFz, vMove, vLend, O.root, O.fz, O.toD, gEq, gNe, gIn, gCatL, gLen, gInt, gList, gTuple, vFPut, oPut, isTD, known7, noTD, eqOk, flat4, sameK, wipeE,  List.map_cons, List.map_nil, List.cons_append, List.nil_append, List.length_cons, List.length_nil, List.replicate_succ, List.replicate_zero, List.append_nil, List.getElem?_cons_zero, List.getElem?_cons_succ, List.getElem?_nil, List.set_cons_zero, List.set_cons_succ, List.set_nil, List.getD_cons_zero, List.getD_cons_succ, List.getD_nil, List.drop_zero, List.drop_succ_cons, List.take_succ_cons, List.take_zero, List.take_nil, Bool.true_and, Bool.and_true, Bool.false_and, Bool.and_false, Bool.or_true, Bool.or_false, Bool.true_or, Bool.false_or, Bool.not_true, Bool.not_false, if_true, if_false, ite_true, ite_false, true_and, and_true, eq_self_iff_true, Bool.false_eq_true, reduceIte, Nat.reduceSub, Nat.reduceAdd, reduceCtorEq, String.reduceBEq, beq_self_eq_true, true_or, or_true, false_or, or_false, false_and, and_false, decide_true, decide_false, Bool.not_not]
        refine gIx_lst (d := d) (atI_nat hd) ?_
        simp only [mBody, vRet, vSet, vIfS, vNext, vDrop, vVar, vC, vOp, vBl, vNot, vAnd, vOr, vAndV, vOrV, vNotV, vIf, vANil, vACons, vONil, vOCons, vTup, vLst, vgSet, vgNil, vgCons, vgTup, vFor, vAsg, vCall, vCallO, vCallL, vHold, swapIn, putBack, vRaise, gII, gIC, vFn, vChain, gTru, vpNone, vpSome, vSl, gSlL, gSlS, vIs, vFld, vMet, vMetK, vITup, vILst, vMtL, gAppend, vLc, vYes, vIRng1, vIEnumT, vIStr, vNeg, vFz, vMove, vLend, O.root, O.fz, O.toD, gEq, gNe, gIn, gCatL, gLen, gInt, gList, gTuple, vFPut, oPut, isTD, known7, noTD, eqOk, flat4, sameK, wipeE,  List.map_cons, List.map_nil, List.cons_append, List.nil_append, List.length_cons, List.length_nil, List.replicate_succ, List.replicate_zero, List.append_nil, List.getElem?_cons_zero, List.getElem?_cons_succ, List.getElem?_nil, List.set_cons_zero, List.set_cons_succ, List.set_nil, List.getD_cons_zero, List.getD_cons_succ, List.getD_nil, List.drop_zero, List.drop_succ_cons, List.take_succ_cons, List.take_zero, List.take_nil, Bool.true_and, Bool.and_true, Bool.false_and, Bool.and_false, Bool.or_true, Bool.or_false, Bool.true_or, Bool.false_or, Bool.not_true, Bool.not_false, if_true, if_false, ite_true, ite_false, true_and, and_true, eq_self_iff_true, Bool.false_eq_true, reduceIte, Nat.reduceSub, Nat.reduceAdd, reduceCtorEq, String.reduceBEq, beq_self_eq_true, true_or, or_true, false_or, or_false, false_and, and_false, decide_true, decide_false, Bool.not_not, vgLPut]
        refine ⟨i, by rw [ixN_nat (by omega) (by simp; omega)]; simp, ?_⟩
        rw [hset]; exact H
      · simp only [mBody, vRet, vSet, vIfS, vNext, vDrop, vVar, vC, vOp, vBl, vNot, vAnd, vOr, vAndV, vOrV, vNotV, vIf, vANil, vACons, vONil, vOCons, vTup, vLst, vgSet, vgNil, vgCons, vgTup, vFor, vAsg, vCall, vCallO, vCallL, vHold, swapIn, putBack, vRaise, gII, gIC, vFn, vChain, gTru, vpNone, vpSome, vSl, gSlL, gSlS, vIs, vFld, vMet, vMetK, vITup, vILst, vMtL, gAppend, vLc, vYes, vIRng1, vIEnumT, vIStr, vNeg, vFz, vMove, vLend, O.root, O.fz, O.toD, gEq, gNe, gIn, gCatL, gLen, gInt, gList, gTuple, vFPut, oPut, isTD, known7, noTD, eqOk, flat4, sameK, wipeE,  List.map_cons, List.map_nil, List.cons_append, List.nil_append, List.length_cons, List.length_nil, List.replicate_succ, List.replicate_zero, List.append_nil, List.getElem?_cons_zero, List.getElem?_cons_succ, List.getElem?_nil, List.set_cons_zero, List.set_cons_succ, List.set_nil, List.getD_cons_zero, List.getD_cons_succ, List.getD_nil, List.drop_zero, List.drop_succ_cons, List.take_succ_cons, List.take_zero, List.take_nil, Bool.true_and, Bool.and_true, Bool.false_and, Bool.and_false, Bool.or_true, Bool.or_false, Bool.true_or, Bool.false_or, Bool.not_true, Bool.not_false, if_true, if_false, ite_true, ite_false, true_and, and_true, eq_self_iff_true, Bool.false_eq_true, reduceIte, Nat.reduceSub, Nat.reduceAdd, reduceCtorEq, String.reduceBEq, beq_self_eq_true, true_or, or_true, false_or, or_false, false_and, and_false, decide_true, decide_false, Bool.not_not]
        refine gIx_lst (d := d) (atI_nat hd) ?_
        simp only [mBody, vRet, vSet, vIfS, vNext, vDrop, vVar, vC, vOp, vBl, vNot, vAnd, vOr, vAndV, vOrV, vNotV, vIf, vANil, vACons, vONil, vOCons, vTup, vLst, vgSet, vgNil, vgCons, vgTup, vFor, vAsg, vCall, vCallO, vCallL, vHold, swapIn, putBack, vRaise, gII, gIC, vFn, vChain, gTru, vpNone, vpSome, vSl, gSlL, gSlS, vIs, vFld, vMet, vMetK, vITup, vILst, vMtL, gAppend, vLc, vYes, vIRng1, vIEnumT, vIStr, vNeg, vFz, vMove, vLend, O.root, O.fz, O.toD, gEq, gNe, gIn, gCatL, gLen, gInt, gList, gTuple, vFPut, oPut, isTD, known7, noTD, eqOk, flat4, sameK, wipeE,  List.map_cons, List.map_nil, List.cons_append, List.nil_append, List.length_cons, List.length_nil, List.replicate_succ, List.replicate_zero, List.append_nil, List.getElem?_cons_zero, List.getElem?_cons_succ, List.getElem?_nil, List.set_cons_zero, List.set_cons_succ, List.set_nil, List.getD_cons_zero, List.getD_cons_succ, List.getD_nil, List.drop_zero, List.drop_succ_cons, List.take_succ_cons, List.take_zero, List.take_nil, Bool.true_and, Bool.and_true, Bool.false_and, Bool.and_false, Bool.or_true, Bool.or_false, Bool.true_or, Bool.false_or, Bool.not_true, Bool.not_false, if_true, if_false, ite_true, ite_false, true_and, and_true, eq_self_iff_true, Bool.false_eq_true, reduceIte, Nat.reduceSub, Nat.reduceAdd, reduceCtorEq, String.reduceBEq, beq_self_eq_true, true_or, or_true, false_or, or_false, false_and, and_false, decide_true, decide_false, Bool.not_not, vgLPut]
        refine ⟨i, by rw [ixN_nat (by omega) (by simp; omega)]; simp, ?_⟩
        rw [hset]; exact H
    refine hN _ (vSeq_i fun N hN => ?_)
    suffices H : ∀ p2 c5, Good p2 → (c5 = .sh (.lst p2.ds) ∨ ∃ b, c5 = .ol b p2.ds) → N [.src s, .sh (.lst p.ds), .sh (p.tk a0), .sh (.lst o.ds), .sh (.int i), c5, .un] by
      simp only [mBody, vRet, vSet, vIfS, vNext, vDrop, vVar, vC, vOp, vBl, vNot, vAnd, vOr, vAndV, vOrV, vNotV, vIf, vANil, vACons, vONil, vOCons, vTup, vLst, vgSet, vgNil, vgCons, vgTup, vFor, vAsg, vCall, vCallO, vCallL, vHold, swapIn, putBack, vRaise, gII, gIC, vFn, vChain, gTru, vpNone, vpSome, vSl, gSlL, gSlS, vIs, vFld, vMet, vMetK, vITup, vILst, vMtL, gAppend, vLc, vYes, vIRng1, vIEnumT, vIStr, vNeg, vFz, vMove, vLend, O.root, O.fz, O.toD, gEq, gNe, gIn, gCatL, gLen, gInt, gList, gTuple, vFPut, oPut, isTD, known7, noTD, eqOk, flat4, sameK, wipeE,  List.map_cons, List.map_nil, List.cons_append, List.nil_append, List.length_cons, List.length_nil, List.replicate_succ, List.replicate_zero, List.append_nil, List.getElem?_cons_zero, List.getElem?_cons_succ, List.getElem?_nil, List.set_cons_zero, List.set_cons_succ, List.set_nil, List.getD_cons_zero, List.getD_cons_succ, List.getD_nil, List.drop_zero, List.drop_succ_cons, List.take_succ_cons, List.take_zero, List.take_nil, Bool.true_and, Bool.and_true, Bool.false_and, Bool.and_false, Bool.or_true, Bool.or_false, Bool.true_or, Bool.false_or, Bool.not_true, Bool.not_false, if_true, if_false, ite_true, ite_false, true_and, and_true, eq_self_iff_true, Bool.false_eq_true, reduceIte, Nat.reduceSub, Nat.reduceAdd, reduceCtorEq, String.reduceBEq, beq_self_eq_true, true_or, or_true, false_or, or_false, false_and, and_false, decide_true, decide_false, Bool.not_not]
      refine gIx_lst (d := .str p'.h) rfl ?_
      simp only [mBody, vRet, vSet, vIfS, vNext, vDrop, vVar, vC, vOp, vBl, vNot, vAnd, vOr, vAndV, vOrV, vNotV, vIf, vANil, vACons, vONil, vOCons, vTup, vLst, vgSet, vgNil, vgCons, vgTup, vFor, vAsg, vCall, vCallO, vCallL, vHold, swapIn, putBack, vRaise, gII, gIC, vFn, vChain, gTru, vpNone, vpSome, vSl, gSlL, gSlS, vIs, vFld, vMet, vMetK, vITup, vILst, vMtL, gAppend, vLc, vYes, vIRng1, vIEnumT, vIStr, vNeg, vFz, vMove, vLend, O.root, O.fz, O.toD, gEq, gNe, gIn, gCatL, gLen, gInt, gList, gTuple, vFPut, oPut, isTD, known7, noTD, eqOk, flat4, sameK, wipeE,  List.map_cons, List.map_nil, List.cons_append, List.nil_append, List.length_cons, List.length_nil, List.replicate_succ, List.replicate_zero, List.append_nil, List.getElem?_cons_zero, List.getElem?_cons_succ, List.getElem?_nil, List.set_cons_zero, List.set_cons_succ, List.set_nil, List.getD_cons_zero, List.getD_cons_succ, List.getD_nil, List.drop_zero, List.drop_succ_cons, List.take_succ_cons, List.take_zero, List.take_nil, Bool.true_and, Bool.and_true, Bool.false_and, Bool.and_false, Bool.or_true, Bool.or_false, Bool.true_or, Bool.false_or, Bool.not_true, Bool.not_false, if_true, if_false, ite_true, ite_false, true_and, and_true, eq_self_iff_true, Bool.false_eq_true, reduceIte, Nat.reduceSub, Nat.reduceAdd, reduceCtorEq, String.reduceBEq, beq_self_eq_true, true_or, or_true, false_or, or_false, false_and, and_false, decide_true, decide_false, Bool.not_not]
      refine gIx_lst (d := .str p'.t) rfl ?_
      simp only [mBody, vRet, vSet, vIfS, vNext, vDrop, vVar, vC, vOp, vBl, vNot, vAnd, vOr, vAndV, vOrV, vNotV, vIf, vANil, vACons, vONil, vOCons, vTup, vLst, vgSet, vgNil, vgCons, vgTup, vFor, vAsg, vCall, vCallO, vCallL, vHold, swapIn, putBack, vRaise, gII, gIC, vFn, vChain, gTru, vpNone, vpSome, vSl, gSlL, gSlS, vIs, vFld, vMet, vMetK, vITup, vILst, vMtL, gAppend, vLc, vYes, vIRng1, vIEnumT, vIStr, vNeg, vFz, vMove, vLend, O.root, O.fz, O.toD, gEq, gNe, gIn, gCatL, gLen, gInt, gList, gTuple, vFPut, oPut, isTD, known7, noTD, eqOk, flat4, sameK, wipeE,  List.map_cons, List.map_nil, List.cons_append, List.nil_append, List.length_cons, List.length_nil, List.replicate_succ, List.replicate_zero, List.append_nil, List.getElem?_cons_zero, List.getElem?_cons_succ, List.getElem?_nil, List.set_cons_zero, List.set_cons_succ, List.set_nil, List.getD_cons_zero, List.getD_cons_succ, List.getD_nil, List.drop_zero, List.drop_succ_cons, List.take_succ_cons, List.take_zero, List.take_nil, Bool.true_and, Bool.and_true, Bool.false_and, Bool.and_false, Bool.or_true, Bool.or_false, Bool.true_or, Bool.false_or, Bool.not_true, Bool.not_false, if_true, if_false, ite_true, ite_false, true_and, and_true, eq_self_iff_true, Bool.false_eq_true, reduceIte, Nat.reduceSub, Nat.reduceAdd, reduceCtorEq, String.reduceBEq, beq_self_eq_true, true_or, or_true, false_or, or_false, false_and, and_false, decide_true, decide_false, Bool.not_not, eqD_str]
      by_cases e1 : p'.h = p'.t
      · rw [decide_eq_true e1]
        simp only [if_true]
        intro b3
        exact H p _ ok (.inr ⟨b3, rfl⟩)
      · rw [decide_eq_false e1]
        simp only [Bool.false_eq_true, if_false]
        refine gIx_lst (d := .int p'.a) rfl ?_
        simp only [mBody, vRet, vSet, vIfS, vNext, vDrop, vVar, vC, vOp, vBl, vNot, vAnd, vOr, vAndV, vOrV, vNotV, vIf, vANil, vACons, vONil, vOCons, vTup, vLst, vgSet, vgNil, vgCons, vgTup, vFor, vAsg, vCall, vCallO, vCallL, vHold, swapIn, putBack, vRaise, gII, gIC, vFn, vChain, gTru, vpNone, vpSome, vSl, gSlL, gSlS, vIs, vFld, vMet, vMetK, vITup, vILst, vMtL, gAppend, vLc, vYes, vIRng1, vIEnumT, vIStr, vNeg, vFz, vMove, vLend, O.root, O.fz, O.toD, gEq, gNe, gIn, gCatL, gLen, gInt, gList, gTuple, vFPut, oPut, isTD, known7, noTD, eqOk, flat4, sameK, wipeE,  List.map_cons, List.map_nil, List.cons_append, List.nil_append, List.length_cons, List.length_nil, List.replicate_succ, List.replicate_zero, List.append_nil, List.getElem?_cons_zero, List.getElem?_cons_succ, List.getElem?_nil, List.set_cons_zero, List.set_cons_succ, List.set_nil, List.getD_cons_zero, List.getD_cons_succ, List.getD_nil, List.drop_zero, List.drop_succ_cons, List.take_succ_cons, List.take_zero, List.take_nil, Bool.true_and, Bool.and_true, Bool.false_and, Bool.and_false, Bool.or_true, Bool.or_false, Bool.true_or, Bool.false_or, Bool.not_true, Bool.not_false, if_true, if_false, ite_true, ite_false, true_and, and_true, eq_self_iff_true, Bool.false_eq_true, reduceIte, Nat.reduceSub, Nat.reduceAdd, reduceCtorEq, String.reduceBEq, beq_self_eq_true, true_or, or_true, false_or, or_false, false_and, and_false, decide_true, decide_false, Bool.not_not]
        refine gIx_lst (d := .int p'.b) rfl ?_
        simp only [mBody, vRet, vSet, vIfS, vNext, vDrop, vVar, vC, vOp, vBl, vNot, vAnd, vOr, vAndV, vOrV, vNotV, vIf, vANil, vACons, vONil, vOCons, vTup, vLst, vgSet, vgNil, vgCons, vgTup, vFor, vAsg, vCall, vCallO, vCallL, vHold, swapIn, putBack, vRaise, gII, gIC, vFn, vChain, gTru, vpNone, vpSome, vSl, gSlL, gSlS, vIs, vFld, vMet, vMetK, vITup, vILst, vMtL, gAppend, vLc, vYes, vIRng1, vIEnumT, vIStr, vNeg, vFz, vMove, vLend, O.root, O.fz, O.toD, gEq, gNe, gIn, gCatL, gLen, gInt, gList, gTuple, vFPut, oPut, isTD, known7, noTD, eqOk, flat4, sameK, wipeE,  List.map_cons, List.map_nil, List.cons_append, List.nil_append, List.length_cons, List.length_nil, List.replicate_succ, List.replicate_zero, List.append_nil, List.getElem?_cons_zero, List.getElem?_cons_succ, List.getElem?_nil, List.set_cons_zero, List.set_cons_succ, List.set_nil, List.getD_cons_zero, List.getD_cons_succ, List.getD_nil, List.drop_zero, List.drop_succ_cons, List.take_succ_cons, List.take_zero, List.take_nil, Bool.true_and, Bool.and_true, Bool.false_and, Bool.and_false, Bool.or_true, Bool.or_false, Bool.true_or, Bool.false_or, Bool.not_true, Bool.not_false, if_true, if_false, ite_true, ite_false, true_and, and_true, eq_self_iff_true, Bool.false_eq_true, reduceIte, Nat.reduceSub, Nat.reduceAdd, reduceCtorEq, String.reduceBEq, beq_self_eq_true, true_or, or_true, false_or, or_false, false_and, and_false, decide_true, decide_false, Bool.not_not]
        by_cases e2 : p'.b < p'.a
        · rw [decide_eq_true e2]
          simp only [if_true]
          intro b3
          exact H p _ ok (.inr ⟨b3, rfl⟩)
        · rw [decide_eq_false e2]
          simp only [Bool.false_eq_true, if_false]
          exact H p' _ ⟨ok', e1, by omega⟩ (.inl rfl)
    intro p2 c5 g2 hc5
    refine hN _ ?_
    have fin : ∀ {c5 : O} {E : VX}, (c5 = .sh (.lst p2.ds) ∨ ∃ b, c5 = .ol b p2.ds) → (∀ c, E.nx [.src s, .sh (.lst p.ds), .sh (p.tk a0), .sh (.lst o.ds), .sh (.int i), c, .un]) → vIfS (vBl (vOp gNe (vOp (gEqO false "Ticket" m_Ticketdd_eqdd) (vVar 2) (vCall m__law_ticket (vACons (vVar 5) vANil))) (vOp gEq (vVar 5) (vVar 1)))) (vRet (vC (.bl false))) vNext [.src s, .sh (.lst p.ds), .sh (p.tk a0), .sh (.lst o.ds), .sh (.int i), c5, .un] E := by
      intro c5 E hc hE
      rcases hc with rfl | ⟨b, rfl⟩
      · simp only [mBody, vRet, vSet, vIfS, vNext, vDrop, vVar, vC, vOp, vBl, vNot, vAnd, vOr, vAndV, vOrV, vNotV, vIf, vANil, vACons, vONil, vOCons, vTup, vLst, vgSet, vgNil, vgCons, vgTup, vFor, vAsg, vCall, vCallO, vCallL, vHold, swapIn, putBack, vRaise, gII, gIC, vFn, vChain, gTru, vpNone, vpSome, vSl, gSlL, gSlS, vIs, vFld, vMet, vMetK, vITup, vILst, vMtL, gAppend, vLc, vYes, vIRng1, vIEnumT, vIStr, vNeg, vFz, vMove, vLend, O.root, O.fz, O.toD, gEq, gNe, gIn, gCatL, gLen, gInt, gList, gTuple, vFPut, oPut, isTD, known7, noTD, eqOk, flat4, sameK, wipeE,  List.map_cons, List.map_nil, List.cons_append, List.nil_append, List.length_cons, List.length_nil, List.replicate_succ, List.replicate_zero, List.append_nil, List.getElem?_cons_zero, List.getElem?_cons_succ, List.getElem?_nil, List.set_cons_zero, List.set_cons_succ, List.set_nil, List.getD_cons_zero, List.getD_cons_succ, List.getD_nil, List.drop_zero, List.drop_succ_cons, List.take_succ_cons, List.take_zero, List.take_nil, Bool.true_and, Bool.and_true, Bool.false_and, Bool.and_false, Bool.or_true, Bool.or_false, Bool.true_or, Bool.false_or, Bool.not_true, Bool.not_false, if_true, if_false, ite_true, ite_false, true_and, and_true, eq_self_iff_true, Bool.false_eq_true, reduceIte, Nat.reduceSub, Nat.reduceAdd, reduceCtorEq, String.reduceBEq, beq_self_eq_true, true_or, or_true, false_or, or_false, false_and, and_false, decide_true, decide_false, Bool.not_not, gEqO, eqArg]
        refine made_V g2 fun a3 q3 => ?_
        simp only [tkO_toD]
        simp only [mBody, vRet, vSet, vIfS, vNext, vDrop, vVar, vC, vOp, vBl, vNot, vAnd, vOr, vAndV, vOrV, vNotV, vIf, vANil, vACons, vONil, vOCons, vTup, vLst, vgSet, vgNil, vgCons, vgTup, vFor, vAsg, vCall, vCallO, vCallL, vHold, swapIn, putBack, vRaise, gII, gIC, vFn, vChain, gTru, vpNone, vpSome, vSl, gSlL, gSlS, vIs, vFld, vMet, vMetK, vITup, vILst, vMtL, gAppend, vLc, vYes, vIRng1, vIEnumT, vIStr, vNeg, vFz, vMove, vLend, O.root, O.fz, O.toD, gEq, gNe, gIn, gCatL, gLen, gInt, gList, gTuple, vFPut, oPut, isTD, known7, noTD, eqOk, flat4, sameK, wipeE,  List.map_cons, List.map_nil, List.cons_append, List.nil_append, List.length_cons, List.length_nil, List.replicate_succ, List.replicate_zero, List.append_nil, List.getElem?_cons_zero, List.getElem?_cons_succ, List.getElem?_nil, List.set_cons_zero, List.set_cons_succ, List.set_nil, List.getD_cons_zero, List.getD_cons_succ, List.getD_nil, List.drop_zero, List.drop_succ_cons, List.take_succ_cons, List.take_zero, List.take_nil, Bool.true_and, Bool.and_true, Bool.false_and, Bool.and_false, Bool.or_true, Bool.or_false, Bool.true_or, Bool.false_or, Bool.not_true, Bool.not_false, if_true, if_false, ite_true, ite_false, true_and, and_true, eq_self_iff_true, Bool.false_eq_true, reduceIte, Nat.reduceSub, Nat.reduceAdd, reduceCtorEq, String.reduceBEq, beq_self_eq_true, true_or, or_true, false_or, or_false, false_and, and_false, decide_true, decide_false, Bool.not_not, gEqO, eqArg]
        refine eq_V ok.ok g2.ok ⟨_, rfl, ?_⟩
        refine ⟨by rw [g2.ok.lyl.ok (by decide), ok.ok.lyl.ok (by decide)]; simp, ?_⟩
        rw [eqD_lt, eqD_comm (.tup p2.ds), Bool.false_xor, eqD_bl, beq_self_eq_true]
        simp only [Bool.not_true, Bool.false_eq_true, if_false]
        exact hE _
      · simp only [mBody, vRet, vSet, vIfS, vNext, vDrop, vVar, vC, vOp, vBl, vNot, vAnd, vOr, vAndV, vOrV, vNotV, vIf, vANil, vACons, vONil, vOCons, vTup, vLst, vgSet, vgNil, vgCons, vgTup, vFor, vAsg, vCall, vCallO, vCallL, vHold, swapIn, putBack, vRaise, gII, gIC, vFn, vChain, gTru, vpNone, vpSome, vSl, gSlL, gSlS, vIs, vFld, vMet, vMetK, vITup, vILst, vMtL, gAppend, vLc, vYes, vIRng1, vIEnumT, vIStr, vNeg, vFz, vMove, vLend, O.root, O.fz, O.toD, gEq, gNe, gIn, gCatL, gLen, gInt, gList, gTuple, vFPut, oPut, isTD, known7, noTD, eqOk, flat4, sameK, wipeE,  List.map_cons, List.map_nil, List.cons_append, List.nil_append, List.length_cons, List.length_nil, List.replicate_succ, List.replicate_zero, List.append_nil, List.getElem?_cons_zero, List.getElem?_cons_succ, List.getElem?_nil, List.set_cons_zero, List.set_cons_succ, List.set_nil, List.getD_cons_zero, List.getD_cons_succ, List.getD_nil, List.drop_zero, List.drop_succ_cons, List.take_succ_cons, List.take_zero, List.take_nil, Bool.true_and, Bool.and_true, Bool.false_and, Bool.and_false, Bool.or_true, Bool.or_false, Bool.true_or, Bool.false_or, Bool.not_true, Bool.not_false, if_true, if_false, ite_true, ite_false, true_and, and_true, eq_self_iff_true, Bool.false_eq_true, reduceIte, Nat.reduceSub, Nat.reduceAdd, reduceCtorEq, String.reduceBEq, beq_self_eq_true, true_or, or_true, false_or, or_false, false_and, and_false, decide_true, decide_false, Bool.not_not, gEqO, eqArg]
        refine made_V g2 fun a3 q3 => ?_
        simp only [tkO_toD]
        simp only [mBody, vRet, vSet, vIfS, vNext, vDrop, vVar, vC, vOp, vBl, vNot, vAnd, vOr, vAndV, vOrV, vNotV, vIf, vANil, vACons, vONil, vOCons, vTup, vLst, vgSet, vgNil, vgCons, vgTup, vFor, vAsg, vCall, vCallO, vCallL, vHold, swapIn, putBack, vRaise, gII, gIC, vFn, vChain, gTru, vpNone, vpSome, vSl, gSlL, gSlS, vIs, vFld, vMet, vMetK, vITup, vILst, vMtL, gAppend, vLc, vYes, vIRng1, vIEnumT, vIStr, vNeg, vFz, vMove, vLend, O.root, O.fz, O.toD, gEq, gNe, gIn, gCatL, gLen, gInt, gList, gTuple, vFPut, oPut, isTD, known7, noTD, eqOk, flat4, sameK, wipeE,  List.map_cons, List.map_nil, List.cons_append, List.nil_append, List.length_cons, List.length_nil, List.replicate_succ, List.replicate_zero, List.append_nil, List.getElem?_cons_zero, List.getElem?_cons_succ, List.getElem?_nil, List.set_cons_zero, List.set_cons_succ, List.set_nil, List.getD_cons_zero, List.getD_cons_succ, List.getD_nil, List.drop_zero, List.drop_succ_cons, List.take_succ_cons, List.take_zero, List.take_nil, Bool.true_and, Bool.and_true, Bool.false_and, Bool.and_false, Bool.or_true, Bool.or_false, Bool.true_or, Bool.false_or, Bool.not_true, Bool.not_false, if_true, if_false, ite_true, ite_false, true_and, and_true, eq_self_iff_true, Bool.false_eq_true, reduceIte, Nat.reduceSub, Nat.reduceAdd, reduceCtorEq, String.reduceBEq, beq_self_eq_true, true_or, or_true, false_or, or_false, false_and, and_false, decide_true, decide_false, Bool.not_not, gEqO, eqArg]
        refine eq_V ok.ok g2.ok ⟨_, rfl, ?_⟩
        refine ⟨by rw [g2.ok.lyl.ok (by decide), ok.ok.lyl.ok (by decide)]; simp, ?_⟩
        rw [eqD_lt, eqD_comm (.tup p2.ds), Bool.false_xor, eqD_bl, beq_self_eq_true]
        simp only [Bool.not_true, Bool.false_eq_true, if_false]
        exact hE _
    exact fin hc5 fun c => hn _ ⟨_, _, _, .inr rfl, rfl⟩
  · rintro e ⟨c3, c4, c5, hc3, rfl⟩
    refine hN _ ?_
    simp only [mBody, vRet, vSet, vIfS, vNext, vDrop, vVar, vC, vOp, vBl, vNot, vAnd, vOr, vAndV, vOrV, vNotV, vIf, vANil, vACons, vONil, vOCons, vTup, vLst, vgSet, vgNil, vgCons, vgTup, vFor, vAsg, vCall, vCallO, vCallL, vHold, swapIn, putBack, vRaise, gII, gIC, vFn, vChain, gTru, vpNone, vpSome, vSl, gSlL, gSlS, vIs, vFld, vMet, vMetK, vITup, vILst, vMtL, gAppend, vLc, vYes, vIRng1, vIEnumT, vIStr, vNeg, vFz, vMove, vLend, O.root, O.fz, O.toD, gEq, gNe, gIn, gCatL, gLen, gInt, gList, gTuple, vFPut, oPut, isTD, known7, noTD, eqOk, flat4, sameK, wipeE,  List.map_cons, List.map_nil, List.cons_append, List.nil_append, List.length_cons, List.length_nil, List.replicate_succ, List.replicate_zero, List.append_nil, List.getElem?_cons_zero, List.getElem?_cons_succ, List.getElem?_nil, List.set_cons_zero, List.set_cons_succ, List.set_nil, List.getD_cons_zero, List.getD_cons_succ, List.getD_nil, List.drop_zero, List.drop_succ_cons, List.take_succ_cons, List.take_zero, List.take_nil, Bool.true_and, Bool.and_true, Bool.false_and, Bool.and_false, Bool.or_true, Bool.or_false, Bool.true_or, Bool.false_or, Bool.not_true, Bool.not_false, if_true, if_false, ite_true, ite_false, true_and, and_true, eq_self_iff_true, Bool.false_eq_true, reduceIte, Nat.reduceSub, Nat.reduceAdd, reduceCtorEq, String.reduceBEq, beq_self_eq_true, true_or, or_true, false_or, or_false, false_and, and_false, decide_true, decide_false, Bool.not_not]
    refine gIx_lst (d := .str p.h) rfl ?_
    simp only [mBody, vRet, vSet, vIfS, vNext, vDrop, vVar, vC, vOp, vBl, vNot, vAnd, vOr, vAndV, vOrV, vNotV, vIf, vANil, vACons, vONil, vOCons, vTup, vLst, vgSet, vgNil, vgCons, vgTup, vFor, vAsg, vCall, vCallO, vCallL, vHold, swapIn, putBack, vRaise, gII, gIC, vFn, vChain, gTru, vpNone, vpSome, vSl, gSlL, gSlS, vIs, vFld, vMet, vMetK, vITup, vILst, vMtL, gAppend, vLc, vYes, vIRng1, vIEnumT, vIStr, vNeg, vFz, vMove, vLend, O.root, O.fz, O.toD, gEq, gNe, gIn, gCatL, gLen, gInt, gList, gTuple, vFPut, oPut, isTD, known7, noTD, eqOk, flat4, sameK, wipeE,  List.map_cons, List.map_nil, List.cons_append, List.nil_append, List.length_cons, List.length_nil, List.replicate_succ, List.replicate_zero, List.append_nil, List.getElem?_cons_zero, List.getElem?_cons_succ, List.getElem?_nil, List.set_cons_zero, List.set_cons_succ, List.set_nil, List.getD_cons_zero, List.getD_cons_succ, List.getD_nil, List.drop_zero, List.drop_succ_cons, List.take_succ_cons, List.take_zero, List.take_nil, Bool.true_and, Bool.and_true, Bool.false_and, Bool.and_false, Bool.or_true, Bool.or_false, Bool.true_or, Bool.false_or, Bool.not_true, Bool.not_false, if_true, if_false, ite_true, ite_false, true_and, and_true, eq_self_iff_true, Bool.false_eq_true, reduceIte, Nat.reduceSub, Nat.reduceAdd, reduceCtorEq, String.reduceBEq, beq_self_eq_true, true_or, or_true, false_or, or_false, false_and, and_false, decide_true, decide_false, Bool.not_not]
    intro b5
    rw [show ([D.lst p.ds, D.tup p.ds, D.str p.h, D.non, D.bl true] : List D) = [D.lst p.ds, D.tup p.ds, D.str p.h, D.non, D.bl true].map id from rfl]
    refine vLcL_map (α := D) id (fun _ => D.bl false) ?_ ?_
    · intro d hd acc Nx hn
      have hd : d = .lst p.ds ∨ d = .tup p.ds ∨ d = .str p.h ∨ d = .non ∨ d = .bl true := by simpa using hd
      have key : eqArg "Ticket" d = true ∧ known7 d = true := by
        rcases hd with rfl | rfl | rfl | rfl | rfl <;> exact ⟨rfl, rfl⟩
      obtain ⟨k1, k2⟩ := key
      clear hd
      simp only [id, vgSet, vYes, vOp, vVar, O.fz, O.toD, List.getElem?_cons_zero, List.getElem?_cons_succ, List.set_cons_succ, List.set_cons_zero, gEqO, k1, true_and, if_true]
      refine Ticket_eq_no k1 k2 ⟨_, rfl, ?_⟩
      exact hn
    intro b6
    simp only [mBody, vRet, vSet, vIfS, vNext, vDrop, vVar, vC, vOp, vBl, vNot, vAnd, vOr, vAndV, vOrV, vNotV, vIf, vANil, vACons, vONil, vOCons, vTup, vLst, vgSet, vgNil, vgCons, vgTup, vFor, vAsg, vCall, vCallO, vCallL, vHold, swapIn, putBack, vRaise, gII, gIC, vFn, vChain, gTru, vpNone, vpSome, vSl, gSlL, gSlS, vIs, vFld, vMet, vMetK, vITup, vILst, vMtL, gAppend, vLc, vYes, vIRng1, vIEnumT, vIStr, vNeg, vFz, vMove, vLend, O.root, O.fz, O.toD, gEq, gNe, gIn, gCatL, gLen, gInt, gList, gTuple, vFPut, oPut, isTD, known7, noTD, eqOk, flat4, sameK, wipeE,  List.map_cons, List.map_nil, List.cons_append, List.nil_append, List.length_cons, List.length_nil, List.replicate_succ, List.replicate_zero, List.append_nil, List.getElem?_cons_zero, List.getElem?_cons_succ, List.getElem?_nil, List.set_cons_zero, List.set_cons_succ, List.set_nil, List.getD_cons_zero, List.getD_cons_succ, List.getD_nil, List.drop_zero, List.drop_succ_cons, List.take_succ_cons, List.take_zero, List.take_nil, Bool.true_and, Bool.and_true, Bool.false_and, Bool.and_false, Bool.or_true, Bool.or_false, Bool.true_or, Bool.false_or, Bool.not_true, Bool.not_false, if_true, if_false, ite_true, ite_false, true_and, and_true, eq_self_iff_true, Bool.false_eq_true, reduceIte, Nat.reduceSub, Nat.reduceAdd, reduceCtorEq, String.reduceBEq, beq_self_eq_true, true_or, or_true, false_or, or_false, false_and, and_false, decide_true, decide_false, Bool.not_not]
    exact ⟨[false, false, false, false, false], rfl, q⟩
end
section
theorem dv_non {p : Pt} (h : isNonD p.dv = true) : p.v = none := by
  obtain ⟨a, b, c, d, v, e, f⟩ := p
  cases v with
  | none => rfl
  | some ns => cases h
theorem dv_some {p : Pt} (h : isNonD p.dv = false) : ∃ ns, p.v = some ns ∧ p.dv = .lst (ns.map D.str) := by
  obtain ⟨a, b, c, d, v, e, f⟩ := p
  cases v with
  | none => cases h
  | some ns => exact ⟨ns, rfl, rfl⟩
theorem imms_strs : ∀ ns : List Str, imms (ns.map D.str) = true
  | [] => rfl
  | n :: ns => by
    show (true && imms (ns.map D.str)) = true
    rw [imms_strs ns]; rfl
theorem tkO_imm {p : Pt} {a b : Addr} : (tkO a b (.str p.h) (.str p.t) (.int p.a) (.int p.b) p.dv p.dc (.bl p.k)).imm = true := by
  obtain ⟨h, t, x, y, v, c, k⟩ := p
  have e1 : (viaO b (Pt.dv ⟨h, t, x, y, v, c, k⟩)).imm1 = true := by
    cases v with
    | none => rfl
    | some ns => exact imms_strs ns
  have e2 : (O.sh (Pt.dc ⟨h, t, x, y, v, c, k⟩)).imm1 = true := by
    cases c with
    | none => rfl
    | some z => rfl
  show ([_, _, _, _, _, _, _].all fun q : Str × O => q.2.imm1) = true
  simp only [List.all_cons, List.all_nil, e1, e2]
  rfl
theorem spoil_step {m : VM} {s b : Addr} {d : D} {l : List D} {c0 c1 c3 c4 c5 c6 c7 c8 c10 : O} {E : VX} {X : XD} (h : m [.src s, .sh (.lst l), .sh d] (fun o bk => putBack [2] bk [c0, c1, .lent s, c3, c4, c5, c6, c7, c8, .sh (.lst l), .sh d] fun e' => E.nx (e'.set 9 o)) (fun c f d2 bk => putBack [2] bk [c0, c1, .lent s, c3, c4, c5, c6, c7, c8, .sh (.lst l), .sh d] fun e' => E.xx c f d2 e')) :
    vgSet 10 (.sh d) [c0, c1, .src s, c3, c4, c5, c6, c7, c8, .ol b l, c10] (fun e1 => vSet 9 (vCallO m [2] (vOCons (vLend 2) (vOCons (vFz (vVar 9)) (vOCons (vFz (vVar 10)) vONil)))) e1 E) X := h
theorem spoil_back {s : Addr} {c0 c1 c3 c4 c5 c6 c7 c8 c9 c10 o : O} {k : DE → Prop} (h : k [c0, c1, .src s, c3, c4, c5, c6, c7, c8, o, c10]) : putBack [2] [.src s] [c0, c1, .lent s, c3, c4, c5, c6, c7, c8, c9, c10] fun e' => k (e'.set 9 o) := ⟨rfl, h⟩
theorem law_holds (ns : List Int) (hn : ns.length ≤ 63) : m_law [.sh (.lst (ns.map D.int))] (fun o _ => o = .sh (.bl true)) x0 := by
  unfold m_law mBody
  refine vSeq_i fun N hN => ?_
  simp only [mBody, vRet, vSet, vIfS, vNext, vDrop, vVar, vC, vOp, vBl, vNot, vAnd, vOr, vAndV, vOrV, vNotV, vIf, vANil, vACons, vONil, vOCons, vTup, vLst, vgSet, vgNil, vgCons, vgTup, vFor, vAsg, vCall, vCallO, vCallL, vHold, swapIn, putBack, vRaise, gII, gIC, vFn, vChain, gTru, vpNone, vpSome, vSl, gSlL, gSlS, vIs, vFld, vMet, vMetK, vITup, vILst, vMtL, gAppend, vLc, vYes, vIRng1, vIEnumT, vIStr, vNeg, vFz, vMove, vLend, O.root, O.fz, O.toD, gEq, gNe, gIn, gCatL, gLen, gInt, gList, gTuple, vFPut, oPut, isTD, known7, noTD, eqOk, flat4, sameK, wipeE,  List.map_cons, List.map_nil, List.cons_append, List.nil_append, List.length_cons, List.length_nil, List.replicate_succ, List.replicate_zero, List.append_nil, List.getElem?_cons_zero, List.getElem?_cons_succ, List.getElem?_nil, List.set_cons_zero, List.set_cons_succ, List.set_nil, List.getD_cons_zero, List.getD_cons_succ, List.getD_nil, List.drop_zero, List.drop_succ_cons, List.take_succ_cons, List.take_zero, List.take_nil, Bool.true_and, Bool.and_true, Bool.false_and, Bool.and_false, Bool.or_true, Bool.or_false, Bool.true_or, Bool.false_or, Bool.not_true, Bool.not_false, if_true, if_false, ite_true, ite_false, true_and, and_true, eq_self_iff_true, Bool.false_eq_true, reduceIte, Nat.reduceSub, Nat.reduceAdd, reduceCtorEq, String.reduceBEq, beq_self_eq_true, true_or, or_true, false_or, or_false, false_and, and_false, decide_true, decide_false, Bool.not_not]
  intro b1
  refine ⟨?_, fun b2 b3 => ?_⟩
  · rw [List.length_map, sizeLine_eq]
    omega
  have hint : ∀ d ∈ cutL (ns.map D.int ++ [D.int 0]) none (some 10), ∃ i, d = D.int i := fun d hd => by
    unfold cutL at hd
    have := List.mem_of_mem_drop (List.mem_of_mem_take hd)
    rcases List.mem_append.mp this with h | h
    · obtain ⟨i, _, rfl⟩ := List.mem_map.mp h
      exact ⟨i, rfl⟩
    · exact ⟨0, by simpa using h⟩
  refine vForL_inv (fun _ e => ∃ c1 c2 c3 c4 c5 c6 c7 c9 c10, e = [.sh (.lst (ns.map D.int)), c1, c2, c3, c4, c5, c6, c7, .un, c9, c10]) ?_ ⟨_, _, _, _, _, _, _, _, _, rfl⟩ ?_
  · rintro i d hd e ⟨c1, c2, c3, c4, c5, c6, c7, c9, c10, rfl⟩ Nx hn
    obtain ⟨cell, rfl⟩ := hint d (List.mem_of_getElem? hd)
    simp only [mBody, vRet, vSet, vIfS, vNext, vDrop, vVar, vC, vOp, vBl, vNot, vAnd, vOr, vAndV, vOrV, vNotV, vIf, vANil, vACons, vONil, vOCons, vTup, vLst, vgSet, vgNil, vgCons, vgTup, vFor, vAsg, vCall, vCallO, vCallL, vHold, swapIn, putBack, vRaise, gII, gIC, vFn, vChain, gTru, vpNone, vpSome, vSl, gSlL, gSlS, vIs, vFld, vMet, vMetK, vITup, vILst, vMtL, gAppend, vLc, vYes, vIRng1, vIEnumT, vIStr, vNeg, vFz, vMove, vLend, O.root, O.fz, O.toD, gEq, gNe, gIn, gCatL, gLen, gInt, gList, gTuple, vFPut, oPut, isTD, known7, noTD, eqOk, flat4, sameK, wipeE,  List.map_cons, List.map_nil, List.cons_append, List.nil_append, List.length_cons, List.length_nil, List.replicate_succ, List.replicate_zero, List.append_nil, List.getElem?_cons_zero, List.getElem?_cons_succ, List.getElem?_nil, List.set_cons_zero, List.set_cons_succ, List.set_nil, List.getD_cons_zero, List.getD_cons_succ, List.getD_nil, List.drop_zero, List.drop_succ_cons, List.take_succ_cons, List.take_zero, List.take_nil, Bool.true_and, Bool.and_true, Bool.false_and, Bool.and_false, Bool.or_true, Bool.or_false, Bool.true_or, Bool.false_or, Bool.not_true, Bool.not_false, if_true, if_false, ite_true, ite_false, true_and, and_true, eq_self_iff_true, Bool.false_eq_true, reduceIte, Nat.reduceSub, Nat.reduceAdd, reduceCtorEq, String.reduceBEq, beq_self_eq_true, true_or, or_true, false_or, or_false, false_and, and_false, decide_true, decide_false, Bool.not_not]
    refine vSeq_i fun N hN => ?_
    simp only [mBody, vRet, vSet, vIfS, vNext, vDrop, vVar, vC, vOp, vBl, vNot, vAnd, vOr, vAndV, vOrV, vNotV, vIf, vANil, vACons, vONil, vOCons, vTup, vLst, vgSet, vgNil, vgCons, vgTup, vFor, vAsg, vCall, vCallO, vCallL, vHold, swapIn, putBack, vRaise, gII, gIC, vFn, vChain, gTru, vpNone, vpSome, vSl, gSlL, gSlS, vIs, vFld, vMet, vMetK, vITup, vILst, vMtL, gAppend, vLc, vYes, vIRng1, vIEnumT, vIStr, vNeg, vFz, vMove, vLend, O.root, O.fz, O.toD, gEq, gNe, gIn, gCatL, gLen, gInt, gList, gTuple, vFPut, oPut, isTD, known7, noTD, eqOk, flat4, sameK, wipeE,  List.map_cons, List.map_nil, List.cons_append, List.nil_append, List.length_cons, List.length_nil, List.replicate_succ, List.replicate_zero, List.append_nil, List.getElem?_cons_zero, List.getElem?_cons_succ, List.getElem?_nil, List.set_cons_zero, List.set_cons_succ, List.set_nil, List.getD_cons_zero, List.getD_cons_succ, List.getD_nil, List.drop_zero, List.drop_succ_cons, List.take_succ_cons, List.take_zero, List.take_nil, Bool.true_and, Bool.and_true, Bool.false_and, Bool.and_false, Bool.or_true, Bool.or_false, Bool.true_or, Bool.false_or, Bool.not_true, Bool.not_false, if_true, if_false, ite_true, ite_false, true_and, and_true, eq_self_iff_true, Bool.false_eq_true, reduceIte, Nat.reduceSub, Nat.reduceAdd, reduceCtorEq, String.reduceBEq, beq_self_eq_true, true_or, or_true, false_or, or_false, false_and, and_false, decide_true, decide_false, Bool.not_not, mSource]
    intro s
    refine hN _ (vSeq_i fun N hN => ?_)
    simp only [mBody, vRet, vSet, vIfS, vNext, vDrop, vVar, vC, vOp, vBl, vNot, vAnd, vOr, vAndV, vOrV, vNotV, vIf, vANil, vACons, vONil, vOCons, vTup, vLst, vgSet, vgNil, vgCons, vgTup, vFor, vAsg, vCall, vCallO, vCallL, vHold, swapIn, putBack, vRaise, gII, gIC, vFn, vChain, gTru, vpNone, vpSome, vSl, gSlL, gSlS, vIs, vFld, vMet, vMetK, vITup, vILst, vMtL, gAppend, vLc, vYes, vIRng1, vIEnumT, vIStr, vNeg, vFz, vMove, vLend, O.root, O.fz, O.toD, gEq, gNe, gIn, gCatL, gLen, gInt, gList, gTuple, vFPut, oPut, isTD, known7, noTD, eqOk, flat4, sameK, wipeE,  List.map_cons, List.map_nil, List.cons_append, List.nil_append, List.length_cons, List.length_nil, List.replicate_succ, List.replicate_zero, List.append_nil, List.getElem?_cons_zero, List.getElem?_cons_succ, List.getElem?_nil, List.set_cons_zero, List.set_cons_succ, List.set_nil, List.getD_cons_zero, List.getD_cons_succ, List.getD_nil, List.drop_zero, List.drop_succ_cons, List.take_succ_cons, List.take_zero, List.take_nil, Bool.true_and, Bool.and_true, Bool.false_and, Bool.and_false, Bool.or_true, Bool.or_false, Bool.true_or, Bool.false_or, Bool.not_true, Bool.not_false, if_true, if_false, ite_true, ite_false, true_and, and_true, eq_self_iff_true, Bool.false_eq_true, reduceIte, Nat.reduceSub, Nat.reduceAdd, reduceCtorEq, String.reduceBEq, beq_self_eq_true, true_or, or_true, false_or, or_false, false_and, and_false, decide_true, decide_false, Bool.not_not]
    refine law_good_V fun b3 p go => ?_
    simp only [mBody, vRet, vSet, vIfS, vNext, vDrop, vVar, vC, vOp, vBl, vNot, vAnd, vOr, vAndV, vOrV, vNotV, vIf, vANil, vACons, vONil, vOCons, vTup, vLst, vgSet, vgNil, vgCons, vgTup, vFor, vAsg, vCall, vCallO, vCallL, vHold, swapIn, putBack, vRaise, gII, gIC, vFn, vChain, gTru, vpNone, vpSome, vSl, gSlL, gSlS, vIs, vFld, vMet, vMetK, vITup, vILst, vMtL, gAppend, vLc, vYes, vIRng1, vIEnumT, vIStr, vNeg, vFz, vMove, vLend, O.root, O.fz, O.toD, gEq, gNe, gIn, gCatL, gLen, gInt, gList, gTuple, vFPut, oPut, isTD, known7, noTD, eqOk, flat4, sameK, wipeE,  List.map_cons, List.map_nil, List.cons_append, List.nil_append, List.length_cons, List.length_nil, List.replicate_succ, List.replicate_zero, List.append_nil, List.getElem?_cons_zero, List.getElem?_cons_succ, List.getElem?_nil, List.set_cons_zero, List.set_cons_succ, List.set_nil, List.getD_cons_zero, List.getD_cons_succ, List.getD_nil, List.drop_zero, List.drop_succ_cons, List.take_succ_cons, List.take_zero, List.take_nil, Bool.true_and, Bool.and_true, Bool.false_and, Bool.and_false, Bool.or_true, Bool.or_false, Bool.true_or, Bool.false_or, Bool.not_true, Bool.not_false, if_true, if_false, ite_true, ite_false, true_and, and_true, eq_self_iff_true, Bool.false_eq_true, reduceIte, Nat.reduceSub, Nat.reduceAdd, reduceCtorEq, String.reduceBEq, beq_self_eq_true, true_or, or_true, false_or, or_false, false_and, and_false, decide_true, decide_false, Bool.not_not]
    refine hN _ (vSeq_i fun N hN => ?_)
    simp only [mBody, vRet, vSet, vIfS, vNext, vDrop, vVar, vC, vOp, vBl, vNot, vAnd, vOr, vAndV, vOrV, vNotV, vIf, vANil, vACons, vONil, vOCons, vTup, vLst, vgSet, vgNil, vgCons, vgTup, vFor, vAsg, vCall, vCallO, vCallL, vHold, swapIn, putBack, vRaise, gII, gIC, vFn, vChain, gTru, vpNone, vpSome, vSl, gSlL, gSlS, vIs, vFld, vMet, vMetK, vITup, vILst, vMtL, gAppend, vLc, vYes, vIRng1, vIEnumT, vIStr, vNeg, vFz, vMove, vLend, O.root, O.fz, O.toD, gEq, gNe, gIn, gCatL, gLen, gInt, gList, gTuple, vFPut, oPut, isTD, known7, noTD, eqOk, flat4, sameK, wipeE,  List.map_cons, List.map_nil, List.cons_append, List.nil_append, List.length_cons, List.length_nil, List.replicate_succ, List.replicate_zero, List.append_nil, List.getElem?_cons_zero, List.getElem?_cons_succ, List.getElem?_nil, List.set_cons_zero, List.set_cons_succ, List.set_nil, List.getD_cons_zero, List.getD_cons_succ, List.getD_nil, List.drop_zero, List.drop_succ_cons, List.take_succ_cons, List.take_zero, List.take_nil, Bool.true_and, Bool.and_true, Bool.false_and, Bool.and_false, Bool.or_true, Bool.or_false, Bool.true_or, Bool.false_or, Bool.not_true, Bool.not_false, if_true, if_false, ite_true, ite_false, true_and, and_true, eq_self_iff_true, Bool.false_eq_true, reduceIte, Nat.reduceSub, Nat.reduceAdd, reduceCtorEq, String.reduceBEq, beq_self_eq_true, true_or, or_true, false_or, or_false, false_and, and_false, decide_true, decide_false, Bool.not_not, vListL]
    intro b4
    refine hN _ (vSeq_i fun N hN => ?_)
    -- parts[4] is not None
    suffices H : ∀ c3, (c3 = .ol b3 p.ds ∧ p.v = none ∨ ∃ ms q, p.v = some ms ∧ c3 = .ll b3 [.sh (.str p.h), .sh (.str p.t), .sh (.int p.a), .sh (.int p.b), .ol q (ms.map D.str), .sh p.dc, .sh (.bl p.k)]) → N [.sh (.lst (ns.map D.int)), .sh (.int cell), .src s, c3, .ol b4 p.ds, c5, c6, c7, .un, c9, c10] by
      simp only [mBody, vRet, vSet, vIfS, vNext, vDrop, vVar, vC, vOp, vBl, vNot, vAnd, vOr, vAndV, vOrV, vNotV, vIf, vANil, vACons, vONil, vOCons, vTup, vLst, vgSet, vgNil, vgCons, vgTup, vFor, vAsg, vCall, vCallO, vCallL, vHold, swapIn, putBack, vRaise, gII, gIC, vFn, vChain, gTru, vpNone, vpSome, vSl, gSlL, gSlS, vIs, vFld, vMet, vMetK, vITup, vILst, vMtL, gAppend, vLc, vYes, vIRng1, vIEnumT, vIStr, vNeg, vFz, vMove, vLend, O.root, O.fz, O.toD, gEq, gNe, gIn, gCatL, gLen, gInt, gList, gTuple, vFPut, oPut, isTD, known7, noTD, eqOk, flat4, sameK, wipeE,  List.map_cons, List.map_nil, List.cons_append, List.nil_append, List.length_cons, List.length_nil, List.replicate_succ, List.replicate_zero, List.append_nil, List.getElem?_cons_zero, List.getElem?_cons_succ, List.getElem?_nil, List.set_cons_zero, List.set_cons_succ, List.set_nil, List.getD_cons_zero, List.getD_cons_succ, List.getD_nil, List.drop_zero, List.drop_succ_cons, List.take_succ_cons, List.take_zero, List.take_nil, Bool.true_and, Bool.and_true, Bool.false_and, Bool.and_false, Bool.or_true, Bool.or_false, Bool.true_or, Bool.false_or, Bool.not_true, Bool.not_false, if_true, if_false, ite_true, ite_false, true_and, and_true, eq_self_iff_true, Bool.false_eq_true, reduceIte, Nat.reduceSub, Nat.reduceAdd, reduceCtorEq, String.reduceBEq, beq_self_eq_true, true_or, or_true, false_or, or_false, false_and, and_false, decide_true, decide_false, Bool.not_not, vPeekB, O.seen]
      refine gIx_lst (d := p.dv) rfl ?_
      simp only [mBody, vRet, vSet, vIfS, vNext, vDrop, vVar, vC, vOp, vBl, vNot, vAnd, vOr, vAndV, vOrV, vNotV, vIf, vANil, vACons, vONil, vOCons, vTup, vLst, vgSet, vgNil, vgCons, vgTup, vFor, vAsg, vCall, vCallO, vCallL, vHold, swapIn, putBack, vRaise, gII, gIC, vFn, vChain, gTru, vpNone, vpSome, vSl, gSlL, gSlS, vIs, vFld, vMet, vMetK, vITup, vILst, vMtL, gAppend, vLc, vYes, vIRng1, vIEnumT, vIStr, vNeg, vFz, vMove, vLend, O.root, O.fz, O.toD, gEq, gNe, gIn, gCatL, gLen, gInt, gList, gTuple, vFPut, oPut, isTD, known7, noTD, eqOk, flat4, sameK, wipeE,  List.map_cons, List.map_nil, List.cons_append, List.nil_append, List.length_cons, List.length_nil, List.replicate_succ, List.replicate_zero, List.append_nil, List.getElem?_cons_zero, List.getElem?_cons_succ, List.getElem?_nil, List.set_cons_zero, List.set_cons_succ, List.set_nil, List.getD_cons_zero, List.getD_cons_succ, List.getD_nil, List.drop_zero, List.drop_succ_cons, List.take_succ_cons, List.take_zero, List.take_nil, Bool.true_and, Bool.and_true, Bool.false_and, Bool.and_false, Bool.or_true, Bool.or_false, Bool.true_or, Bool.false_or, Bool.not_true, Bool.not_false, if_true, if_false, ite_true, ite_false, true_and, and_true, eq_self_iff_true, Bool.false_eq_true, reduceIte, Nat.reduceSub, Nat.reduceAdd, reduceCtorEq, String.reduceBEq, beq_self_eq_true, true_or, or_true, false_or, or_false, false_and, and_false, decide_true, decide_false, Bool.not_not, gNotN]
      cases e : isNonD p.dv with
      | true =>
        simp only [Bool.not_true, Bool.false_eq_true, if_false]
        exact H _ (.inl ⟨rfl, dv_non e⟩)
      | false =>
        obtain ⟨ms, e1, e2⟩ := dv_some e
        simp only [Bool.not_false, if_true]
        simp only [mBody, vRet, vSet, vIfS, vNext, vDrop, vVar, vC, vOp, vBl, vNot, vAnd, vOr, vAndV, vOrV, vNotV, vIf, vANil, vACons, vONil, vOCons, vTup, vLst, vgSet, vgNil, vgCons, vgTup, vFor, vAsg, vCall, vCallO, vCallL, vHold, swapIn, putBack, vRaise, gII, gIC, vFn, vChain, gTru, vpNone, vpSome, vSl, gSlL, gSlS, vIs, vFld, vMet, vMetK, vITup, vILst, vMtL, gAppend, vLc, vYes, vIRng1, vIEnumT, vIStr, vNeg, vFz, vMove, vLend, O.root, O.fz, O.toD, gEq, gNe, gIn, gCatL, gLen, gInt, gList, gTuple, vFPut, oPut, isTD, known7, noTD, eqOk, flat4, sameK, wipeE,  List.map_cons, List.map_nil, List.cons_append, List.nil_append, List.length_cons, List.length_nil, List.replicate_succ, List.replicate_zero, List.append_nil, List.getElem?_cons_zero, List.getElem?_cons_succ, List.getElem?_nil, List.set_cons_zero, List.set_cons_succ, List.set_nil, List.getD_cons_zero, List.getD_cons_succ, List.getD_nil, List.drop_zero, List.drop_succ_cons, List.take_succ_cons, List.take_zero, List.take_nil, Bool.true_and, Bool.and_true, Bool.false_and, Bool.and_false, Bool.or_true, Bool.or_false, Bool.true_or, Bool.false_or, Bool.not_true, Bool.not_false, if_true, if_false, ite_true, ite_false, true_and, and_true, eq_self_iff_true, Bool.false_eq_true, reduceIte, Nat.reduceSub, Nat.reduceAdd, reduceCtorEq, String.reduceBEq, beq_self_eq_true, true_or, or_true, false_or, or_false, false_and, and_false, decide_true, decide_false, Bool.not_not, vPeekO, O.seen]
        refine gIx_lst (d := p.dv) rfl ?_
        rw [e2]
        simp only [mBody, vRet, vSet, vIfS, vNext, vDrop, vVar, vC, vOp, vBl, vNot, vAnd, vOr, vAndV, vOrV, vNotV, vIf, vANil, vACons, vONil, vOCons, vTup, vLst, vgSet, vgNil, vgCons, vgTup, vFor, vAsg, vCall, vCallO, vCallL, vHold, swapIn, putBack, vRaise, gII, gIC, vFn, vChain, gTru, vpNone, vpSome, vSl, gSlL, gSlS, vIs, vFld, vMet, vMetK, vITup, vILst, vMtL, gAppend, vLc, vYes, vIRng1, vIEnumT, vIStr, vNeg, vFz, vMove, vLend, O.root, O.fz, O.toD, gEq, gNe, gIn, gCatL, gLen, gInt, gList, gTuple, vFPut, oPut, isTD, known7, noTD, eqOk, flat4, sameK, wipeE,  List.map_cons, List.map_nil, List.cons_append, List.nil_append, List.length_cons, List.length_nil, List.replicate_succ, List.replicate_zero, List.append_nil, List.getElem?_cons_zero, List.getElem?_cons_succ, List.getElem?_nil, List.set_cons_zero, List.set_cons_succ, List.set_nil, List.getD_cons_zero, List.getD_cons_succ, List.getD_nil, List.drop_zero, List.drop_succ_cons, List.take_succ_cons, List.take_zero, List.take_nil, Bool.true_and, Bool.and_true, Bool.false_and, Bool.and_false, Bool.or_true, Bool.or_false, Bool.true_or, Bool.false_or, Bool.not_true, Bool.not_false, if_true, if_false, ite_true, ite_false, true_and, and_true, eq_self_iff_true, Bool.false_eq_true, reduceIte, Nat.reduceSub, Nat.reduceAdd, reduceCtorEq, String.reduceBEq, beq_self_eq_true, true_or, or_true, false_or, or_false, false_and, and_false, decide_true, decide_false, Bool.not_not, vgLPutO]
        intro q
        refine ⟨imms_strs ms, 4, rfl, by decide, ?_⟩
        exact H _ (.inr ⟨ms, q, e1, rfl⟩)
    intro c3 hc3
    refine hN _ (vSeq_i fun N hN => ?_)
    have hs : c3.seen = .sh (.lst p.ds) := by
      rcases hc3 with ⟨rfl, _⟩ | ⟨ms, q, e, rfl⟩
      · rfl
      · obtain ⟨h, t, x, y, v, c, k⟩ := p
        have e : v = some ms := e
        subst e
        rfl
    unfold vSet vPeekO
    simp only [List.map_cons, List.map_nil, hs]
    simp only [mBody, vRet, vSet, vIfS, vNext, vDrop, vVar, vC, vOp, vBl, vNot, vAnd, vOr, vAndV, vOrV, vNotV, vIf, vANil, vACons, vONil, vOCons, vTup, vLst, vgSet, vgNil, vgCons, vgTup, vFor, vAsg, vCall, vCallO, vCallL, vHold, swapIn, putBack, vRaise, gII, gIC, vFn, vChain, gTru, vpNone, vpSome, vSl, gSlL, gSlS, vIs, vFld, vMet, vMetK, vITup, vILst, vMtL, gAppend, vLc, vYes, vIRng1, vIEnumT, vIStr, vNeg, vFz, vMove, vLend, O.root, O.fz, O.toD, gEq, gNe, gIn, gCatL, gLen, gInt, gList, gTuple, vFPut, oPut, isTD, known7, noTD, eqOk, flat4, sameK, wipeE,  List.map_cons, List.map_nil, List.cons_append, List.nil_append, List.length_cons, List.length_nil, List.replicate_succ, List.replicate_zero, List.append_nil, List.getElem?_cons_zero, List.getElem?_cons_succ, List.getElem?_nil, List.set_cons_zero, List.set_cons_succ, List.set_nil, List.getD_cons_zero, List.getD_cons_succ, List.getD_nil, List.drop_zero, List.drop_succ_cons, List.take_succ_cons, List.take_zero, List.take_nil, Bool.true_and, Bool.and_true, Bool.false_and, Bool.and_false, Bool.or_true, Bool.or_false, Bool.true_or, Bool.false_or, Bool.not_true, Bool.not_false, if_true, if_false, ite_true, ite_false, true_and, and_true, eq_self_iff_true, Bool.false_eq_true, reduceIte, Nat.reduceSub, Nat.reduceAdd, reduceCtorEq, String.reduceBEq, beq_self_eq_true, true_or, or_true, false_or, or_false, false_and, and_false, decide_true, decide_false, Bool.not_not, O.seen]
    refine made_V go fun a1 q1 => ?_
    refine ⟨tkO_imm, hN _ (vSeq_i fun N hN => ?_)⟩
    unfold vIfS vPeekB
    simp only [List.map_cons, List.map_nil, hs]
    simp only [mBody, vRet, vSet, vIfS, vNext, vDrop, vVar, vC, vOp, vBl, vNot, vAnd, vOr, vAndV, vOrV, vNotV, vIf, vANil, vACons, vONil, vOCons, vTup, vLst, vgSet, vgNil, vgCons, vgTup, vFor, vAsg, vCall, vCallO, vCallL, vHold, swapIn, putBack, vRaise, gII, gIC, vFn, vChain, gTru, vpNone, vpSome, vSl, gSlL, gSlS, vIs, vFld, vMet, vMetK, vITup, vILst, vMtL, gAppend, vLc, vYes, vIRng1, vIEnumT, vIStr, vNeg, vFz, vMove, vLend, O.root, O.fz, O.toD, gEq, gNe, gIn, gCatL, gLen, gInt, gList, gTuple, vFPut, oPut, isTD, known7, noTD, eqOk, flat4, sameK, wipeE,  List.map_cons, List.map_nil, List.cons_append, List.nil_append, List.length_cons, List.length_nil, List.replicate_succ, List.replicate_zero, List.append_nil, List.getElem?_cons_zero, List.getElem?_cons_succ, List.getElem?_nil, List.set_cons_zero, List.set_cons_succ, List.set_nil, List.getD_cons_zero, List.getD_cons_succ, List.getD_nil, List.drop_zero, List.drop_succ_cons, List.take_succ_cons, List.take_zero, List.take_nil, Bool.true_and, Bool.and_true, Bool.false_and, Bool.and_false, Bool.or_true, Bool.or_false, Bool.true_or, Bool.false_or, Bool.not_true, Bool.not_false, if_true, if_false, ite_true, ite_false, true_and, and_true, eq_self_iff_true, Bool.false_eq_true, reduceIte, Nat.reduceSub, Nat.reduceAdd, reduceCtorEq, String.reduceBEq, beq_self_eq_true, true_or, or_true, false_or, or_false, false_and, and_false, decide_true, decide_false, Bool.not_not, O.seen]
    refine ⟨by rw [go.ok.lyl.ok (by decide)]; rfl, ?_⟩
    rw [go.ok.lyl.self]
    simp only [Bool.not_true, Bool.false_eq_true, if_false]
    refine hN _ (vSeq_i fun N hN => ?_)
    suffices H : ∀ c3, N [.sh (.lst (ns.map D.int)), .sh (.int cell), .src s, c3, .ol b4 p.ds, tkO a1 q1 (.str p.h) (.str p.t) (.int p.a) (.int p.b) p.dv p.dc (.bl p.k), c6, c7, .un, c9, c10] by
      unfold vIfS vPeekB
      simp only [List.map_cons, List.map_nil, hs]
      simp only [mBody, vRet, vSet, vIfS, vNext, vDrop, vVar, vC, vOp, vBl, vNot, vAnd, vOr, vAndV, vOrV, vNotV, vIf, vANil, vACons, vONil, vOCons, vTup, vLst, vgSet, vgNil, vgCons, vgTup, vFor, vAsg, vCall, vCallO, vCallL, vHold, swapIn, putBack, vRaise, gII, gIC, vFn, vChain, gTru, vpNone, vpSome, vSl, gSlL, gSlS, vIs, vFld, vMet, vMetK, vITup, vILst, vMtL, gAppend, vLc, vYes, vIRng1, vIEnumT, vIStr, vNeg, vFz, vMove, vLend, O.root, O.fz, O.toD, gEq, gNe, gIn, gCatL, gLen, gInt, gList, gTuple, vFPut, oPut, isTD, known7, noTD, eqOk, flat4, sameK, wipeE,  List.map_cons, List.map_nil, List.cons_append, List.nil_append, List.length_cons, List.length_nil, List.replicate_succ, List.replicate_zero, List.append_nil, List.getElem?_cons_zero, List.getElem?_cons_succ, List.getElem?_nil, List.set_cons_zero, List.set_cons_succ, List.set_nil, List.getD_cons_zero, List.getD_cons_succ, List.getD_nil, List.drop_zero, List.drop_succ_cons, List.take_succ_cons, List.take_zero, List.take_nil, Bool.true_and, Bool.and_true, Bool.false_and, Bool.and_false, Bool.or_true, Bool.or_false, Bool.true_or, Bool.false_or, Bool.not_true, Bool.not_false, if_true, if_false, ite_true, ite_false, true_and, and_true, eq_self_iff_true, Bool.false_eq_true, reduceIte, Nat.reduceSub, Nat.reduceAdd, reduceCtorEq, String.reduceBEq, beq_self_eq_true, true_or, or_true, false_or, or_false, false_and, and_false, decide_true, decide_false, Bool.not_not, O.seen]
      refine gIx_lst (d := p.dv) rfl ?_
      simp only [mBody, vRet, vSet, vIfS, vNext, vDrop, vVar, vC, vOp, vBl, vNot, vAnd, vOr, vAndV, vOrV, vNotV, vIf, vANil, vACons, vONil, vOCons, vTup, vLst, vgSet, vgNil, vgCons, vgTup, vFor, vAsg, vCall, vCallO, vCallL, vHold, swapIn, putBack, vRaise, gII, gIC, vFn, vChain, gTru, vpNone, vpSome, vSl, gSlL, gSlS, vIs, vFld, vMet, vMetK, vITup, vILst, vMtL, gAppend, vLc, vYes, vIRng1, vIEnumT, vIStr, vNeg, vFz, vMove, vLend, O.root, O.fz, O.toD, gEq, gNe, gIn, gCatL, gLen, gInt, gList, gTuple, vFPut, oPut, isTD, known7, noTD, eqOk, flat4, sameK, wipeE,  List.map_cons, List.map_nil, List.cons_append, List.nil_append, List.length_cons, List.length_nil, List.replicate_succ, List.replicate_zero, List.append_nil, List.getElem?_cons_zero, List.getElem?_cons_succ, List.getElem?_nil, List.set_cons_zero, List.set_cons_succ, List.set_nil, List.getD_cons_zero, List.getD_cons_succ, List.getD_nil, List.drop_zero, List.drop_succ_cons, List.take_succ_cons, List.take_zero, List.take_nil, Bool.true_and, Bool.and_true, Bool.false_and, Bool.and_false, Bool.or_true, Bool.or_false, Bool.true_or, Bool.false_or, Bool.not_true, Bool.not_false, if_true, if_false, ite_true, ite_false, true_and, and_true, eq_self_iff_true, Bool.false_eq_true, reduceIte, Nat.reduceSub, Nat.reduceAdd, reduceCtorEq, String.reduceBEq, beq_self_eq_true, true_or, or_true, false_or, or_false, false_and, and_false, decide_true, decide_false, Bool.not_not, gNotN]
      rcases hc3 with ⟨rfl, e⟩ | ⟨ms, q, e, rfl⟩
      · have : isNonD p.dv = true := by
          obtain ⟨h, t, x, y, v, c, k⟩ := p
          have e : v = none := e
          subst e
          rfl
        rw [this]
        simp only [Bool.not_true, Bool.false_eq_true, if_false]
        exact H _
      · have : isNonD p.dv = false := by
          obtain ⟨h, t, x, y, v, c, k⟩ := p
          have e : v = some ms := e
          subst e
          rfl
        rw [this]
        simp only [Bool.not_false, if_true]
        simp only [mBody, vRet, vSet, vIfS, vNext, vDrop, vVar, vC, vOp, vBl, vNot, vAnd, vOr, vAndV, vOrV, vNotV, vIf, vANil, vACons, vONil, vOCons, vTup, vLst, vgSet, vgNil, vgCons, vgTup, vFor, vAsg, vCall, vCallO, vCallL, vHold, swapIn, putBack, vRaise, gII, gIC, vFn, vChain, gTru, vpNone, vpSome, vSl, gSlL, gSlS, vIs, vFld, vMet, vMetK, vITup, vILst, vMtL, gAppend, vLc, vYes, vIRng1, vIEnumT, vIStr, vNeg, vFz, vMove, vLend, O.root, O.fz, O.toD, gEq, gNe, gIn, gCatL, gLen, gInt, gList, gTuple, vFPut, oPut, isTD, known7, noTD, eqOk, flat4, sameK, wipeE,  List.map_cons, List.map_nil, List.cons_append, List.nil_append, List.length_cons, List.length_nil, List.replicate_succ, List.replicate_zero, List.append_nil, List.getElem?_cons_zero, List.getElem?_cons_succ, List.getElem?_nil, List.set_cons_zero, List.set_cons_succ, List.set_nil, List.getD_cons_zero, List.getD_cons_succ, List.getD_nil, List.drop_zero, List.drop_succ_cons, List.take_succ_cons, List.take_zero, List.take_nil, Bool.true_and, Bool.and_true, Bool.false_and, Bool.and_false, Bool.or_true, Bool.or_false, Bool.true_or, Bool.false_or, Bool.not_true, Bool.not_false, if_true, if_false, ite_true, ite_false, true_and, and_true, eq_self_iff_true, Bool.false_eq_true, reduceIte, Nat.reduceSub, Nat.reduceAdd, reduceCtorEq, String.reduceBEq, beq_self_eq_true, true_or, or_true, false_or, or_false, false_and, and_false, decide_true, decide_false, Bool.not_not, vMtP, vlIx, vlName, rootAt, cellAt, getP, Option.bind_some, Option.isSome_some, putAt, setP]
        refine ⟨?_, H _⟩
        have := (go.ok.v ms e).1
        rw [List.length_map, sizeLine_eq]; omega
    clear hc3 hs c3
    intro c3
    refine hN _ (vSeq_i fun N hN => ?_)
    have tD : ∀ (a q : Addr), Option.map (D.obj a "Ticket") (toDF [("here", .sh (.str p.h)), ("there", .sh (.str p.t)), ("since", .sh (.int p.a)), ("till", .sh (.int p.b)), ("via", viaO q p.dv), ("bound", .sh p.dc), ("breaks", .sh (.bl p.k))]) = some (p.tk a) := fun a q => tkO_toD
    simp only [mBody, vRet, vSet, vIfS, vNext, vDrop, vVar, vC, vOp, vBl, vNot, vAnd, vOr, vAndV, vOrV, vNotV, vIf, vANil, vACons, vONil, vOCons, vTup, vLst, vgSet, vgNil, vgCons, vgTup, vFor, vAsg, vCall, vCallO, vCallL, vHold, swapIn, putBack, vRaise, gII, gIC, vFn, vChain, gTru, vpNone, vpSome, vSl, gSlL, gSlS, vIs, vFld, vMet, vMetK, vITup, vILst, vMtL, gAppend, vLc, vYes, vIRng1, vIEnumT, vIStr, vNeg, vFz, vMove, vLend, O.root, O.fz, O.toD, gEq, gNe, gIn, gCatL, gLen, gInt, gList, gTuple, vFPut, oPut, isTD, known7, noTD, eqOk, flat4, sameK, wipeE,  List.map_cons, List.map_nil, List.cons_append, List.nil_append, List.length_cons, List.length_nil, List.replicate_succ, List.replicate_zero, List.append_nil, List.getElem?_cons_zero, List.getElem?_cons_succ, List.getElem?_nil, List.set_cons_zero, List.set_cons_succ, List.set_nil, List.getD_cons_zero, List.getD_cons_succ, List.getD_nil, List.drop_zero, List.drop_succ_cons, List.take_succ_cons, List.take_zero, List.take_nil, Bool.true_and, Bool.and_true, Bool.false_and, Bool.and_false, Bool.or_true, Bool.or_false, Bool.true_or, Bool.false_or, Bool.not_true, Bool.not_false, if_true, if_false, ite_true, ite_false, true_and, and_true, eq_self_iff_true, Bool.false_eq_true, reduceIte, Nat.reduceSub, Nat.reduceAdd, reduceCtorEq, String.reduceBEq, beq_self_eq_true, true_or, or_true, false_or, or_false, false_and, and_false, decide_true, decide_false, Bool.not_not]
    rw [tD a1 q1]
    dsimp only
    refine law_told_V fun b5 => ?_
    simp only [mBody, vRet, vSet, vIfS, vNext, vDrop, vVar, vC, vOp, vBl, vNot, vAnd, vOr, vAndV, vOrV, vNotV, vIf, vANil, vACons, vONil, vOCons, vTup, vLst, vgSet, vgNil, vgCons, vgTup, vFor, vAsg, vCall, vCallO, vCallL, vHold, swapIn, putBack, vRaise, gII, gIC, vFn, vChain, gTru, vpNone, vpSome, vSl, gSlL, gSlS, vIs, vFld, vMet, vMetK, vITup, vILst, vMtL, gAppend, vLc, vYes, vIRng1, vIEnumT, vIStr, vNeg, vFz, vMove, vLend, O.root, O.fz, O.toD, gEq, gNe, gIn, gCatL, gLen, gInt, gList, gTuple, vFPut, oPut, isTD, known7, noTD, eqOk, flat4, sameK, wipeE,  List.map_cons, List.map_nil, List.cons_append, List.nil_append, List.length_cons, List.length_nil, List.replicate_succ, List.replicate_zero, List.append_nil, List.getElem?_cons_zero, List.getElem?_cons_succ, List.getElem?_nil, List.set_cons_zero, List.set_cons_succ, List.set_nil, List.getD_cons_zero, List.getD_cons_succ, List.getD_nil, List.drop_zero, List.drop_succ_cons, List.take_succ_cons, List.take_zero, List.take_nil, Bool.true_and, Bool.and_true, Bool.false_and, Bool.and_false, Bool.or_true, Bool.or_false, Bool.true_or, Bool.false_or, Bool.not_true, Bool.not_false, if_true, if_false, ite_true, ite_false, true_and, and_true, eq_self_iff_true, Bool.false_eq_true, reduceIte, Nat.reduceSub, Nat.reduceAdd, reduceCtorEq, String.reduceBEq, beq_self_eq_true, true_or, or_true, false_or, or_false, false_and, and_false, decide_true, decide_false, Bool.not_not]
    refine ⟨by rw [go.ok.lyl.ok (by decide)]; rfl, ?_⟩
    rw [go.ok.lyl.self]
    simp only [Bool.not_true, Bool.false_eq_true, if_false]
    simp only [mBody, vRet, vSet, vIfS, vNext, vDrop, vVar, vC, vOp, vBl, vNot, vAnd, vOr, vAndV, vOrV, vNotV, vIf, vANil, vACons, vONil, vOCons, vTup, vLst, vgSet, vgNil, vgCons, vgTup, vFor, vAsg, vCall, vCallO, vCallL, vHold, swapIn, putBack, vRaise, gII, gIC, vFn, vChain, gTru, vpNone, vpSome, vSl, gSlL, gSlS, vIs, vFld, vMet, vMetK, vITup, vILst, vMtL, gAppend, vLc, vYes, vIRng1, vIEnumT, vIStr, vNeg, vFz, vMove, vLend, O.root, O.fz, O.toD, gEq, gNe, gIn, gCatL, gLen, gInt, gList, gTuple, vFPut, oPut, isTD, known7, noTD, eqOk, flat4, sameK, wipeE,  List.map_cons, List.map_nil, List.cons_append, List.nil_append, List.length_cons, List.length_nil, List.replicate_succ, List.replicate_zero, List.append_nil, List.getElem?_cons_zero, List.getElem?_cons_succ, List.getElem?_nil, List.set_cons_zero, List.set_cons_succ, List.set_nil, List.getD_cons_zero, List.getD_cons_succ, List.getD_nil, List.drop_zero, List.drop_succ_cons, List.take_succ_cons, List.take_zero, List.take_nil, Bool.true_and, Bool.and_true, Bool.false_and, Bool.and_false, Bool.or_true, Bool.or_false, Bool.true_or, Bool.false_or, Bool.not_true, Bool.not_false, if_true, if_false, ite_true, ite_false, true_and, and_true, eq_self_iff_true, Bool.false_eq_true, reduceIte, Nat.reduceSub, Nat.reduceAdd, reduceCtorEq, String.reduceBEq, beq_self_eq_true, true_or, or_true, false_or, or_false, false_and, and_false, decide_true, decide_false, Bool.not_not, tk_breaks]
    refine law_equal_right_V go ?_
    simp only [mBody, vRet, vSet, vIfS, vNext, vDrop, vVar, vC, vOp, vBl, vNot, vAnd, vOr, vAndV, vOrV, vNotV, vIf, vANil, vACons, vONil, vOCons, vTup, vLst, vgSet, vgNil, vgCons, vgTup, vFor, vAsg, vCall, vCallO, vCallL, vHold, swapIn, putBack, vRaise, gII, gIC, vFn, vChain, gTru, vpNone, vpSome, vSl, gSlL, gSlS, vIs, vFld, vMet, vMetK, vITup, vILst, vMtL, gAppend, vLc, vYes, vIRng1, vIEnumT, vIStr, vNeg, vFz, vMove, vLend, O.root, O.fz, O.toD, gEq, gNe, gIn, gCatL, gLen, gInt, gList, gTuple, vFPut, oPut, isTD, known7, noTD, eqOk, flat4, sameK, wipeE,  List.map_cons, List.map_nil, List.cons_append, List.nil_append, List.length_cons, List.length_nil, List.replicate_succ, List.replicate_zero, List.append_nil, List.getElem?_cons_zero, List.getElem?_cons_succ, List.getElem?_nil, List.set_cons_zero, List.set_cons_succ, List.set_nil, List.getD_cons_zero, List.getD_cons_succ, List.getD_nil, List.drop_zero, List.drop_succ_cons, List.take_succ_cons, List.take_zero, List.take_nil, Bool.true_and, Bool.and_true, Bool.false_and, Bool.and_false, Bool.or_true, Bool.or_false, Bool.true_or, Bool.false_or, Bool.not_true, Bool.not_false, if_true, if_false, ite_true, ite_false, true_and, and_true, eq_self_iff_true, Bool.false_eq_true, reduceIte, Nat.reduceSub, Nat.reduceAdd, reduceCtorEq, String.reduceBEq, beq_self_eq_true, true_or, or_true, false_or, or_false, false_and, and_false, decide_true, decide_false, Bool.not_not]
    refine hN _ (vSeq_i fun N hN => ?_)
    simp only [mBody, vRet, vSet, vIfS, vNext, vDrop, vVar, vC, vOp, vBl, vNot, vAnd, vOr, vAndV, vOrV, vNotV, vIf, vANil, vACons, vONil, vOCons, vTup, vLst, vgSet, vgNil, vgCons, vgTup, vFor, vAsg, vCall, vCallO, vCallL, vHold, swapIn, putBack, vRaise, gII, gIC, vFn, vChain, gTru, vpNone, vpSome, vSl, gSlL, gSlS, vIs, vFld, vMet, vMetK, vITup, vILst, vMtL, gAppend, vLc, vYes, vIRng1, vIEnumT, vIStr, vNeg, vFz, vMove, vLend, O.root, O.fz, O.toD, gEq, gNe, gIn, gCatL, gLen, gInt, gList, gTuple, vFPut, oPut, isTD, known7, noTD, eqOk, flat4, sameK, wipeE,  List.map_cons, List.map_nil, List.cons_append, List.nil_append, List.length_cons, List.length_nil, List.replicate_succ, List.replicate_zero, List.append_nil, List.getElem?_cons_zero, List.getElem?_cons_succ, List.getElem?_nil, List.set_cons_zero, List.set_cons_succ, List.set_nil, List.getD_cons_zero, List.getD_cons_succ, List.getD_nil, List.drop_zero, List.drop_succ_cons, List.take_succ_cons, List.take_zero, List.take_nil, Bool.true_and, Bool.and_true, Bool.false_and, Bool.and_false, Bool.or_true, Bool.or_false, Bool.true_or, Bool.false_or, Bool.not_true, Bool.not_false, if_true, if_false, ite_true, ite_false, true_and, and_true, eq_self_iff_true, Bool.false_eq_true, reduceIte, Nat.reduceSub, Nat.reduceAdd, reduceCtorEq, String.reduceBEq, beq_self_eq_true, true_or, or_true, false_or, or_false, false_and, and_false, decide_true, decide_false, Bool.not_not, vMk]
    refine gIx_lst (d := .str p.t) rfl ?_
    simp only [mBody, vRet, vSet, vIfS, vNext, vDrop, vVar, vC, vOp, vBl, vNot, vAnd, vOr, vAndV, vOrV, vNotV, vIf, vANil, vACons, vONil, vOCons, vTup, vLst, vgSet, vgNil, vgCons, vgTup, vFor, vAsg, vCall, vCallO, vCallL, vHold, swapIn, putBack, vRaise, gII, gIC, vFn, vChain, gTru, vpNone, vpSome, vSl, gSlL, gSlS, vIs, vFld, vMet, vMetK, vITup, vILst, vMtL, gAppend, vLc, vYes, vIRng1, vIEnumT, vIStr, vNeg, vFz, vMove, vLend, O.root, O.fz, O.toD, gEq, gNe, gIn, gCatL, gLen, gInt, gList, gTuple, vFPut, oPut, isTD, known7, noTD, eqOk, flat4, sameK, wipeE,  List.map_cons, List.map_nil, List.cons_append, List.nil_append, List.length_cons, List.length_nil, List.replicate_succ, List.replicate_zero, List.append_nil, List.getElem?_cons_zero, List.getElem?_cons_succ, List.getElem?_nil, List.set_cons_zero, List.set_cons_succ, List.set_nil, List.getD_cons_zero, List.getD_cons_succ, List.getD_nil, List.drop_zero, List.drop_succ_cons, List.take_succ_cons, List.take_zero, List.take_nil, Bool.true_and, Bool.and_true, Bool.false_and, Bool.and_false, Bool.or_true, Bool.or_false, Bool.true_or, Bool.false_or, Bool.not_true, Bool.not_false, if_true, if_false, ite_true, ite_false, true_and, and_true, eq_self_iff_true, Bool.false_eq_true, reduceIte, Nat.reduceSub, Nat.reduceAdd, reduceCtorEq, String.reduceBEq, beq_self_eq_true, true_or, or_true, false_or, or_false, false_and, and_false, decide_true, decide_false, Bool.not_not]
    refine gIx_lst (d := .str p.h) rfl ?_
    simp only [mBody, vRet, vSet, vIfS, vNext, vDrop, vVar, vC, vOp, vBl, vNot, vAnd, vOr, vAndV, vOrV, vNotV, vIf, vANil, vACons, vONil, vOCons, vTup, vLst, vgSet, vgNil, vgCons, vgTup, vFor, vAsg, vCall, vCallO, vCallL, vHold, swapIn, putBack, vRaise, gII, gIC, vFn, vChain, gTru, vpNone, vpSome, vSl, gSlL, gSlS, vIs, vFld, vMet, vMetK, vITup, vILst, vMtL, gAppend, vLc, vYes, vIRng1, vIEnumT, vIStr, vNeg, vFz, vMove, vLend, O.root, O.fz, O.toD, gEq, gNe, gIn, gCatL, gLen, gInt, gList, gTuple, vFPut, oPut, isTD, known7, noTD, eqOk, flat4, sameK, wipeE,  List.map_cons, List.map_nil, List.cons_append, List.nil_append, List.length_cons, List.length_nil, List.replicate_succ, List.replicate_zero, List.append_nil, List.getElem?_cons_zero, List.getElem?_cons_succ, List.getElem?_nil, List.set_cons_zero, List.set_cons_succ, List.set_nil, List.getD_cons_zero, List.getD_cons_succ, List.getD_nil, List.drop_zero, List.drop_succ_cons, List.take_succ_cons, List.take_zero, List.take_nil, Bool.true_and, Bool.and_true, Bool.false_and, Bool.and_false, Bool.or_true, Bool.or_false, Bool.true_or, Bool.false_or, Bool.not_true, Bool.not_false, if_true, if_false, ite_true, ite_false, true_and, and_true, eq_self_iff_true, Bool.false_eq_true, reduceIte, Nat.reduceSub, Nat.reduceAdd, reduceCtorEq, String.reduceBEq, beq_self_eq_true, true_or, or_true, false_or, or_false, false_and, and_false, decide_true, decide_false, Bool.not_not]
    intro a2
    have ok2 : Good ⟨p.h, p.t, 0, 1440, none, none, true⟩ := ⟨⟨go.ok.h, go.ok.t, show (0 : Int) ≤ 0 by decide, show (0 : Int) ≤ 1440 by decide, show (0 : Int) ≤ 1440 by decide, show (1440 : Int) ≤ 1440 by decide, (fun ms e => by cases e), (fun z e => by cases e)⟩, go.ne, show (0 : Int) ≤ 1440 by decide⟩
    refine Ticket_init_V ok2.ok.gp (fun _ qa => ?_) fun wd h => by rw [ok2.ok.good ok2.ne ok2.ab] at h; cases h
    simp only [mBody, vRet, vSet, vIfS, vNext, vDrop, vVar, vC, vOp, vBl, vNot, vAnd, vOr, vAndV, vOrV, vNotV, vIf, vANil, vACons, vONil, vOCons, vTup, vLst, vgSet, vgNil, vgCons, vgTup, vFor, vAsg, vCall, vCallO, vCallL, vHold, swapIn, putBack, vRaise, gII, gIC, vFn, vChain, gTru, vpNone, vpSome, vSl, gSlL, gSlS, vIs, vFld, vMet, vMetK, vITup, vILst, vMtL, gAppend, vLc, vYes, vIRng1, vIEnumT, vIStr, vNeg, vFz, vMove, vLend, O.root, O.fz, O.toD, gEq, gNe, gIn, gCatL, gLen, gInt, gList, gTuple, vFPut, oPut, isTD, known7, noTD, eqOk, flat4, sameK, wipeE,  List.map_cons, List.map_nil, List.cons_append, List.nil_append, List.length_cons, List.length_nil, List.replicate_succ, List.replicate_zero, List.append_nil, List.getElem?_cons_zero, List.getElem?_cons_succ, List.getElem?_nil, List.set_cons_zero, List.set_cons_succ, List.set_nil, List.getD_cons_zero, List.getD_cons_succ, List.getD_nil, List.drop_zero, List.drop_succ_cons, List.take_succ_cons, List.take_zero, List.take_nil, Bool.true_and, Bool.and_true, Bool.false_and, Bool.and_false, Bool.or_true, Bool.or_false, Bool.true_or, Bool.false_or, Bool.not_true, Bool.not_false, if_true, if_false, ite_true, ite_false, true_and, and_true, eq_self_iff_true, Bool.false_eq_true, reduceIte, Nat.reduceSub, Nat.reduceAdd, reduceCtorEq, String.reduceBEq, beq_self_eq_true, true_or, or_true, false_or, or_false, false_and, and_false, decide_true, decide_false, Bool.not_not]
    refine hN _ (vSeq_i fun N hN => ?_)
    simp only [mBody, vRet, vSet, vIfS, vNext, vDrop, vVar, vC, vOp, vBl, vNot, vAnd, vOr, vAndV, vOrV, vNotV, vIf, vANil, vACons, vONil, vOCons, vTup, vLst, vgSet, vgNil, vgCons, vgTup, vFor, vAsg, vCall, vCallO, vCallL, vHold, swapIn, putBack, vRaise, gII, gIC, vFn, vChain, gTru, vpNone, vpSome, vSl, gSlL, gSlS, vIs, vFld, vMet, vMetK, vITup, vILst, vMtL, gAppend, vLc, vYes, vIRng1, vIEnumT, vIStr, vNeg, vFz, vMove, vLend, O.root, O.fz, O.toD, gEq, gNe, gIn, gCatL, gLen, gInt, gList, gTuple, vFPut, oPut, isTD, known7, noTD, eqOk, flat4, sameK, wipeE,  List.map_cons, List.map_nil, List.cons_append, List.nil_append, List.length_cons, List.length_nil, List.replicate_succ, List.replicate_zero, List.append_nil, List.getElem?_cons_zero, List.getElem?_cons_succ, List.getElem?_nil, List.set_cons_zero, List.set_cons_succ, List.set_nil, List.getD_cons_zero, List.getD_cons_succ, List.getD_nil, List.drop_zero, List.drop_succ_cons, List.take_succ_cons, List.take_zero, List.take_nil, Bool.true_and, Bool.and_true, Bool.false_and, Bool.and_false, Bool.or_true, Bool.or_false, Bool.true_or, Bool.false_or, Bool.not_true, Bool.not_false, if_true, if_false, ite_true, ite_false, true_and, and_true, eq_self_iff_true, Bool.false_eq_true, reduceIte, Nat.reduceSub, Nat.reduceAdd, reduceCtorEq, String.reduceBEq, beq_self_eq_true, true_or, or_true, false_or, or_false, false_and, and_false, decide_true, decide_false, Bool.not_not, viaO, toDF, Option.map_some]
    refine law_told_V fun b6 => ?_
    simp only [mBody, vRet, vSet, vIfS, vNext, vDrop, vVar, vC, vOp, vBl, vNot, vAnd, vOr, vAndV, vOrV, vNotV, vIf, vANil, vACons, vONil, vOCons, vTup, vLst, vgSet, vgNil, vgCons, vgTup, vFor, vAsg, vCall, vCallO, vCallL, vHold, swapIn, putBack, vRaise, gII, gIC, vFn, vChain, gTru, vpNone, vpSome, vSl, gSlL, gSlS, vIs, vFld, vMet, vMetK, vITup, vILst, vMtL, gAppend, vLc, vYes, vIRng1, vIEnumT, vIStr, vNeg, vFz, vMove, vLend, O.root, O.fz, O.toD, gEq, gNe, gIn, gCatL, gLen, gInt, gList, gTuple, vFPut, oPut, isTD, known7, noTD, eqOk, flat4, sameK, wipeE,  List.map_cons, List.map_nil, List.cons_append, List.nil_append, List.length_cons, List.length_nil, List.replicate_succ, List.replicate_zero, List.append_nil, List.getElem?_cons_zero, List.getElem?_cons_succ, List.getElem?_nil, List.set_cons_zero, List.set_cons_succ, List.set_nil, List.getD_cons_zero, List.getD_cons_succ, List.getD_nil, List.drop_zero, List.drop_succ_cons, List.take_succ_cons, List.take_zero, List.take_nil, Bool.true_and, Bool.and_true, Bool.false_and, Bool.and_false, Bool.or_true, Bool.or_false, Bool.true_or, Bool.false_or, Bool.not_true, Bool.not_false, if_true, if_false, ite_true, ite_false, true_and, and_true, eq_self_iff_true, Bool.false_eq_true, reduceIte, Nat.reduceSub, Nat.reduceAdd, reduceCtorEq, String.reduceBEq, beq_self_eq_true, true_or, or_true, false_or, or_false, false_and, and_false, decide_true, decide_false, Bool.not_not]
    rw [show cutL p.ds none (some 2) = [D.str p.h, D.str p.t] from cutL_to (by decide)]
    intro b7 b8
    refine ⟨by rw [sizeLine_eq]; exact Nat.le_of_ble_eq_true rfl, fun b9 => ?_⟩
    have ly2 := ok2.ok.lyl
    refine ⟨by rw [show lay (D.lst ([D.str p.h, D.str p.t] ++ [D.int 0, D.int 1440, D.non, D.non, D.bl true])) = true from ly2.ok (by decide)]; rw [show lay (D.lst [D.str p.h, D.str p.t, D.int 0, D.int 1440, D.non, D.non, D.bl true]) = true from ly2.ok (by decide)]; rfl, ?_⟩
    rw [show eqD (D.lst [D.str p.h, D.str p.t, D.int 0, D.int 1440, D.non, D.non, D.bl true]) (D.lst ([D.str p.h, D.str p.t] ++ [D.int 0, D.int 1440, D.non, D.non, D.bl true])) = true from ly2.self]
    simp only [Bool.not_true, Bool.false_eq_true, if_false]
    refine hN _ (vSeq_i fun N hN => ?_)
    simp only [mBody, vRet, vSet, vIfS, vNext, vDrop, vVar, vC, vOp, vBl, vNot, vAnd, vOr, vAndV, vOrV, vNotV, vIf, vANil, vACons, vONil, vOCons, vTup, vLst, vgSet, vgNil, vgCons, vgTup, vFor, vAsg, vCall, vCallO, vCallL, vHold, swapIn, putBack, vRaise, gII, gIC, vFn, vChain, gTru, vpNone, vpSome, vSl, gSlL, gSlS, vIs, vFld, vMet, vMetK, vITup, vILst, vMtL, gAppend, vLc, vYes, vIRng1, vIEnumT, vIStr, vNeg, vFz, vMove, vLend, O.root, O.fz, O.toD, gEq, gNe, gIn, gCatL, gLen, gInt, gList, gTuple, vFPut, oPut, isTD, known7, noTD, eqOk, flat4, sameK, wipeE,  List.map_cons, List.map_nil, List.cons_append, List.nil_append, List.length_cons, List.length_nil, List.replicate_succ, List.replicate_zero, List.append_nil, List.getElem?_cons_zero, List.getElem?_cons_succ, List.getElem?_nil, List.set_cons_zero, List.set_cons_succ, List.set_nil, List.getD_cons_zero, List.getD_cons_succ, List.getD_nil, List.drop_zero, List.drop_succ_cons, List.take_succ_cons, List.take_zero, List.take_nil, Bool.true_and, Bool.and_true, Bool.false_and, Bool.and_false, Bool.or_true, Bool.or_false, Bool.true_or, Bool.false_or, Bool.not_true, Bool.not_false, if_true, if_false, ite_true, ite_false, true_and, and_true, eq_self_iff_true, Bool.false_eq_true, reduceIte, Nat.reduceSub, Nat.reduceAdd, reduceCtorEq, String.reduceBEq, beq_self_eq_true, true_or, or_true, false_or, or_false, false_and, and_false, decide_true, decide_false, Bool.not_not, mTake, vSortSet]
    refine ⟨by decide, by decide, fun m m0 m1 => ?_⟩
    refine ⟨by omega, by omega, ?_⟩
    generalize hpl : (D.obj a2 "Ticket" [("here", .str p.h), ("there", .str p.t), ("since", .int 0), ("till", .int 1440), ("via", .non), ("bound", .non), ("breaks", .bl true)]) = pl
    refine vLcL_inv (fun i acc e => ∃ ks : List Int, ks.length = i ∧ (∀ k ∈ ks, 0 ≤ k ∧ k < 7) ∧ acc = ks.map D.int ∧ e = [.sh (.lst (ns.map D.int)), .sh (.int cell), .src s, c3, .sh (.lst p.ds), .sh (p.tk a1), .sh pl, c7, .un, c9, c10]) ?_ ⟨[], rfl, (by intro k hk; cases hk), rfl, rfl⟩ ?_
    · rintro i d hd acc e ⟨ks, l1, hk, rfl, rfl⟩ Nx hn
      simp only [mBody, vRet, vSet, vIfS, vNext, vDrop, vVar, vC, vOp, vBl, vNot, vAnd, vOr, vAndV, vOrV, vNotV, vIf, vANil, vACons, vONil, vOCons, vTup, vLst, vgSet, vgNil, vgCons, vgTup, vFor, vAsg, vCall, vCallO, vCallL, vHold, swapIn, putBack, vRaise, gII, gIC, vFn, vChain, gTru, vpNone, vpSome, vSl, gSlL, gSlS, vIs, vFld, vMet, vMetK, vITup, vILst, vMtL, gAppend, vLc, vYes, vIRng1, vIEnumT, vIStr, vNeg, vFz, vMove, vLend, O.root, O.fz, O.toD, gEq, gNe, gIn, gCatL, gLen, gInt, gList, gTuple, vFPut, oPut, isTD, known7, noTD, eqOk, flat4, sameK, wipeE,  List.map_cons, List.map_nil, List.cons_append, List.nil_append, List.length_cons, List.length_nil, List.replicate_succ, List.replicate_zero, List.append_nil, List.getElem?_cons_zero, List.getElem?_cons_succ, List.getElem?_nil, List.set_cons_zero, List.set_cons_succ, List.set_nil, List.getD_cons_zero, List.getD_cons_succ, List.getD_nil, List.drop_zero, List.drop_succ_cons, List.take_succ_cons, List.take_zero, List.take_nil, Bool.true_and, Bool.and_true, Bool.false_and, Bool.and_false, Bool.or_true, Bool.or_false, Bool.true_or, Bool.false_or, Bool.not_true, Bool.not_false, if_true, if_false, ite_true, ite_false, true_and, and_true, eq_self_iff_true, Bool.false_eq_true, reduceIte, Nat.reduceSub, Nat.reduceAdd, reduceCtorEq, String.reduceBEq, beq_self_eq_true, true_or, or_true, false_or, or_false, false_and, and_false, decide_true, decide_false, Bool.not_not, mTake]
      refine ⟨by decide, by decide, fun r r0 r1 => hn _ _ ⟨ks ++ [r], by simp [l1], fun k hk2 => ?_, by simp, rfl⟩⟩
      rcases List.mem_append.mp hk2 with h | h
      · exact hk k h
      · rw [List.mem_singleton.mp h]; exact ⟨r0, r1⟩
    rintro acc e ⟨ks, l1, hk, rfl, rfl⟩ b10
    rw [List.length_map, List.length_range] at l1
    refine ⟨ks, rfl, by omega, fun b11 ms hsort hmem => ?_⟩
    have hms : ∀ k ∈ ms, 0 ≤ k ∧ k < 7 := fun k h => hk k ((hmem k).mp h)
    obtain ⟨a, rest, rfl⟩ : ∃ a rest, ms = a :: rest := by
      cases ms with
      | nil =>
        cases ks with
        | nil => simp at l1; omega
        | cons k ks => exact absurd ((hmem k).mpr (by simp)) (by simp)
      | cons a rest => exact ⟨a, rest, rfl⟩
    obtain ⟨a, rfl⟩ : ∃ n : Nat, a = n := ⟨a.toNat, by have := (hms a (by simp)).1; omega⟩
    have ha6 : a ≤ 6 := by have := (hms a (by simp)).2; omega
    have hgt : ∀ k ∈ rest, (a : Int) < k := fun k h => (List.pairwise_cons.mp hsort).1 k h
    simp only [mBody, vRet, vSet, vIfS, vNext, vDrop, vVar, vC, vOp, vBl, vNot, vAnd, vOr, vAndV, vOrV, vNotV, vIf, vANil, vACons, vONil, vOCons, vTup, vLst, vgSet, vgNil, vgCons, vgTup, vFor, vAsg, vCall, vCallO, vCallL, vHold, swapIn, putBack, vRaise, gII, gIC, vFn, vChain, gTru, vpNone, vpSome, vSl, gSlL, gSlS, vIs, vFld, vMet, vMetK, vITup, vILst, vMtL, gAppend, vLc, vYes, vIRng1, vIEnumT, vIStr, vNeg, vFz, vMove, vLend, O.root, O.fz, O.toD, gEq, gNe, gIn, gCatL, gLen, gInt, gList, gTuple, vFPut, oPut, isTD, known7, noTD, eqOk, flat4, sameK, wipeE,  List.map_cons, List.map_nil, List.cons_append, List.nil_append, List.length_cons, List.length_nil, List.replicate_succ, List.replicate_zero, List.append_nil, List.getElem?_cons_zero, List.getElem?_cons_succ, List.getElem?_nil, List.set_cons_zero, List.set_cons_succ, List.set_nil, List.getD_cons_zero, List.getD_cons_succ, List.getD_nil, List.drop_zero, List.drop_succ_cons, List.take_succ_cons, List.take_zero, List.take_nil, Bool.true_and, Bool.and_true, Bool.false_and, Bool.and_false, Bool.or_true, Bool.or_false, Bool.true_or, Bool.false_or, Bool.not_true, Bool.not_false, if_true, if_false, ite_true, ite_false, true_and, and_true, eq_self_iff_true, Bool.false_eq_true, reduceIte, Nat.reduceSub, Nat.reduceAdd, reduceCtorEq, String.reduceBEq, beq_self_eq_true, true_or, or_true, false_or, or_false, false_and, and_false, decide_true, decide_false, Bool.not_not]
    refine hN _ (vSeq_i fun N hN => ?_)
    simp only [mBody, vRet, vSet, vIfS, vNext, vDrop, vVar, vC, vOp, vBl, vNot, vAnd, vOr, vAndV, vOrV, vNotV, vIf, vANil, vACons, vONil, vOCons, vTup, vLst, vgSet, vgNil, vgCons, vgTup, vFor, vAsg, vCall, vCallO, vCallL, vHold, swapIn, putBack, vRaise, gII, gIC, vFn, vChain, gTru, vpNone, vpSome, vSl, gSlL, gSlS, vIs, vFld, vMet, vMetK, vITup, vILst, vMtL, gAppend, vLc, vYes, vIRng1, vIEnumT, vIStr, vNeg, vFz, vMove, vLend, O.root, O.fz, O.toD, gEq, gNe, gIn, gCatL, gLen, gInt, gList, gTuple, vFPut, oPut, isTD, known7, noTD, eqOk, flat4, sameK, wipeE,  List.map_cons, List.map_nil, List.cons_append, List.nil_append, List.length_cons, List.length_nil, List.replicate_succ, List.replicate_zero, List.append_nil, List.getElem?_cons_zero, List.getElem?_cons_succ, List.getElem?_nil, List.set_cons_zero, List.set_cons_succ, List.set_nil, List.getD_cons_zero, List.getD_cons_succ, List.getD_nil, List.drop_zero, List.drop_succ_cons, List.take_succ_cons, List.take_zero, List.take_nil, Bool.true_and, Bool.and_true, Bool.false_and, Bool.and_false, Bool.or_true, Bool.or_false, Bool.true_or, Bool.false_or, Bool.not_true, Bool.not_false, if_true, if_false, ite_true, ite_false, true_and, and_true, eq_self_iff_true, Bool.false_eq_true, reduceIte, Nat.reduceSub, Nat.reduceAdd, reduceCtorEq, String.reduceBEq, beq_self_eq_true, true_or, or_true, false_or, or_false, false_and, and_false, decide_true, decide_false, Bool.not_not]
    intro b12
    refine hN _ (vSeq_i fun N hN => ?_)
    simp only [mBody, vRet, vSet, vIfS, vNext, vDrop, vVar, vC, vOp, vBl, vNot, vAnd, vOr, vAndV, vOrV, vNotV, vIf, vANil, vACons, vONil, vOCons, vTup, vLst, vgSet, vgNil, vgCons, vgTup, vFor, vAsg, vCall, vCallO, vCallL, vHold, swapIn, putBack, vRaise, gII, gIC, vFn, vChain, gTru, vpNone, vpSome, vSl, gSlL, gSlS, vIs, vFld, vMet, vMetK, vITup, vILst, vMtL, gAppend, vLc, vYes, vIRng1, vIEnumT, vIStr, vNeg, vFz, vMove, vLend, O.root, O.fz, O.toD, gEq, gNe, gIn, gCatL, gLen, gInt, gList, gTuple, vFPut, oPut, isTD, known7, noTD, eqOk, flat4, sameK, wipeE,  List.map_cons, List.map_nil, List.cons_append, List.nil_append, List.length_cons, List.length_nil, List.replicate_succ, List.replicate_zero, List.append_nil, List.getElem?_cons_zero, List.getElem?_cons_succ, List.getElem?_nil, List.set_cons_zero, List.set_cons_succ, List.set_nil, List.getD_cons_zero, List.getD_cons_succ, List.getD_nil, List.drop_zero, List.drop_succ_cons, List.take_succ_cons, List.take_zero, List.take_nil, Bool.true_and, Bool.and_true, Bool.false_and, Bool.and_false, Bool.or_true, Bool.or_false, Bool.true_or, Bool.false_or, Bool.not_true, Bool.not_false, if_true, if_false, ite_true, ite_false, true_and, and_true, eq_self_iff_true, Bool.false_eq_true, reduceIte, Nat.reduceSub, Nat.reduceAdd, reduceCtorEq, String.reduceBEq, beq_self_eq_true, true_or, or_true, false_or, or_false, false_and, and_false, decide_true, decide_false, Bool.not_not]
    refine vForL_inv (fun j e => ∃ l c10, Gl l ∧ (j = 0 → l = p.ds) ∧ (0 < j → (∀ i, i < a → l[i]? = p.ds[i]?) ∧ ∃ e1, l[a]? = some e1 ∧ Sp a (.str p.h) e1) ∧ ∃ b, e = [.sh (.lst (ns.map D.int)), .sh (.int cell), .src s, c3, .sh (.lst p.ds), .sh (p.tk a1), .sh pl, .sh (.lst (D.int a :: rest.map D.int)), .un, .ol b l, c10]) ?_ ⟨p.ds, c10, go.ok.gp.gl, (fun _ => rfl), (fun z => absurd z (by decide)), b12, rfl⟩ ?_
    · rintro j d hd e ⟨l, c10, gl, h0, h1, b, rfl⟩ Nx hn
      obtain ⟨d0, d1, d2, d3, d4, d5, d6, rfl⟩ := gl.seven
      refine spoil_step ?_
      cases j with
      | zero =>
        have e0 : d = .int a := by simpa using hd.symm
        subst e0
        have hl := h0 rfl
        refine law_spoilt_V ha6 gl.gp.g0 fun b13 e2 sp => spoil_back ?_
        refine hn _ ⟨_, _, gl.set sp, (fun z => by cases z), (fun _ => ⟨fun i hi => ?_, e2, ?_, ?_⟩), b13, rfl⟩
        · rw [List.getElem?_set_ne (by omega), hl]
        · rw [List.getElem?_set_self (by simp; omega)]
        · have : d0 = .str p.h := by injection hl
          rw [this] at sp; exact sp
      | succ j =>
        obtain ⟨same, e1, he1, sp1⟩ := h1 (by omega)
        have hd2 : (rest.map D.int)[j]? = some d := by simpa using hd
        obtain ⟨k, hk2, rfl⟩ := map_get hd2
        have hkm := List.mem_of_getElem? hk2
        have k7 := hms k (List.mem_cons_of_mem _ hkm)
        have kgt := hgt k hkm
        obtain ⟨n, rfl⟩ : ∃ n : Nat, k = n := ⟨k.toNat, by omega⟩
        refine law_spoilt_V (a := n) (by omega) gl.gp.g0 fun b13 e2 sp => spoil_back ?_
        refine hn _ ⟨_, _, gl.set sp, (fun z => by cases z), (fun _ => ⟨fun i hi => ?_, e1, ?_, sp1⟩), b13, rfl⟩
        · rw [List.getElem?_set_ne (by omega)]; exact same i hi
        · rw [List.getElem?_set_ne (by omega)]; exact he1
    · rintro e ⟨l, c10, gl, h0, h1, b, rfl⟩
      refine hN _ ?_
      obtain ⟨same, e1, he1, sp1⟩ := h1 (by simp)
      obtain ⟨d0, d1, d2, d3, d4, d5, d6, rfl⟩ := gl.seven
      have bad := tkBad_at go ha6 same he1 sp1
      obtain ⟨wd, hw⟩ : ∃ wd, wordT[a]? = some wd := ⟨_, List.getElem?_eq_getElem (show a < wordT.length from by show a < 7; omega)⟩
      rw [hw] at bad
      simp only [mBody, vRet, vSet, vIfS, vNext, vDrop, vVar, vC, vOp, vBl, vNot, vAnd, vOr, vAndV, vOrV, vNotV, vIf, vANil, vACons, vONil, vOCons, vTup, vLst, vgSet, vgNil, vgCons, vgTup, vFor, vAsg, vCall, vCallO, vCallL, vHold, swapIn, putBack, vRaise, gII, gIC, vFn, vChain, gTru, vpNone, vpSome, vSl, gSlL, gSlS, vIs, vFld, vMet, vMetK, vITup, vILst, vMtL, gAppend, vLc, vYes, vIRng1, vIEnumT, vIStr, vNeg, vFz, vMove, vLend, O.root, O.fz, O.toD, gEq, gNe, gIn, gCatL, gLen, gInt, gList, gTuple, vFPut, oPut, isTD, known7, noTD, eqOk, flat4, sameK, wipeE,  List.map_cons, List.map_nil, List.cons_append, List.nil_append, List.length_cons, List.length_nil, List.replicate_succ, List.replicate_zero, List.append_nil, List.getElem?_cons_zero, List.getElem?_cons_succ, List.getElem?_nil, List.set_cons_zero, List.set_cons_succ, List.set_nil, List.getD_cons_zero, List.getD_cons_succ, List.getD_nil, List.drop_zero, List.drop_succ_cons, List.take_succ_cons, List.take_zero, List.take_nil, Bool.true_and, Bool.and_true, Bool.false_and, Bool.and_false, Bool.or_true, Bool.or_false, Bool.true_or, Bool.false_or, Bool.not_true, Bool.not_false, if_true, if_false, ite_true, ite_false, true_and, and_true, eq_self_iff_true, Bool.false_eq_true, reduceIte, Nat.reduceSub, Nat.reduceAdd, reduceCtorEq, String.reduceBEq, beq_self_eq_true, true_or, or_true, false_or, or_false, false_and, and_false, decide_true, decide_false, Bool.not_not]
      refine law_refused_V gl.gp bad ?_
      simp only [mBody, vRet, vSet, vIfS, vNext, vDrop, vVar, vC, vOp, vBl, vNot, vAnd, vOr, vAndV, vOrV, vNotV, vIf, vANil, vACons, vONil, vOCons, vTup, vLst, vgSet, vgNil, vgCons, vgTup, vFor, vAsg, vCall, vCallO, vCallL, vHold, swapIn, putBack, vRaise, gII, gIC, vFn, vChain, gTru, vpNone, vpSome, vSl, gSlL, gSlS, vIs, vFld, vMet, vMetK, vITup, vILst, vMtL, gAppend, vLc, vYes, vIRng1, vIEnumT, vIStr, vNeg, vFz, vMove, vLend, O.root, O.fz, O.toD, gEq, gNe, gIn, gCatL, gLen, gInt, gList, gTuple, vFPut, oPut, isTD, known7, noTD, eqOk, flat4, sameK, wipeE,  List.map_cons, List.map_nil, List.cons_append, List.nil_append, List.length_cons, List.length_nil, List.replicate_succ, List.replicate_zero, List.append_nil, List.getElem?_cons_zero, List.getElem?_cons_succ, List.getElem?_nil, List.set_cons_zero, List.set_cons_succ, List.set_nil, List.getD_cons_zero, List.getD_cons_succ, List.getD_nil, List.drop_zero, List.drop_succ_cons, List.take_succ_cons, List.take_zero, List.take_nil, Bool.true_and, Bool.and_true, Bool.false_and, Bool.and_false, Bool.or_true, Bool.or_false, Bool.true_or, Bool.false_or, Bool.not_true, Bool.not_false, if_true, if_false, ite_true, ite_false, true_and, and_true, eq_self_iff_true, Bool.false_eq_true, reduceIte, Nat.reduceSub, Nat.reduceAdd, reduceCtorEq, String.reduceBEq, beq_self_eq_true, true_or, or_true, false_or, or_false, false_and, and_false, decide_true, decide_false, Bool.not_not]
      intro b14
      refine gIx_lst (d := .int a) (atI_nat (i := 0) rfl) ?_
      simp only [mBody, vRet, vSet, vIfS, vNext, vDrop, vVar, vC, vOp, vBl, vNot, vAnd, vOr, vAndV, vOrV, vNotV, vIf, vANil, vACons, vONil, vOCons, vTup, vLst, vgSet, vgNil, vgCons, vgTup, vFor, vAsg, vCall, vCallO, vCallL, vHold, swapIn, putBack, vRaise, gII, gIC, vFn, vChain, gTru, vpNone, vpSome, vSl, gSlL, gSlS, vIs, vFld, vMet, vMetK, vITup, vILst, vMtL, gAppend, vLc, vYes, vIRng1, vIEnumT, vIStr, vNeg, vFz, vMove, vLend, O.root, O.fz, O.toD, gEq, gNe, gIn, gCatL, gLen, gInt, gList, gTuple, vFPut, oPut, isTD, known7, noTD, eqOk, flat4, sameK, wipeE,  List.map_cons, List.map_nil, List.cons_append, List.nil_append, List.length_cons, List.length_nil, List.replicate_succ, List.replicate_zero, List.append_nil, List.getElem?_cons_zero, List.getElem?_cons_succ, List.getElem?_nil, List.set_cons_zero, List.set_cons_succ, List.set_nil, List.getD_cons_zero, List.getD_cons_succ, List.getD_nil, List.drop_zero, List.drop_succ_cons, List.take_succ_cons, List.take_zero, List.take_nil, Bool.true_and, Bool.and_true, Bool.false_and, Bool.and_false, Bool.or_true, Bool.or_false, Bool.true_or, Bool.false_or, Bool.not_true, Bool.not_false, if_true, if_false, ite_true, ite_false, true_and, and_true, eq_self_iff_true, Bool.false_eq_true, reduceIte, Nat.reduceSub, Nat.reduceAdd, reduceCtorEq, String.reduceBEq, beq_self_eq_true, true_or, or_true, false_or, or_false, false_and, and_false, decide_true, decide_false, Bool.not_not]
      refine gIx_lst (d := .str wd) (atI_nat (by
        have : (wordT.map D.str)[a]? = some (D.str wd) := by rw [List.getElem?_map, hw]; rfl
        exact this)) ?_
      simp only [mBody, vRet, vSet, vIfS, vNext, vDrop, vVar, vC, vOp, vBl, vNot, vAnd, vOr, vAndV, vOrV, vNotV, vIf, vANil, vACons, vONil, vOCons, vTup, vLst, vgSet, vgNil, vgCons, vgTup, vFor, vAsg, vCall, vCallO, vCallL, vHold, swapIn, putBack, vRaise, gII, gIC, vFn, vChain, gTru, vpNone, vpSome, vSl, gSlL, gSlS, vIs, vFld, vMet, vMetK, vITup, vILst, vMtL, gAppend, vLc, vYes, vIRng1, vIEnumT, vIStr, vNeg, vFz, vMove, vLend, O.root, O.fz, O.toD, gEq, gNe, gIn, gCatL, gLen, gInt, gList, gTuple, vFPut, oPut, isTD, known7, noTD, eqOk, flat4, sameK, wipeE,  List.map_cons, List.map_nil, List.cons_append, List.nil_append, List.length_cons, List.length_nil, List.replicate_succ, List.replicate_zero, List.append_nil, List.getElem?_cons_zero, List.getElem?_cons_succ, List.getElem?_nil, List.set_cons_zero, List.set_cons_succ, List.set_nil, List.getD_cons_zero, List.getD_cons_succ, List.getD_nil, List.drop_zero, List.drop_succ_cons, List.take_succ_cons, List.take_zero, List.take_nil, Bool.true_and, Bool.and_true, Bool.false_and, Bool.and_false, Bool.or_true, Bool.or_false, Bool.true_or, Bool.false_or, Bool.not_true, Bool.not_false, if_true, if_false, ite_true, ite_false, true_and, and_true, eq_self_iff_true, Bool.false_eq_true, reduceIte, Nat.reduceSub, Nat.reduceAdd, reduceCtorEq, String.reduceBEq, beq_self_eq_true, true_or, or_true, false_or, or_false, false_and, and_false, decide_true, decide_false, Bool.not_not, eqD_str]
      exact hn _ ⟨_, _, _, _, _, _, _, _, _, rfl⟩
  · rintro e ⟨c1, c2, c3, c4, c5, c6, c7, c9, c10, rfl⟩
    refine hN _ ?_
    simp only [mBody, vRet, vSet, vIfS, vNext, vDrop, vVar, vC, vOp, vBl, vNot, vAnd, vOr, vAndV, vOrV, vNotV, vIf, vANil, vACons, vONil, vOCons, vTup, vLst, vgSet, vgNil, vgCons, vgTup, vFor, vAsg, vCall, vCallO, vCallL, vHold, swapIn, putBack, vRaise, gII, gIC, vFn, vChain, gTru, vpNone, vpSome, vSl, gSlL, gSlS, vIs, vFld, vMet, vMetK, vITup, vILst, vMtL, gAppend, vLc, vYes, vIRng1, vIEnumT, vIStr, vNeg, vFz, vMove, vLend, O.root, O.fz, O.toD, gEq, gNe, gIn, gCatL, gLen, gInt, gList, gTuple, vFPut, oPut, isTD, known7, noTD, eqOk, flat4, sameK, wipeE,  List.map_cons, List.map_nil, List.cons_append, List.nil_append, List.length_cons, List.length_nil, List.replicate_succ, List.replicate_zero, List.append_nil, List.getElem?_cons_zero, List.getElem?_cons_succ, List.getElem?_nil, List.set_cons_zero, List.set_cons_succ, List.set_nil, List.getD_cons_zero, List.getD_cons_succ, List.getD_nil, List.drop_zero, List.drop_succ_cons, List.take_succ_cons, List.take_zero, List.take_nil, Bool.true_and, Bool.and_true, Bool.false_and, Bool.and_false, Bool.or_true, Bool.or_false, Bool.true_or, Bool.false_or, Bool.not_true, Bool.not_false, if_true, if_false, ite_true, ite_false, true_and, and_true, eq_self_iff_true, Bool.false_eq_true, reduceIte, Nat.reduceSub, Nat.reduceAdd, reduceCtorEq, String.reduceBEq, beq_self_eq_true, true_or, or_true, false_or, or_false, false_and, and_false, decide_true, decide_false, Bool.not_not]
end
theorem kb_Ticket_init_2_since_till_via_train_breaks {K : PySem.W.Frag} {fd : FuncData} (F : FunD K "__init__" "Ticket.__init__" (defArgs s_Ticket_init) (defBody s_Ticket_init) (defScope s_Ticket_init) [] [("since", .int 0), ("till", .int 1440), ("via", .non), ("train", .non), ("breaks", .bl true)] (He.ma K (He.ga K "Ticket") "__init__") fd) : ∃ g, KBn K fd ["self", "here", "there", "since", "till", "via", "train", "breaks"] 3 ["since", "till", "via", "train", "breaks"] g (fun us ws => (us.drop 0).take 1 ++ ((us.drop 1).take 1 ++ ((us.drop 2).take 1 ++ ((ws.drop 0).take 1 ++ ((ws.drop 1).take 1 ++ ((ws.drop 2).take 1 ++ ((ws.drop 3).take 1 ++ ((ws.drop 4).take 1)))))))) := by
  obtain ⟨mv, h⟩ := FunD.kbinds0 (ps := ["self", "here", "there", "since", "till", "via", "train", "breaks"]) F 3 ["since", "till", "via", "train", "breaks"] [] (fun us mv ws => (us.drop 0).take 1 ++ ((us.drop 1).take 1 ++ ((us.drop 2).take 1 ++ ((ws.drop 0).take 1 ++ ((ws.drop 1).take 1 ++ ((ws.drop 2).take 1 ++ ((ws.drop 3).take 1 ++ ((ws.drop 4).take 1)))))))) (by simp) (by intro q hq; cases hq) (fun rus rmv rws => (((rus.drop 0).take 1).append (((rus.drop 1).take 1).append (((rus.drop 2).take 1).append (((rws.drop 0).take 1).append (((rws.drop 1).take 1).append (((rws.drop 2).take 1).append (((rws.drop 3).take 1).append ((rws.drop 4).take 1)))))))))
    (fun D doc pm an cdv ct us mv ws l1 l2 l3 => match us, mv, ws, l1, l2, l3 with | [_, _, _], [], [_, _, _, _, _], _, _, _ => rfl)
  exact ⟨_, h⟩
theorem kb_Ticket_init_0_there_here {K : PySem.W.Frag} {fd : FuncData} (F : FunD K "__init__" "Ticket.__init__" (defArgs s_Ticket_init) (defBody s_Ticket_init) (defScope s_Ticket_init) [] [("since", .int 0), ("till", .int 1440), ("via", .non), ("train", .non), ("breaks", .bl true)] (He.ma K (He.ga K "Ticket") "__init__") fd) : ∃ g, KBn K fd ["self", "here", "there", "since", "till", "via", "train", "breaks"] 1 ["there", "here"] g (fun us ws => (us.drop 0).take 1 ++ ((ws.drop 1).take 1 ++ ((ws.drop 0).take 1 ++ ((([.int 0, .int 1440, .non, .non, .bl true] : List V).drop 0).take 1 ++ ((([.int 0, .int 1440, .non, .non, .bl true] : List V).drop 1).take 1 ++ ((([.int 0, .int 1440, .non, .non, .bl true] : List V).drop 2).take 1 ++ ((([.int 0, .int 1440, .non, .non, .bl true] : List V).drop 3).take 1 ++ ((([.int 0, .int 1440, .non, .non, .bl true] : List V).drop 4).take 1)))))))) := by
  obtain ⟨mv, h⟩ := FunD.kbinds0 (ps := ["self", "here", "there", "since", "till", "via", "train", "breaks"]) F 1 ["there", "here"] [("since", .int 0), ("till", .int 1440), ("via", .non), ("train", .non), ("breaks", .bl true)] (fun us mv ws => (us.drop 0).take 1 ++ ((ws.drop 1).take 1 ++ ((ws.drop 0).take 1 ++ ((mv.drop 0).take 1 ++ ((mv.drop 1).take 1 ++ ((mv.drop 2).take 1 ++ ((mv.drop 3).take 1 ++ ((mv.drop 4).take 1)))))))) (by simp) (by intro q hq; simp only [List.mem_cons, List.not_mem_nil, or_false] at hq ⊢; rcases hq with rfl | rfl | rfl | rfl | rfl <;> simp [*]) (fun rus rmv rws => (((rus.drop 0).take 1).append (((rws.drop 1).take 1).append (((rws.drop 0).take 1).append (((rmv.drop 0).take 1).append (((rmv.drop 1).take 1).append (((rmv.drop 2).take 1).append (((rmv.drop 3).take 1).append ((rmv.drop 4).take 1)))))))))
    (fun D doc pm an cdv ct us mv ws l1 l2 l3 => match us, mv, ws, l1, l2, l3 with | [_], [_, _, _, _, _], [_, _], _, _, _ => ⟨_, _, _, _, _, _, rfl, rfl, ⟨_, _, _, _, _, _, rfl, rfl, ⟨_, _, _, _, _, _, rfl, rfl, ⟨_, _, _, _, _, _, rfl, rfl, ⟨_, _, _, _, _, _, rfl, rfl, rfl⟩⟩⟩⟩⟩)
  exact ⟨_, h⟩
def d_NoTicket_init : He.DefD := ⟨("NoTicket", some "__init__"), "__init__", "NoTicket.__init__", defArgs s_NoTicket_init, defBody s_NoTicket_init, defScope s_NoTicket_init, [], []⟩
def d_is_whole : He.DefD := ⟨("is_whole", none), "is_whole", "is_whole", defArgs s_is_whole, defBody s_is_whole, defScope s_is_whole, [], []⟩
def d_is_from : He.DefD := ⟨("is_from", none), "is_from", "is_from", defArgs s_is_from, defBody s_is_from, defScope s_is_from, [], []⟩
def d_is_name : He.DefD := ⟨("is_name", none), "is_name", "is_name", defArgs s_is_name, defBody s_is_name, defScope s_is_name, [], []⟩
def d_are_places : He.DefD := ⟨("are_places", none), "are_places", "are_places", defArgs s_are_places, defBody s_are_places, defScope s_are_places, [], []⟩
def d_Ticket_init : He.DefD := ⟨("Ticket", some "__init__"), "__init__", "Ticket.__init__", defArgs s_Ticket_init, defBody s_Ticket_init, defScope s_Ticket_init, [], [("since", .int 0), ("till", .int 1440), ("via", .non), ("train", .non), ("breaks", .bl true)]⟩
def d_Ticket_clauses : He.DefD := ⟨("Ticket", some "clauses"), "clauses", "Ticket.clauses", defArgs s_Ticket_clauses, defBody s_Ticket_clauses, defScope s_Ticket_clauses, [], []⟩
def d_Ticketdd_eqdd : He.DefD := ⟨("Ticket", some "__eq__"), "__eq__", "Ticket.__eq__", defArgs s_Ticketdd_eqdd, defBody s_Ticketdd_eqdd, defScope s_Ticketdd_eqdd, [], []⟩
def d__law_mixed : He.DefD := ⟨("_law_mixed", none), "_law_mixed", "_law_mixed", defArgs s__law_mixed, defBody s__law_mixed, defScope s__law_mixed, [], []⟩
def d__law_source : He.DefD := ⟨("_law_source", none), "_law_source", "_law_source", defArgs s__law_source, defBody s__law_source, defScope s__law_source, [], []⟩
def d__law_take : He.DefD := ⟨("_law_take", none), "_law_take", "_law_take", defArgs s__law_take, defBody s__law_take, defScope s__law_take, [], []⟩
def d__law_names : He.DefD := ⟨("_law_names", none), "_law_names", "_law_names", defArgs s__law_names, defBody s__law_names, defScope s__law_names, [], []⟩
def d__law_good : He.DefD := ⟨("_law_good", none), "_law_good", "_law_good", defArgs s__law_good, defBody s__law_good, defScope s__law_good, [], []⟩
def d__law_ticket : He.DefD := ⟨("_law_ticket", none), "_law_ticket", "_law_ticket", defArgs s__law_ticket, defBody s__law_ticket, defScope s__law_ticket, [], []⟩
def d__law_told : He.DefD := ⟨("_law_told", none), "_law_told", "_law_told", defArgs s__law_told, defBody s__law_told, defScope s__law_told, [], []⟩
def d__law_refused : He.DefD := ⟨("_law_refused", none), "_law_refused", "_law_refused", defArgs s__law_refused, defBody s__law_refused, defScope s__law_refused, [], []⟩
def d__law_spoilt : He.DefD := ⟨("_law_spoilt", none), "_law_spoilt", "_law_spoilt", defArgs s__law_spoilt, defBody s__law_spoilt, defScope s__law_spoilt, [], []⟩
def d__law_equal_right : He.DefD := ⟨("_law_equal_right", none), "_law_equal_right", "_law_equal_right", defArgs s__law_equal_right, defBody s__law_equal_right, defScope s__law_equal_right, [], []⟩
def d_law : He.DefD := ⟨("law", none), "law", "law", defArgs s_law, defBody s_law, defScope s_law, [], []⟩
def fnL : List He.DefD := [d_NoTicket_init, d_is_whole, d_is_from, d_is_name, d_are_places, d_Ticket_init, d_Ticket_clauses, d_Ticketdd_eqdd, d__law_mixed, d__law_source, d__law_take, d__law_names, d__law_good, d__law_ticket, d__law_told, d__law_refused, d__law_spoilt, d__law_equal_right, d_law]
def fa0 : List He.Fa := [.glo "HaltError", .glo "NoWay", .glo "NoTicket", .glo "NoTraveller", .glo "is_whole", .glo "is_from", .glo "is_name", .glo "are_places", .glo "Ticket", .glo "_law_mixed", .glo "_law_source", .glo "_law_take", .glo "_law_names", .glo "_law_good", .glo "_law_ticket", .glo "_law_told", .glo "_law_refused", .glo "_law_spoilt", .glo "_law_equal_right", .glo "law", .free "all", .free "any", .free "bool", .free "int", .free "isinstance", .free "len", .free "list", .free "range", .free "set", .free "sorted"]
def fa1 : List He.Fa := [.free "str", .free "tuple", .str "LETTERS" "abcdefghijklmnopqrstuvwxyz", .int "MOST_LETTERS" 8, .int "MOST_MINUTE" 1440, .cls "Ticket", .mkr "Ticket", .meth "Ticket" "clauses", .meth "Ticket" "__eq__", .noat "Ticket" "bound", .noat "Ticket" "breaks", .noat "Ticket" "here", .noat "Ticket" "since", .noat "Ticket" "there", .noat "Ticket" "till", .noat "Ticket" "via"]
def faL : List He.Fa := fa0 ++ fa1
def exL (K : PySem.W.Frag) : Bool := baseErrB K "HaltError" && (errB K "NoWay" "what" && (errB K "NoTicket" "what" && (decide (PySem.W.exmOne K (.ref (He.ga K "NoTicket")) (.ref (He.ga K "NoTicket")) = some true) && (errB K "NoTraveller" "name" && (ownKB K "Ticket" && (excCB K "NoTicket" && (decide (PySem.W.kitOne K (.ref (He.ga K "NoTicket")) (.ref (He.ga K "HaltError")) = some true) && (decide (PySem.W.kitAny K (.ref (He.ga K "NoTicket")) [.ref (He.ga K "NoTraveller"), .ref (He.ga K "NoWay")] = some false) && (true)))))))))
abbrev rowR : PySem.W.OpenRow := PySem.W.OpenLaw.row PySem.Challenge.rw_haltday_k71_tickets_made
abbrev hkL : PySem.W.Hook := hookN 7 faL fnL exL
def obL (s : PySem.W.SharedT) : He.AlD × Bool := obsN 7 faL fnL exL (HandSHeadRun.getT s)
theorem obL_eq (s : PySem.W.SharedT) : obL s = hkL.obs s.abs := obsN_eq (HandSHeadRun.getT_eq s)
def loose0 : List Str := ["HaltError", "NoWay", "NoTicket", "NoTraveller", "LETTERS", "MOST_LETTERS", "is_whole", "is_from", "is_name", "MOST_MINUTE", "are_places", "Ticket", "_law_mixed", "_law_source", "_law_take", "_law_names", "_law_good", "_law_ticket", "_law_told", "_law_refused", "_law_spoilt", "_law_equal_right"]
def looseL : List Str := loose0
theorem runL (w : World) : HandSHeadRun.RunEq rowR (PySem.W.view rowR.prog [26]) hkL obL 3000 looseL w := by
  intro os
  kernel_rfl
theorem txt_of {K : PySem.W.Frag} {h : Heap} {mg : Str → Option Value} (X : K.In h) (G : h.Ns mainGlobals mg) (c : He.SaysD faL fnL K ∧ exL K = true) : Txt K mg := by
  have m := c.2
  unfold exL at m
  obtain ⟨m0, m⟩ := He.ba m
  obtain ⟨m1, m⟩ := He.ba m
  obtain ⟨m2, m⟩ := He.ba m
  obtain ⟨m3, m⟩ := He.ba m
  obtain ⟨m4, m⟩ := He.ba m
  obtain ⟨m5, m⟩ := He.ba m
  obtain ⟨m6, m⟩ := He.ba m
  obtain ⟨m7, m⟩ := He.ba m
  obtain ⟨m8, m⟩ := He.ba m
  exact {
    g_HaltError := He.glo_ok X G (c.1.fact 0 (f := .glo "HaltError") rfl),
    g_NoWay := He.glo_ok X G (c.1.fact 1 (f := .glo "NoWay") rfl),
    g_NoTicket := He.glo_ok X G (c.1.fact 2 (f := .glo "NoTicket") rfl),
    g_NoTraveller := He.glo_ok X G (c.1.fact 3 (f := .glo "NoTraveller") rfl),
    g_is_whole := He.glo_ok X G (c.1.fact 4 (f := .glo "is_whole") rfl),
    g_is_from := He.glo_ok X G (c.1.fact 5 (f := .glo "is_from") rfl),
    g_is_name := He.glo_ok X G (c.1.fact 6 (f := .glo "is_name") rfl),
    g_are_places := He.glo_ok X G (c.1.fact 7 (f := .glo "are_places") rfl),
    g_Ticket := He.glo_ok X G (c.1.fact 8 (f := .glo "Ticket") rfl),
    g__law_mixed := He.glo_ok X G (c.1.fact 9 (f := .glo "_law_mixed") rfl),
    g__law_source := He.glo_ok X G (c.1.fact 10 (f := .glo "_law_source") rfl),
    g__law_take := He.glo_ok X G (c.1.fact 11 (f := .glo "_law_take") rfl),
    g__law_names := He.glo_ok X G (c.1.fact 12 (f := .glo "_law_names") rfl),
    g__law_good := He.glo_ok X G (c.1.fact 13 (f := .glo "_law_good") rfl),
    g__law_ticket := He.glo_ok X G (c.1.fact 14 (f := .glo "_law_ticket") rfl),
    g__law_told := He.glo_ok X G (c.1.fact 15 (f := .glo "_law_told") rfl),
    g__law_refused := He.glo_ok X G (c.1.fact 16 (f := .glo "_law_refused") rfl),
    g__law_spoilt := He.glo_ok X G (c.1.fact 17 (f := .glo "_law_spoilt") rfl),
    g__law_equal_right := He.glo_ok X G (c.1.fact 18 (f := .glo "_law_equal_right") rfl),
    g_law := He.glo_ok X G (c.1.fact 19 (f := .glo "law") rfl),
    f_all := He.free_ok X G (c.1.fact 20 (f := .free "all") rfl),
    f_any := He.free_ok X G (c.1.fact 21 (f := .free "any") rfl),
    f_bool := He.free_ok X G (c.1.fact 22 (f := .free "bool") rfl),
    f_int := He.free_ok X G (c.1.fact 23 (f := .free "int") rfl),
    f_isinstance := He.free_ok X G (c.1.fact 24 (f := .free "isinstance") rfl),
    f_len := He.free_ok X G (c.1.fact 25 (f := .free "len") rfl),
    f_list := He.free_ok X G (c.1.fact 26 (f := .free "list") rfl),
    f_range := He.free_ok X G (c.1.fact 27 (f := .free "range") rfl),
    f_set := He.free_ok X G (c.1.fact 28 (f := .free "set") rfl),
    f_sorted := He.free_ok X G (c.1.fact 29 (f := .free "sorted") rfl),
    f_str := He.free_ok X G (c.1.fact 30 (f := .free "str") rfl),
    f_tuple := He.free_ok X G (c.1.fact 31 (f := .free "tuple") rfl),
    c_LETTERS := He.str_ok X G (c.1.fact 32 (f := .str "LETTERS" "abcdefghijklmnopqrstuvwxyz") rfl),
    c_MOST_LETTERS := He.int_ok X G (c.1.fact 33 (f := .int "MOST_LETTERS" 8) rfl),
    c_MOST_MINUTE := He.int_ok X G (c.1.fact 34 (f := .int "MOST_MINUTE" 1440) rfl),
    cl_Ticket := He.cls_ok (c.1.fact 35 (f := .cls "Ticket") rfl),
    mk_Ticket := He.mkr_ok (c.1.fact 36 (f := .mkr "Ticket") rfl),
    m_Ticket_clauses := He.meth_ok (c.1.fact 37 (f := .meth "Ticket" "clauses") rfl),
    m_Ticket___eq__ := He.meth_ok (c.1.fact 38 (f := .meth "Ticket" "__eq__") rfl),
    n_Ticket_bound := He.noat_ok (c.1.fact 39 (f := .noat "Ticket" "bound") rfl),
    n_Ticket_breaks := He.noat_ok (c.1.fact 40 (f := .noat "Ticket" "breaks") rfl),
    n_Ticket_here := He.noat_ok (c.1.fact 41 (f := .noat "Ticket" "here") rfl),
    n_Ticket_since := He.noat_ok (c.1.fact 42 (f := .noat "Ticket" "since") rfl),
    n_Ticket_there := He.noat_ok (c.1.fact 43 (f := .noat "Ticket" "there") rfl),
    n_Ticket_till := He.noat_ok (c.1.fact 44 (f := .noat "Ticket" "till") rfl),
    n_Ticket_via := He.noat_ok (c.1.fact 45 (f := .noat "Ticket" "via") rfl),
    be_HaltError := baseErrB_ok m0,
    e_NoWay := errB_ok m1,
    e_NoTicket := errB_ok m2,
    x_NoTicket_NoTicket := of_decide_eq_true m3,
    e_NoTraveller := errB_ok m4,
    k_Ticket := ownKB_ok m5,
    ec_NoTicket := excCB_ok m6,
    ki_NoTicket__HaltError := of_decide_eq_true m7,
    ki_NoTicket__NoTraveller_NoWay := of_decide_eq_true m8 }
theorem all_of {w : World} {K : PySem.W.Frag} {h : Heap} {mg : Str → Option Value} {f : Addr} (X : K.In h) (G : h.Ns mainGlobals mg) (hfa : mg ("law" : Str) = some (.ref f)) (c : He.SaysD faL fnL K ∧ exL K = true) :
    ∃ fd : FuncData, (∀ (s : Shared) (v : Value), BindsTo s fd ⟨[v], []⟩ [("_law_script", v)]) ∧ ∀ base : Heap, K.In base → base.Ns mainGlobals mg → FnOk PySem.Challenge.pw_haltday_k71_tickets_made w K mg base (L2.CX PySem.Challenge.pw_haltday_k71_tickets_made w) 7 f fd ["_law_script"] (spLawV K) := by
  have T := txt_of X G c
  have e := hfa.symm.trans T.g_law
  cases e
  obtain ⟨fd_NoTicket_init, F_NoTicket_init⟩ := c.1.def_ 0 (d := d_NoTicket_init) rfl
  obtain ⟨fd_is_whole, F_is_whole⟩ := c.1.def_ 1 (d := d_is_whole) rfl
  obtain ⟨fd_is_from, F_is_from⟩ := c.1.def_ 2 (d := d_is_from) rfl
  obtain ⟨fd_is_name, F_is_name⟩ := c.1.def_ 3 (d := d_is_name) rfl
  obtain ⟨fd_are_places, F_are_places⟩ := c.1.def_ 4 (d := d_are_places) rfl
  obtain ⟨fd_Ticket_init, F_Ticket_init⟩ := c.1.def_ 5 (d := d_Ticket_init) rfl
  obtain ⟨fd_Ticket_clauses, F_Ticket_clauses⟩ := c.1.def_ 6 (d := d_Ticket_clauses) rfl
  obtain ⟨fd_Ticketdd_eqdd, F_Ticketdd_eqdd⟩ := c.1.def_ 7 (d := d_Ticketdd_eqdd) rfl
  obtain ⟨fd__law_mixed, F__law_mixed⟩ := c.1.def_ 8 (d := d__law_mixed) rfl
  obtain ⟨fd__law_source, F__law_source⟩ := c.1.def_ 9 (d := d__law_source) rfl
  obtain ⟨fd__law_take, F__law_take⟩ := c.1.def_ 10 (d := d__law_take) rfl
  obtain ⟨fd__law_names, F__law_names⟩ := c.1.def_ 11 (d := d__law_names) rfl
  obtain ⟨fd__law_good, F__law_good⟩ := c.1.def_ 12 (d := d__law_good) rfl
  obtain ⟨fd__law_ticket, F__law_ticket⟩ := c.1.def_ 13 (d := d__law_ticket) rfl
  obtain ⟨fd__law_told, F__law_told⟩ := c.1.def_ 14 (d := d__law_told) rfl
  obtain ⟨fd__law_refused, F__law_refused⟩ := c.1.def_ 15 (d := d__law_refused) rfl
  obtain ⟨fd__law_spoilt, F__law_spoilt⟩ := c.1.def_ 16 (d := d__law_spoilt) rfl
  obtain ⟨fd__law_equal_right, F__law_equal_right⟩ := c.1.def_ 17 (d := d__law_equal_right) rfl
  obtain ⟨fd_law, F_law⟩ := c.1.def_ 18 (d := d_law) rfl
  refine ⟨fd_law, fun s v => FunD.bindsA (ps := ["_law_script"]) F_law (fun _ _ _ _ _ _ us hl => match us, hl with | [_], _ => rfl) s [v] rfl, fun base _ _ => ?_⟩
  have O_NoTicket_init : FnOk PySem.Challenge.pw_haltday_k71_tickets_made w K mg base (L2.CX PySem.Challenge.pw_haltday_k71_tickets_made w) 1 (He.ma K (He.ga K "NoTicket") "__init__") fd_NoTicket_init ["self", "what"] (spErr (He.ga K "NoTicket") "what") := ok_NoTicket_init T F_NoTicket_init 
  have C_NoTicket_init : Cal PySem.Challenge.pw_haltday_k71_tickets_made w K mg base 1 (He.ma K (He.ga K "NoTicket") "__init__") ["self", "what"] (spErr (He.ga K "NoTicket") "what") := ⟨⟨_, O_NoTicket_init, F_NoTicket_init.bindsN fun _ _ _ _ _ _ us hl => match us, hl with | [_, _], _ => rfl⟩, F_NoTicket_init.kp⟩
  have O_is_name : FnOk PySem.Challenge.pw_haltday_k71_tickets_made w K mg base (L2.CX PySem.Challenge.pw_haltday_k71_tickets_made w) 1 (He.ga K "is_name") fd_is_name ["thing"] (spV K 1 m_is_name) := ok_is_name T F_is_name 
  have C_is_name : Cal PySem.Challenge.pw_haltday_k71_tickets_made w K mg base 1 (He.ga K "is_name") ["thing"] (spV K 1 m_is_name) := ⟨⟨_, O_is_name, F_is_name.bindsN fun _ _ _ _ _ _ us hl => match us, hl with | [_], _ => rfl⟩, F_is_name.kp⟩
  have O_are_places : FnOk PySem.Challenge.pw_haltday_k71_tickets_made w K mg base (L2.CX PySem.Challenge.pw_haltday_k71_tickets_made w) 2 (He.ga K "are_places") fd_are_places ["thing"] (spV K 1 m_are_places) := ok_are_places T F_are_places C_is_name
  have C_are_places : Cal PySem.Challenge.pw_haltday_k71_tickets_made w K mg base 2 (He.ga K "are_places") ["thing"] (spV K 1 m_are_places) := ⟨⟨_, O_are_places, F_are_places.bindsN fun _ _ _ _ _ _ us hl => match us, hl with | [_], _ => rfl⟩, F_are_places.kp⟩
  have O_is_whole : FnOk PySem.Challenge.pw_haltday_k71_tickets_made w K mg base (L2.CX PySem.Challenge.pw_haltday_k71_tickets_made w) 1 (He.ga K "is_whole") fd_is_whole ["thing"] (spV K 1 m_is_whole) := ok_is_whole T F_is_whole 
  have C_is_whole : Cal PySem.Challenge.pw_haltday_k71_tickets_made w K mg base 1 (He.ga K "is_whole") ["thing"] (spV K 1 m_is_whole) := ⟨⟨_, O_is_whole, F_is_whole.bindsN fun _ _ _ _ _ _ us hl => match us, hl with | [_], _ => rfl⟩, F_is_whole.kp⟩
  have O_is_from : FnOk PySem.Challenge.pw_haltday_k71_tickets_made w K mg base (L2.CX PySem.Challenge.pw_haltday_k71_tickets_made w) 2 (He.ga K "is_from") fd_is_from ["thing", "low", "high"] (spV K 3 m_is_from) := ok_is_from T F_is_from C_is_whole
  have C_is_from : Cal PySem.Challenge.pw_haltday_k71_tickets_made w K mg base 2 (He.ga K "is_from") ["thing", "low", "high"] (spV K 3 m_is_from) := ⟨⟨_, O_is_from, F_is_from.bindsN fun _ _ _ _ _ _ us hl => match us, hl with | [_, _, _], _ => rfl⟩, F_is_from.kp⟩
  have O_Ticket_init : FnOk PySem.Challenge.pw_haltday_k71_tickets_made w K mg base (L2.CX PySem.Challenge.pw_haltday_k71_tickets_made w) 3 (He.ma K (He.ga K "Ticket") "__init__") fd_Ticket_init ["self", "here", "there", "since", "till", "via", "train", "breaks"] (spV K 8 m_Ticket_init) := ok_Ticket_init T F_Ticket_init C_NoTicket_init C_is_name C_are_places C_is_from
  have K_Ticket_init_0_there_here : CalK PySem.Challenge.pw_haltday_k71_tickets_made w K mg base 3 (He.ma K (He.ga K "Ticket") "__init__") ["self", "here", "there", "since", "till", "via", "train", "breaks"] (spV K 8 m_Ticket_init) 1 ["there", "here"] (fun us ws => (us.drop 0).take 1 ++ ((ws.drop 1).take 1 ++ ((ws.drop 0).take 1 ++ ((([.int 0, .int 1440, .non, .non, .bl true] : List V).drop 0).take 1 ++ ((([.int 0, .int 1440, .non, .non, .bl true] : List V).drop 1).take 1 ++ ((([.int 0, .int 1440, .non, .non, .bl true] : List V).drop 2).take 1 ++ ((([.int 0, .int 1440, .non, .non, .bl true] : List V).drop 3).take 1 ++ ((([.int 0, .int 1440, .non, .non, .bl true] : List V).drop 4).take 1)))))))) := by
    obtain ⟨g, b⟩ := kb_Ticket_init_0_there_here F_Ticket_init
    exact ⟨⟨_, g, O_Ticket_init, b⟩, F_Ticket_init.kp⟩
  have K_Ticket_init_2_since_till_via_train_breaks : CalK PySem.Challenge.pw_haltday_k71_tickets_made w K mg base 3 (He.ma K (He.ga K "Ticket") "__init__") ["self", "here", "there", "since", "till", "via", "train", "breaks"] (spV K 8 m_Ticket_init) 3 ["since", "till", "via", "train", "breaks"] (fun us ws => (us.drop 0).take 1 ++ ((us.drop 1).take 1 ++ ((us.drop 2).take 1 ++ ((ws.drop 0).take 1 ++ ((ws.drop 1).take 1 ++ ((ws.drop 2).take 1 ++ ((ws.drop 3).take 1 ++ ((ws.drop 4).take 1)))))))) := by
    obtain ⟨g, b⟩ := kb_Ticket_init_2_since_till_via_train_breaks F_Ticket_init
    exact ⟨⟨_, g, O_Ticket_init, b⟩, F_Ticket_init.kp⟩
  have O__law_ticket : FnOk PySem.Challenge.pw_haltday_k71_tickets_made w K mg base (L2.CX PySem.Challenge.pw_haltday_k71_tickets_made w) 5 (He.ga K "_law_ticket") fd__law_ticket ["_law_parts"] (spV K 1 m__law_ticket) := ok__law_ticket T F__law_ticket K_Ticket_init_2_since_till_via_train_breaks
  have C__law_ticket : Cal PySem.Challenge.pw_haltday_k71_tickets_made w K mg base 5 (He.ga K "_law_ticket") ["_law_parts"] (spV K 1 m__law_ticket) := ⟨⟨_, O__law_ticket, F__law_ticket.bindsN fun _ _ _ _ _ _ us hl => match us, hl with | [_], _ => rfl⟩, F__law_ticket.kp⟩
  have O__law_refused : FnOk PySem.Challenge.pw_haltday_k71_tickets_made w K mg base (L2.CX PySem.Challenge.pw_haltday_k71_tickets_made w) 6 (He.ga K "_law_refused") fd__law_refused ["_law_parts"] (spV K 1 m__law_refused) := ok__law_refused T F__law_refused C__law_ticket
  have C__law_refused : Cal PySem.Challenge.pw_haltday_k71_tickets_made w K mg base 6 (He.ga K "_law_refused") ["_law_parts"] (spV K 1 m__law_refused) := ⟨⟨_, O__law_refused, F__law_refused.bindsN fun _ _ _ _ _ _ us hl => match us, hl with | [_], _ => rfl⟩, F__law_refused.kp⟩
  have O__law_mixed : FnOk PySem.Challenge.pw_haltday_k71_tickets_made w K mg base (L2.CX PySem.Challenge.pw_haltday_k71_tickets_made w) 1 (He.ga K "_law_mixed") fd__law_mixed ["_law_cell", "_law_k"] (spMixed) := ok__law_mixed T F__law_mixed 
  have C__law_mixed : Cal PySem.Challenge.pw_haltday_k71_tickets_made w K mg base 1 (He.ga K "_law_mixed") ["_law_cell", "_law_k"] (spMixed) := ⟨⟨_, O__law_mixed, F__law_mixed.bindsN fun _ _ _ _ _ _ us hl => match us, hl with | [_, _], _ => rfl⟩, F__law_mixed.kp⟩
  have O__law_take : FnOk PySem.Challenge.pw_haltday_k71_tickets_made w K mg base (L2.CX PySem.Challenge.pw_haltday_k71_tickets_made w) 2 (He.ga K "_law_take") fd__law_take ["_law_source_here", "_law_many"] (spV K 2 mTake) := ok__law_take T F__law_take C__law_mixed
  have C__law_take : Cal PySem.Challenge.pw_haltday_k71_tickets_made w K mg base 2 (He.ga K "_law_take") ["_law_source_here", "_law_many"] (spV K 2 mTake) := ⟨⟨_, O__law_take, F__law_take.bindsN fun _ _ _ _ _ _ us hl => match us, hl with | [_, _], _ => rfl⟩, F__law_take.kp⟩
  have O__law_spoilt : FnOk PySem.Challenge.pw_haltday_k71_tickets_made w K mg base (L2.CX PySem.Challenge.pw_haltday_k71_tickets_made w) 3 (He.ga K "_law_spoilt") fd__law_spoilt ["_law_source_here", "_law_parts", "_law_at"] (spV K 3 m__law_spoilt) := ok__law_spoilt T F__law_spoilt C__law_take
  have C__law_spoilt : Cal PySem.Challenge.pw_haltday_k71_tickets_made w K mg base 3 (He.ga K "_law_spoilt") ["_law_source_here", "_law_parts", "_law_at"] (spV K 3 m__law_spoilt) := ⟨⟨_, O__law_spoilt, F__law_spoilt.bindsN fun _ _ _ _ _ _ us hl => match us, hl with | [_, _, _], _ => rfl⟩, F__law_spoilt.kp⟩
  have O__law_told : FnOk PySem.Challenge.pw_haltday_k71_tickets_made w K mg base (L2.CX PySem.Challenge.pw_haltday_k71_tickets_made w) 1 (He.ga K "_law_told") fd__law_told ["_law_one"] (spV K 1 m__law_told) := ok__law_told T F__law_told 
  have C__law_told : Cal PySem.Challenge.pw_haltday_k71_tickets_made w K mg base 1 (He.ga K "_law_told") ["_law_one"] (spV K 1 m__law_told) := ⟨⟨_, O__law_told, F__law_told.bindsN fun _ _ _ _ _ _ us hl => match us, hl with | [_], _ => rfl⟩, F__law_told.kp⟩
  have O_Ticket_clauses : FnOk PySem.Challenge.pw_haltday_k71_tickets_made w K mg base (L2.CX PySem.Challenge.pw_haltday_k71_tickets_made w) 1 (He.ma K (He.ga K "Ticket") "clauses") fd_Ticket_clauses ["self"] (spV K 1 m_Ticket_clauses) := ok_Ticket_clauses T F_Ticket_clauses 
  have C_Ticket_clauses : Cal PySem.Challenge.pw_haltday_k71_tickets_made w K mg base 1 (He.ma K (He.ga K "Ticket") "clauses") ["self"] (spV K 1 m_Ticket_clauses) := ⟨⟨_, O_Ticket_clauses, F_Ticket_clauses.bindsN fun _ _ _ _ _ _ us hl => match us, hl with | [_], _ => rfl⟩, F_Ticket_clauses.kp⟩
  have O_Ticketdd_eqdd : FnOk PySem.Challenge.pw_haltday_k71_tickets_made w K mg base (L2.CX PySem.Challenge.pw_haltday_k71_tickets_made w) 2 (He.ma K (He.ga K "Ticket") "__eq__") fd_Ticketdd_eqdd ["self", "other"] (spV K 2 m_Ticketdd_eqdd) := ok_Ticketdd_eqdd T F_Ticketdd_eqdd C_Ticket_clauses
  have C_Ticketdd_eqdd : Cal PySem.Challenge.pw_haltday_k71_tickets_made w K mg base 2 (He.ma K (He.ga K "Ticket") "__eq__") ["self", "other"] (spV K 2 m_Ticketdd_eqdd) := ⟨⟨_, O_Ticketdd_eqdd, F_Ticketdd_eqdd.bindsN fun _ _ _ _ _ _ us hl => match us, hl with | [_, _], _ => rfl⟩, F_Ticketdd_eqdd.kp⟩
  have O__law_names : FnOk PySem.Challenge.pw_haltday_k71_tickets_made w K mg base (L2.CX PySem.Challenge.pw_haltday_k71_tickets_made w) 3 (He.ga K "_law_names") fd__law_names ["_law_source_here", "_law_many"] (spV K 2 m__law_names) := ok__law_names T F__law_names C__law_take
  have C__law_names : Cal PySem.Challenge.pw_haltday_k71_tickets_made w K mg base 3 (He.ga K "_law_names") ["_law_source_here", "_law_many"] (spV K 2 m__law_names) := ⟨⟨_, O__law_names, F__law_names.bindsN fun _ _ _ _ _ _ us hl => match us, hl with | [_, _], _ => rfl⟩, F__law_names.kp⟩
  have O__law_good : FnOk PySem.Challenge.pw_haltday_k71_tickets_made w K mg base (L2.CX PySem.Challenge.pw_haltday_k71_tickets_made w) 4 (He.ga K "_law_good") fd__law_good ["_law_source_here"] (spV K 1 m__law_good) := ok__law_good T F__law_good C__law_take C__law_names
  have C__law_good : Cal PySem.Challenge.pw_haltday_k71_tickets_made w K mg base 4 (He.ga K "_law_good") ["_law_source_here"] (spV K 1 m__law_good) := ⟨⟨_, O__law_good, F__law_good.bindsN fun _ _ _ _ _ _ us hl => match us, hl with | [_], _ => rfl⟩, F__law_good.kp⟩
  have O__law_equal_right : FnOk PySem.Challenge.pw_haltday_k71_tickets_made w K mg base (L2.CX PySem.Challenge.pw_haltday_k71_tickets_made w) 6 (He.ga K "_law_equal_right") fd__law_equal_right ["_law_source_here", "_law_parts", "_law_one"] (spV K 3 m__law_equal_right) := ok__law_equal_right T F__law_equal_right C_Ticketdd_eqdd C__law_ticket C__law_good
  have C__law_equal_right : Cal PySem.Challenge.pw_haltday_k71_tickets_made w K mg base 6 (He.ga K "_law_equal_right") ["_law_source_here", "_law_parts", "_law_one"] (spV K 3 m__law_equal_right) := ⟨⟨_, O__law_equal_right, F__law_equal_right.bindsN fun _ _ _ _ _ _ us hl => match us, hl with | [_, _, _], _ => rfl⟩, F__law_equal_right.kp⟩
  have O__law_source : FnOk PySem.Challenge.pw_haltday_k71_tickets_made w K mg base (L2.CX PySem.Challenge.pw_haltday_k71_tickets_made w) 1 (He.ga K "_law_source") fd__law_source ["_law_cell"] (spV K 1 mSource) := ok__law_source T F__law_source 
  have C__law_source : Cal PySem.Challenge.pw_haltday_k71_tickets_made w K mg base 1 (He.ga K "_law_source") ["_law_cell"] (spV K 1 mSource) := ⟨⟨_, O__law_source, F__law_source.bindsN fun _ _ _ _ _ _ us hl => match us, hl with | [_], _ => rfl⟩, F__law_source.kp⟩
  exact law_V law_holds (ok_law T F_law C__law_refused C__law_spoilt C__law_take C__law_told K_Ticket_init_0_there_here C__law_equal_right C__law_ticket C__law_good C__law_source)
end Hd
open PySem PySem.W PySem.Calls PyProof.Rows
set_option maxRecDepth 100000 in
set_option maxHeartbeats 0 in
theorem PySem.Challenge.cw_haltday_k71_tickets_made_holds : PySem.Challenge.rw_haltday_k71_tickets_made.Holds := by
  w_on; o_law
  refine HandSHeadRun.head_any (r := OpenLaw.row PySem.Challenge.rw_haltday_k71_tickets_made) (q := view (OpenLaw.row PySem.Challenge.rw_haltday_k71_tickets_made).prog [26]) (H := Hd.hkL) (ob := Hd.obL) (M := 3000) (loose := Hd.looseL) (d := HandSHeadRun.topDef (OpenLaw.row PySem.Challenge.rw_haltday_k71_tickets_made).prog 26) (kwd := []) Hd.obL_eq
    (by kernel_rfl) (fun s => by kernel_rfl) Hd.runL (by kernel_rfl) (by kernel_rfl) (by kernel_rfl) (by rfl) (by first | assumption | decide +kernel) (by decide +kernel) ⟨rfl, rfl, rfl, rfl, rfl, by decide +kernel⟩ ?hw ?hc
  case hw => w_witness2
  case hc =>
    refine Hd.walk_end (l := PySem.Challenge.rw_haltday_k71_tickets_made) (n := 63) (k := 7) (x := "_law_script") (CX := fun w => L2.CX PySem.Challenge.rw_haltday_k71_tickets_made.prog w) rfl (by decide) (by kernel_rfl) ⟨rfl, by decide, by decide⟩ ?F (fun w H s e s' z => Hd.cx_none z)
    intro w mg fa h Y G hmg0
    obtain ⟨K, KX, c⟩ := Y
    have hmg : mg ("law" : PySem.Str) = some (.ref fa) := by
      have e : (HandSHeadRun.topDef (OpenLaw.row PySem.Challenge.rw_haltday_k71_tickets_made).prog 26).name = ("law" : PySem.Str) := by kernel_rfl
      rw [← e]
      exact hmg0
    obtain ⟨fd, hb, hF⟩ := Hd.all_of (w := w) KX G hmg c
    exact ⟨K, fd, Hd.spLawV K, KX, hb, fun H a ns hl _ hS => ⟨a, ns, rfl, hS, hl, fun _ => rfl⟩, hF⟩
