import PyProof.Rows.All
import Wide.All
import OpenK.AllK
import Wide.FinOn
import KE.KStateDown
import HandS.ForMost
import HandS.ForExc
import HandS.IsInst
import HandS.Wide
import HandS.Defaults
import HandS.MakeKw
import HandS.MakeKwOnly
import HandS.ExcInit
import HandS.ExcField
import HandS.ClsMeth
import HandS.TupAny
import HandS.Head0
import HandS.Head1
import HandS.Head2
import HandS.HeadEnd
import HandS.HeadHook1
import HandS.HeadHook2
import HandS.HeadHook3
import HandS.HeadHook4
import HandS.SetKeys
import HandS.SetBool
import HandS.Strs
import HandS.Text
import HandS.FStr
import HandS.Style
import HandS.Small
import PySem.Challenge.RW_haltday_k01_a_line_told
set_option Elab.async false
set_option linter.all false
set_option maxRecDepth 100000
set_option maxHeartbeats 4000000
namespace Hd
open PySem PySem.Spec PyProof.Rows L2
theorem if_true_of {b : Bool} {A B : Prop} (h : b = true) (a : A) : if b = true then A else B := by rw [if_pos h]; exact a
theorem if_false_of {b : Bool} {A B : Prop} (h : b = false) (a : B) : if b = true then A else B := by rw [if_neg (by rw [h]; exact Bool.false_ne_true)]; exact a
/-! ### how a heap goes on -/
/-- from H to H': all but what stands at A is kept, tuples and locked things are kept, nothing is let go -/
structure Stp (A : List Addr) (H H' : Hp) : Prop where
  k : ∀ b o, b ∉ A → H b = some o → H' b = some o
  t : ∀ b xs, H b = some (.tup xs) → H' b = some (.tup xs)
  z : ∀ b o u, H b = some (.frz o u) → H' b = some (.frz o u)
  f : ∀ b, H' b = none → H b = none
theorem Stp.refl {A : List Addr} (H : Hp) : Stp A H H := ⟨fun _ _ _ h => h, fun _ _ h => h, fun _ _ _ h => h, fun _ h => h⟩
theorem Stp.trans {A : List Addr} {H H1 H2 : Hp} (a : Stp A H H1) (b : Stp A H1 H2) : Stp A H H2 :=
  ⟨fun c o n h => b.k c o n (a.k c o n h), fun c x h => b.t c x (a.t c x h), fun c o u h => b.z c o u (a.z c o u h), fun c h => a.f c (b.f c h)⟩
theorem Stp.mono {A B : List Addr} {H H1 : Hp} (a : Stp A H H1) (h : ∀ x ∈ A, x ∈ B) : Stp B H H1 :=
  ⟨fun c o n q => a.k c o (fun z => n (h c z)) q, a.t, a.z, a.f⟩
theorem Stp.of_nil {A : List Addr} {H H1 : Hp} (a : Stp [] H H1) : Stp A H H1 := a.mono fun x h => by cases h
theorem Stp.same {H H1 : Hp} (a : Stp [] H H1) : Same H H1 := fun b o h => a.k b o (by simp) h
/-- a new object -/
theorem Stp.new {A : List Addr} {H : Hp} {p : Addr} {o : HO} (h : H p = none) : Stp A H (upd H p o) :=
  ⟨fun b u _ q => by rw [upd_ne (ne_of_none q h)]; exact q, fun b u q => by rw [upd_ne (ne_of_none q h)]; exact q, fun b u v q => by rw [upd_ne (ne_of_none q h)]; exact q,
    fun b q => by
      by_cases e : b = p
      · rw [e]; exact h
      · rw [upd_ne e] at q; exact q⟩
/-- a store to what stands at a -/
theorem Stp.put {A : List Addr} {H : Hp} {a : Addr} {o o' : HO} (h : H a = some o) (ha : a ∈ A := by simp) (hm : Mut (some o) := by exact True.intro) : Stp A H (upd H a o') :=
  ⟨fun b u n q => by rw [upd_ne (show b ≠ a from fun e => n (by rw [e]; exact ha))]; exact q,
    fun b u q => by rw [upd_ne (fun e => by subst e; rw [q] at h; cases h; exact hm)]; exact q,
    fun b u v q => by rw [upd_ne (fun e => by subst e; rw [q] at h; cases h; exact hm)]; exact q,
    fun b q => by
      by_cases e : b = a
      · subst e; rw [upd_same] at q; cases q
      · rw [upd_ne e] at q; exact q⟩
/-- behind H, a store to what was new since H -/
theorem Stp.putNew {A : List Addr} {H H1 : Hp} {a : Addr} {o o' : HO} (s : Stp A H H1) (h : H1 a = some o) (hn : H a = none) (hm : Mut (some o) := by exact True.intro) : Stp A H (upd H1 a o') :=
  ⟨fun b u n q => by rw [upd_ne (ne_of_none q hn)]; exact s.k b u n q,
    fun b u q => by rw [upd_ne (ne_of_none q hn)]; exact s.t b u q,
    fun b u v q => by rw [upd_ne (ne_of_none q hn)]; exact s.z b u v q,
    fun b q => by
      by_cases e : b = a
      · subst e; rw [upd_same] at q; cases q
      · rw [upd_ne e] at q; exact s.f b q⟩
/-- behind H1, H2: what was changed was new since H -/
theorem Stp.back {H H1 H2 : Hp} {x : Addr} (a : Stp [] H H1) (b : Stp [x] H1 H2) (n : H x = none) : Stp [] H H2 :=
  ⟨fun c o _ h => b.k c o (by simpa using ne_of_none h n) (a.k c o (by simp) h), fun c xs h => b.t c xs (a.t c xs h), fun c o u h => b.z c o u (a.z c o u h), fun c h => a.f c (b.f c h)⟩
/-- what was changed was new since H -/
theorem Stp.fresh {A : List Addr} {H H1 H2 : Hp} (a : Stp [] H H1) (b : Stp A H1 H2) (n : ∀ x ∈ A, H x = none) : Stp [] H H2 :=
  ⟨fun c o _ h => b.k c o (fun z => by rw [n c z] at h; cases h) (a.k c o (by simp) h), fun c xs h => b.t c xs (a.t c xs h), fun c o u h => b.z c o u (a.z c o u h), fun c h => a.f c (b.f c h)⟩
theorem Stp.sqT {A : List Addr} {K : PySem.W.Frag} {H H1 : Hp} {a : Addr} {xs : List V} (s : Stp A H H1) (h : SqT K H a xs) : SqT K H1 a xs := by
  rcases h with (h | ⟨o, h⟩) | h
  · exact .inl (.inl (s.t _ _ h))
  · exact .inl (.inr ⟨o, s.z _ _ _ h⟩)
  · exact .inr h
/-! ### what is seen of a heap: a list of objects at unlike addresses -/
structure Sees (H : Hp) (L : List (Addr × HO)) : Prop where
  at_ : ∀ e ∈ L, H e.1 = some e.2
  nd : (L.map (·.1)).Nodup
theorem Sees.nil (H : Hp) : Sees H [] := ⟨fun _ h => (by cases h), by simp⟩
theorem Sees.get {H : Hp} {L : List (Addr × HO)} (s : Sees H L) (i : Nat) {a : Addr} {o : HO} (h : L[i]? = some (a, o) := by rfl) : H a = some o := s.at_ (a, o) (List.mem_of_getElem? h)
theorem Sees.out {H : Hp} {L : List (Addr × HO)} (s : Sees H L) {p : Addr} (h : H p = none) : p ∉ L.map (·.1) := fun q => by
  obtain ⟨e, he, rfl⟩ := List.mem_map.mp q
  rw [s.at_ e he] at h; cases h
theorem Sees.add {H : Hp} {L : List (Addr × HO)} (s : Sees H L) {p : Addr} {o : HO} (h : H p = some o) (n : p ∉ L.map (·.1)) : Sees H (L ++ [(p, o)]) :=
  ⟨fun e he => by
    rcases List.mem_append.mp he with he | he
    · exact s.at_ e he
    · have e1 : e = (p, o) := by simpa using he
      subst e1; exact h, by
    rw [List.map_append, List.nodup_append]
    refine ⟨s.nd, by simp, fun x hx y hy => ?_⟩
    have e1 : y = p := by simpa using hy
    subst e1
    exact fun z => n (z ▸ hx)⟩
theorem Sees.keep {A : List Addr} {H H1 : Hp} {L : List (Addr × HO)} (s : Sees H L) (t : Stp A H H1) (h : ∀ x ∈ A, x ∉ L.map (·.1)) : Sees H1 L :=
  ⟨fun e he => t.k _ _ (fun z => h _ z (List.mem_map.mpr ⟨e, he, rfl⟩)) (s.at_ e he), s.nd⟩
theorem Sees.keep0 {H H1 : Hp} {L : List (Addr × HO)} (s : Sees H L) (t : Stp [] H H1) : Sees H1 L := s.keep t fun x h => by cases h
theorem Sees.new {H : Hp} {L : List (Addr × HO)} (s : Sees H L) {p : Addr} {o : HO} (h : H p = none) : Sees (upd H p o) (L ++ [(p, o)]) :=
  (s.keep0 (Stp.new h)).add upd_same (s.out h)
theorem set_self {α : Type} : ∀ {l : List α} {i : Nat} {x : α}, l[i]? = some x → l.set i x = l
  | [], i, x, h => by simp at h
  | a :: l, 0, x, h => by
    have e : a = x := by simpa using h
    rw [e]; rfl
  | a :: l, i + 1, x, h => by
    show a :: l.set i x = a :: l
    rw [set_self (l := l) (i := i) (by simpa using h)]
theorem nd_set {L : List (Addr × HO)} {i : Nat} {a : Addr} {o o' : HO} (h : L[i]? = some (a, o)) : (L.set i (a, o')).map (·.1) = L.map (·.1) := by
  rw [List.map_set]
  exact set_self (by rw [List.getElem?_map, h]; rfl)
/-- what stands at i is changed, all else seen is kept -/
theorem Sees.chg {H H1 : Hp} {L : List (Addr × HO)} (s : Sees H L) (i : Nat) {a : Addr} {o o' : HO} (t : Stp [a] H H1) (h1 : H1 a = some o') (h : L[i]? = some (a, o) := by rfl) : Sees H1 (L.set i (a, o')) :=
  ⟨fun e he => by
    obtain ⟨j, hj, e1⟩ := List.mem_iff_getElem.mp he
    rw [List.getElem_set] at e1
    have hj2 : j < L.length := by simpa using hj
    by_cases q : i = j
    · rw [if_pos q] at e1
      rw [← e1]; exact h1
    · rw [if_neg q] at e1
      have m : e ∈ L := by rw [← e1]; exact List.getElem_mem hj2
      refine t.k _ _ (fun z => ?_) (s.at_ e m)
      have z1 : e.1 = a := by simpa using z
      obtain ⟨hi, ei⟩ := List.getElem?_eq_some_iff.mp h
      refine q ((List.getElem_inj (h₀ := by simpa using hi) (h₁ := by simpa using hj2) s.nd).mp ?_)
      rw [List.getElem_map, List.getElem_map, ei, e1]
      exact z1.symm, by rw [nd_set h]; exact s.nd⟩
theorem Sees.put {H : Hp} {L : List (Addr × HO)} (s : Sees H L) (i : Nat) {a : Addr} {o o' : HO} (h : L[i]? = some (a, o) := by rfl) (hm : Mut (some o) := by exact True.intro) : Sees (upd H a o') (L.set i (a, o')) :=
  s.chg i (Stp.put (s.get i h) (by simp) hm) upd_same h
theorem Sees.sub {H : Hp} {L M : List (Addr × HO)} (s : Sees H L) (h : M.Sublist L) : Sees H M :=
  ⟨fun e he => s.at_ e (h.subset he), s.nd.sublist (h.map _)⟩
theorem Sees.take {H : Hp} {L : List (Addr × HO)} (s : Sees H L) (n : Nat) : Sees H (L.take n) := s.sub (List.take_sublist _ _)
theorem Sees.ne {H : Hp} {L : List (Addr × HO)} (s : Sees H L) (i j : Nat) {a b : Addr} {o u : HO} (hi : L[i]? = some (a, o) := by rfl) (hj : L[j]? = some (b, u) := by rfl) (n : i ≠ j := by decide) : a ≠ b := fun e => by
  obtain ⟨h1, e1⟩ := List.getElem?_eq_some_iff.mp hi
  obtain ⟨h2, e2⟩ := List.getElem?_eq_some_iff.mp hj
  refine n ((List.getElem_inj (h₀ := by simpa using h1) (h₁ := by simpa using h2) s.nd).mp ?_)
  rw [List.getElem_map, List.getElem_map, e1, e2]
  exact e
/-! ### data of tuples alone -/
mutual
/-- no list in it -/
def flatD : PyData → Bool
  | .list _ => false
  | .tuple ds => flatDs ds
  | .dict _ => false
  | _ => true
def flatDs : List PyData → Bool
  | [] => true
  | d :: ds => flatD d && flatDs ds
end
theorem flatDs_app : ∀ (xs ys : List PyData), flatDs (xs ++ ys) = (flatDs xs && flatDs ys)
  | [], ys => by simp [flatDs]
  | x :: xs, ys => by
    show (flatD x && flatDs (xs ++ ys)) = ((flatD x && flatDs xs) && flatDs ys)
    rw [flatDs_app xs ys, Bool.and_assoc]
mutual
theorem dp_mono {A : List Addr} {K : PySem.W.Frag} {H H1 : Hp} (s : Stp A H H1) : ∀ (d : PyData) (v : V), flatD d = true → Dp K H v d → Dp K H1 v d
  | .none, _, _, h => by cases h; exact .non
  | .bool b, _, _, h => by cases h; exact .bl b
  | .int i, _, _, h => by cases h; exact .int i
  | .str x, _, _, h => by cases h; exact .str x
  | .list ds, _, f, h => by cases f
  | .tuple ds, _, f, h => by
    cases h with
    | tup hs ha => exact .tup (s.sqT hs) (dps_mono s ds _ f ha)
  | .dict _, _, _, h => by cases h
theorem dps_mono {A : List Addr} {K : PySem.W.Frag} {H H1 : Hp} (s : Stp A H H1) : ∀ (ds : List PyData) (vs : List V), flatDs ds = true → DpAll K H vs ds → DpAll K H1 vs ds
  | [], _, _, h => by cases h; exact .nil
  | d :: ds, _, f, h => by
    have f2 : (flatD d && flatDs ds) = true := f
    obtain ⟨f3, f4⟩ := Bool.and_eq_true_iff.mp f2
    cases h with
    | cons h1 h2 => exact .cons (dp_mono s d _ f3 h1) (dps_mono s ds _ f4 h2)
end
/-! ### own error classes -/
/-- the class at C, by the written part, as OexC and XfC ask; no attribute f of its own -/
def oexB (K : PySem.W.Frag) (C : Addr) : Bool := match K.lookup C with
  | some ⟨.type "type", _, .cls cd, sl⟩ => (match cd.mro, sl.toList with
    | .ref C' :: bm, [_, _, _, _, some (.builtin n), _] => C' == C && n == "ValueError.__new__" && !cd.hasDel && cd.hasDict && PySem.HandSPX.refsVE bm
    | _, _ => false)
  | _ => false
theorem oexB_ok {K : PySem.W.Frag} {C : Addr} (q : oexB K C = true) : ∃ nm q N bs bm sn sub ab col dd k0 k1 k2 k3 k5, K.lookup C = some (excClassObj nm q C N bs bm true sn sub ab col dd k0 k1 k2 k3 k5 "ValueError.__new__") ∧ PySem.HandSPX.refsVE bm = true := by
  unfold oexB at q
  split at q
  · rename_i dd cd sl ho
    split at q
    · rename_i C' bm k0 k1 k2 k3 n k5 hm hs
      simp only [Bool.and_eq_true, beq_iff_eq, Bool.not_eq_true'] at q
      obtain ⟨⟨⟨⟨rfl, rfl⟩, hdel⟩, hdc⟩, ht⟩ := q
      obtain ⟨nm, bs, mro, ns, qn, hd, sn, sub, ab, col, del⟩ := cd
      dsimp only at hm hdel hdc
      subst hm hdel hdc
      have hsl : sl = #[k0, k1, k2, k3, some (.builtin "ValueError.__new__"), k5] := by
        obtain ⟨l⟩ := sl
        simp only at hs
        rw [hs]
      subst hsl
      exact ⟨nm, qn, ns, bs, bm, sn, sub, ab, col, dd, k0, k1, k2, k3, k5, ho, ht⟩
    · cases q
  · cases q
/-- what the written part says of an own error class x with the field f, its __init__ at fI; HaltError at CH -/
structure ErrC (K : PySem.W.Frag) (C : Addr) (f : Str) : Prop where
  oex : OexC K C
  xf : XfC K C
  no : PySem.W.findIn K (.ref C) f = some none
  init : PySem.W.findIn K (.ref C) "__init__" = some (some (.ref (He.ma K C "__init__")))
  tI : PySem.W.typeIn K (.ref (He.ma K C "__init__")) = some (.type "function")
def errB (K : PySem.W.Frag) (x f : Str) : Bool :=
  oexB K (He.ga K x) && (decide (PySem.W.findIn K (.ref (He.ga K x)) "__setattr__" = some (some (.builtin "object.__setattr__"))) && (decide (PySem.W.subIn K (.ref (He.ga K x)) (.type "BaseException") = some true) &&
  (decide (PySem.W.typeIn K (.ref (He.ga K x)) = some (.type "type")) && (PySem.W.keepIn K (.ref (He.ga K x)) && (xfB K (He.ga K x) && (decide (PySem.W.findIn K (.ref (He.ga K x)) f = some none) &&
  (decide (PySem.W.findIn K (.ref (He.ga K x)) "__init__" = some (some (.ref (He.ma K (He.ga K x) "__init__")))) && decide (PySem.W.typeIn K (.ref (He.ma K (He.ga K x) "__init__")) = some (.type "function")))))))))
theorem errB_ok {K : PySem.W.Frag} {x f : Str} (h : errB K x f = true) : ErrC K (He.ga K x) f := by
  obtain ⟨h1, h⟩ := He.ba h
  obtain ⟨h2, h⟩ := He.ba h
  obtain ⟨h3, h⟩ := He.ba h
  obtain ⟨h4, h⟩ := He.ba h
  obtain ⟨h5, h⟩ := He.ba h
  obtain ⟨h6, h⟩ := He.ba h
  obtain ⟨h7, h⟩ := He.ba h
  obtain ⟨h8, h9⟩ := He.ba h
  exact ⟨⟨oexB_ok h1, of_decide_eq_true h2, of_decide_eq_true h3, of_decide_eq_true h4, h5⟩, xfB_ok h6, of_decide_eq_true h7, of_decide_eq_true h8, of_decide_eq_true h9⟩
/-- HaltError, whose __init__ is ValueError's -/
structure BaseErr (K : PySem.W.Frag) (C : Addr) : Prop where
  rd : PySem.W.readsIn K C (.type "type") = true
  ga : PySem.W.specialIn K (.ref C) "__getattribute__" = some (some (.builtin "type.__getattribute__"))
  at_ : PySem.W.findCls K (.ref C) (.type "type") "__init__" = some (.val (.builtin "ValueError.__init__"))
def isVE : Option PySem.W.CFound → Bool
  | some (.val (.builtin n)) => n == "ValueError.__init__"
  | _ => false
theorem isVE_ok {o : Option PySem.W.CFound} (h : isVE o = true) : o = some (.val (.builtin "ValueError.__init__")) := by
  unfold isVE at h
  split at h
  · rw [beq_iff_eq.mp h]
  · cases h
def baseErrB (K : PySem.W.Frag) (x : Str) : Bool := PySem.W.readsIn K (He.ga K x) (.type "type") &&
  (decide (PySem.W.specialIn K (.ref (He.ga K x)) "__getattribute__" = some (some (.builtin "type.__getattribute__"))) && isVE (PySem.W.findCls K (.ref (He.ga K x)) (.type "type") "__init__"))
theorem baseErrB_ok {K : PySem.W.Frag} {x : Str} (h : baseErrB K x = true) : BaseErr K (He.ga K x) := by
  obtain ⟨h1, h⟩ := He.ba h
  obtain ⟨h2, h3⟩ := He.ba h
  exact ⟨h1, of_decide_eq_true h2, isVE_ok h3⟩
section
variable {X : Cx} {o e : Expr} {es : List Expr} {to te ta : TE} {t tk : TA} {x m : Str} {p p1 p2 apos pos : Pos} {kws : List Keyword} {E : L2.St → XK} {k n : Nat} {ps ks : List Str} {sp : Sp} {gV : List V → List V → List V}
/-- x.__init__(self, ..), x an own error class that has none of its own -/
theorem pe_hinit {CH : Addr} {pl : Sem Bool} (hg : Gl X x) (hm : X.mg x = some (.ref CH)) (B : BaseErr X.K CH) (ha : PA X (e :: es) t) (hdb : (x == ("__debug__" : Str)) = false := by decide)
    (hc : eval (.Call (.Attribute (.Name x p1) "__init__" p2) (e :: es) [] pos) X.env = (do
      let ov ← eval (.Name x p1) X.env
      standAt p2.atName
      let (f, first) ← holding [ov] (getMethod ov "__init__" pl)
      callWith pos f first (backTo pos (starEach (e :: es) X.env)) (backToKw pos (keywordEach [] X.env))) := by rfl)
    (he : starEach (e :: es) X.env = (false, eval e X.env) :: starEach es X.env := by rfl) (hpl : (backTo pos (starEach es X.env)).any (·.1) = false := by rfl) :
    PE X (.Call (.Attribute (.Name x p1) "__init__" p2) (e :: es) [] pos) (tVeI X.K t) := by
  refine ⟨fun pins s σ H Q I h => ?_⟩
  refine PySem.W.methodCall_KW (ld_glob I hg hm ?_ hdb) hc
  refine PySem.W.method_cls I.kIn B.ga (PySem.W.cls_value I.kIn B.rd B.at_ (by decide +kernel) ?_)
  show wpAny _ _ (callWith pos (Value.builtin "ValueError.__init__") [] (backTo pos (starEach (e :: es) X.env)) []) _ _ _
  refine PyProof.Rows.callWith_method1 (thn (ha.run pos pins _ σ H _ (I.tok _) h) fun us s1 ⟨vs, H1, I1, r1, a, C, ws, ev, hl, T, ea, q⟩ => ?_) he hpl
  subst ev
  cases r1 with
  | @cons _ u0 _ ur ra rw' =>
    obtain rfl : u0 = Value.ref a := ra
    have hlen : ur.length ≤ sizeLine := by
      rw [← Paired.length rw', sizeLine_eq]
      omega
    exact oinit_ok T I1 ea hlen fun s' J => ⟨.non, H1, J, rfl, q⟩
/-! ### calls, by name: what is let out is wished for at the caller's slots -/
/-- nothing is let out -/
theorem pL {X : Cx} (σ : L2.St) : PassesAt (L2.CX X.prog X.w) X σ E0 := fun _ _ _ _ _ _ h => by
  obtain ⟨_, _, _, _, _, _, _, _, _, _, _, _, z⟩ := h
  exact z.elim
/-- the def at f: its promise, its parameters one by one -/
structure Cal (P : Program) (w : World) (K : PySem.W.Frag) (mg : Str → Option Value) (base : Heap) (k : Nat) (f : Addr) (ps : List Str) (sp : Sp) : Prop where
  ex : ∃ fd, FnOk P w K mg base (L2.CX P w) k f fd ps sp ∧ Binds K fd ps []
  kp : PySem.W.keepIn K (.ref f) = true
/-- .. called with n values and the keywords ks -/
structure CalK (P : Program) (w : World) (K : PySem.W.Frag) (mg : Str → Option Value) (base : Heap) (k : Nat) (f : Addr) (ps : List Str) (sp : Sp) (n : Nat) (ks : List Str) (gV : List V → List V → List V) : Prop where
  ex : ∃ fd g, FnOk P w K mg base (L2.CX P w) k f fd ps sp ∧ KBn K fd ps n ks g gV
  kp : PySem.W.keepIn K (.ref f) = true
theorem pe_cal {f : Addr} (C : Cal X.prog X.w X.K X.mg X.base k f ps sp) (hr : Room k X.A) (hg : Gl X x) (hm : X.mg x = some (.ref f)) (hx : ∀ σ, PassesAt (L2.CX X.prog X.w) X σ (E σ)) (ha : PA X (e :: es) t)
    (hdb : (x == ("__debug__" : Str)) = false := by decide) (he : starEach (e :: es) X.env = (false, eval e X.env) :: starEach es X.env := by rfl) (hpl : (backTo pos (starEach es X.env)).any (·.1) = false := by rfl) :
    PE X (.Call (.Name x p) (e :: es) [] pos) (tCallS sp E t) := by
  obtain ⟨fd, F, b⟩ := C.ex
  exact pe_callS F hr hg hm C.kp b hx ha hdb he hpl
/-- f() -/
theorem pe_cal0 {f : Addr} (C : Cal X.prog X.w X.K X.mg X.base k f ps sp) (hr : Room k X.A) (hg : Gl X x) (hm : X.mg x = some (.ref f)) (hx : ∀ σ, PassesAt (L2.CX X.prog X.w) X σ (E σ))
    (hdb : (x == ("__debug__" : Str)) = false := by decide) : PE X (.Call (.Name x p) [] [] pos) (tCallS sp E tNil) := by
  obtain ⟨fd, F, b⟩ := C.ex
  refine ⟨fun pins s σ H Q I h => ?_⟩
  refine wpAny_Call_Name_kw (ld_glob I hg hm ?_ hdb)
  exact PySem.W.callWith_K0 I.kIn C.kp (run_fnS (us := []) (vs := []) F hr b (hx σ) I .nil h)
/-- the callee with keywords runs -/
theorem run_calK {pins : List (Addr × Obj)} {σ : L2.St} {H : Hp} {s : Shared} {Q : VK} {us ws : List Value} {vs zs : List V} {f : Addr} {fd : FuncData} {g : List Value → List Value → List Value} (F : FnOk X.prog X.w X.K X.mg X.base (L2.CX X.prog X.w) k f fd ps sp) (hr : Room k X.A) (hb : KBn X.K fd ps n ks g gV) (hx : PassesAt (L2.CX X.prog X.w) X σ (E σ))
    (I : Inv X pins σ H s) (r : Vals vs us) (rz : Vals zs ws) (l1 : vs.length = n) (l2 : zs.length = ks.length) (h : sp (gV vs zs) H Q (E σ)) : wpAny (model X.prog X.w) X.A (call (.ref f) us (ks.zip ws)) (EP X pins σ Q) X.xe s := by
  have r2 := hb.rel r rz
  refine wpAny_call (codeAny_mono (F.run X.A X.stack s H ⟨us, ks.zip ws⟩ (g us ws) (gV vs zs) Q (E σ) hr I.env0 (hb.to s us ws I.kIn (r.length.symm.trans l1) (rz.length.symm.trans l2)) r2 h) fun r s' hq => ?_)
  cases r with
  | error e => exact hx pins H s e s' I hq
  | ok fl =>
    cases fl with
    | ret u => exact I.after hq
    | next => exact False.elim hq
    | brk => exact False.elim hq
    | cont => exact False.elim hq
def tCallKS (n m : Nat) (sp : Sp) (gV : List V → List V → List V) (E : L2.St → XK) (t tk : TA) : TE := fun σ H Q => t σ H fun vs H1 => tk σ H1 fun zs H2 => vs.length = n ∧ zs.length = m ∧ sp (gV vs zs) H2 Q (E σ)
theorem pe_calK {f : Addr} (C : CalK X.prog X.w X.K X.mg X.base k f ps sp n ks gV) (hr : Room k X.A) (hg : Gl X x) (hm : X.mg x = some (.ref f)) (hx : ∀ σ, PassesAt (L2.CX X.prog X.w) X σ (E σ)) (ha : PA X (e :: es) t) (hkw : PK X kws tk)
    (hall : (backToKw pos (keywordEach kws X.env)).all (·.1.isSome) = true := by rfl) (hks : (backToKw pos (keywordEach kws X.env)).filterMap (·.1) = ks := by rfl)
    (hdb : (x == ("__debug__" : Str)) = false := by decide) (he : starEach (e :: es) X.env = (false, eval e X.env) :: starEach es X.env := by rfl)
    (hpl : ((backTo pos (starEach (e :: es) X.env)).any (·.1) || (backToKw pos (keywordEach kws X.env)).any (·.1.isNone)) = false := by rfl) :
    PE X (.Call (.Name x p) (e :: es) kws pos) (tCallKS n ks.length sp gV E t tk) := by
  obtain ⟨fd, g, F, b⟩ := C.ex
  refine ⟨fun pins s σ H Q I h => ?_⟩
  refine wpAny_Call_Name_kw (ld_glob I hg hm ?_ hdb)
  refine PySem.W.callWith_KW (h₀ := X.base) I.ok.mod.kin C.kp hall (thn (ha.run pos pins s σ H _ I h) fun us s1 ⟨vs, H1, I1, r, q⟩ => ?_) hpl he
  refine thn (hkw.run pos pins s1 σ H1 _ I1 q) fun ws s2 ⟨zs, H2, I2, rz, l1, l2, q2⟩ => ⟨I2.kIn, ?_⟩
  rw [hks]
  exact run_calK F hr b (hx σ) I2 r rz l1 l2 q2
theorem pe_calK0 {f : Addr} (C : CalK X.prog X.w X.K X.mg X.base k f ps sp n ks gV) (hr : Room k X.A) (hg : Gl X x) (hm : X.mg x = some (.ref f)) (hx : ∀ σ, PassesAt (L2.CX X.prog X.w) X σ (E σ)) (hkw : PK X kws tk)
    (hall : (backToKw pos (keywordEach kws X.env)).all (·.1.isSome) = true := by rfl) (hks : (backToKw pos (keywordEach kws X.env)).filterMap (·.1) = ks := by rfl)
    (hdb : (x == ("__debug__" : Str)) = false := by decide)
    (hpl : ((backTo pos (starEach [] X.env)).any (·.1) || (backToKw pos (keywordEach kws X.env)).any (·.1.isNone)) = false := by rfl) :
    PE X (.Call (.Name x p) [] kws pos) (tCallKS n ks.length sp gV E tNil tk) := by
  obtain ⟨fd, g, F, b⟩ := C.ex
  refine ⟨fun pins s σ H Q I h => ?_⟩
  refine wpAny_Call_Name_kw (ld_glob I hg hm ?_ hdb)
  refine PySem.W.callWith_KW0 (h₀ := X.base) I.ok.mod.kin C.kp hall ?_ hpl
  refine thn (hkw.run pos pins s σ H _ I h) fun ws s2 ⟨zs, H2, I2, rz, l1, l2, q2⟩ => ⟨I2.kIn, ?_⟩
  rw [hks]
  exact run_calK (us := []) (vs := []) F hr b (hx σ) I2 .nil rz l1 l2 q2
/-! ### new instances -/
def tMakeKS (C : Addr) (n m : Nat) (sp : Sp) (gV : List V → List V → List V) (E : L2.St → XK) (t tk : TA) : TE := fun σ H Q => t σ H fun vs H1 => tk σ H1 fun zs H2 => vs.length = n ∧ zs.length = m ∧ ∀ x dx, H2 x = none → H2 dx = none → dx ≠ x →
  sp (gV (.ref x :: vs) zs) (upd (upd H2 dx (.own x)) x (.ins C dx [])) (fun v H3 => v = .non ∧ Q (.ref x) H3) (E σ)
theorem run_makeKS {pins : List (Addr × Obj)} {σ : L2.St} {H : Hp} {s : Shared} {Q : VK} {us ws : List Value} {vs zs : List V} {f C : Addr} {fd : FuncData} {g : List Value → List Value → List Value} (M : Mk X.K C f) (F : FnOk X.prog X.w X.K X.mg X.base (L2.CX X.prog X.w) k f fd ps sp) (hr : Room (k + 1) X.A) (hb : KBn X.K fd ps (n + 1) ks g gV) (hx : PassesAt (L2.CX X.prog X.w) X σ (E σ))
    (I : Inv X pins σ H s) (r : Vals vs us) (rz : Vals zs ws) (l1 : vs.length = n) (l2 : zs.length = ks.length)
    (h : ∀ x dx, H x = none → H dx = none → dx ≠ x → sp (gV (.ref x :: vs) zs) (upd (upd H dx (.own x)) x (.ins C dx [])) (fun v H2 => v = .non ∧ Q (.ref x) H2) (E σ)) :
    wpAny (model X.prog X.w) X.A (call (.ref C) us (ks.zip ws)) (EP X pins σ Q) X.xe s := by
  have hq := h (s.heap.objs.size + 1) s.heap.objs.size (I.hok.fresh (Nat.le_succ _)) (I.hok.fresh (Nat.le_refl _)) (Nat.ne_of_lt (Nat.lt_succ_self _))
  have I2 := Inv.made (C := C) I
  have r1 : Vals (V.ref (s.heap.objs.size + 1) :: vs) (Value.ref (s.heap.objs.size + 1) :: us) := .cons rfl r
  have r2 := hb.rel r1 rz
  have n1 : (Value.ref (s.heap.objs.size + 1) :: us).length = n + 1 := by
    rw [List.length_cons, ← r.length, l1]
  refine wpAny_call (make_map (f := f) I.kIn M.makes M.init (beq_iff_eq.mp M.fn) (codeAny_mono (F.run _ X.stack _ _ ⟨Value.ref (s.heap.objs.size + 1) :: us, ks.zip ws⟩ (g (Value.ref (s.heap.objs.size + 1) :: us) ws) _ _ (E σ) (hr.make C us (ks.zip ws))
    (I2.env0.make C us (ks.zip ws)) (hb.to _ (Value.ref (s.heap.objs.size + 1) :: us) ws I2.kIn n1 (rz.length.symm.trans l2)) r2 hq) fun r s' hq' => ?_))
  cases r with
  | error e => exact hx pins _ _ e s' I2 hq'
  | ok fl =>
    cases fl with
    | ret u =>
      obtain ⟨v, H', I3, rv, ev, q3⟩ := I2.after hq'
      subst ev
      exact ⟨rv, ⟨V.ref (s.heap.objs.size + 1), H', I3, rfl, q3⟩⟩
    | next => exact False.elim hq'
    | brk => exact False.elim hq'
    | cont => exact False.elim hq'
/-- C(k = v, ..) -/
theorem pe_mk0 {f C : Addr} (M : Mk X.K C f) (F : CalK X.prog X.w X.K X.mg X.base k f ps sp 1 ks gV) (hr : Room (k + 1) X.A) (hg : Gl X x) (hm : X.mg x = some (.ref C)) (hx : ∀ σ, PassesAt (L2.CX X.prog X.w) X σ (E σ)) (hkw : PK X kws tk)
    (hall : (backToKw pos (keywordEach kws X.env)).all (·.1.isSome) = true := by rfl) (hks : (backToKw pos (keywordEach kws X.env)).filterMap (·.1) = ks := by rfl) (hdb : (x == ("__debug__" : Str)) = false := by decide)
    (hpl : ((backTo pos (starEach [] X.env)).any (·.1) || (backToKw pos (keywordEach kws X.env)).any (·.1.isNone)) = false := by rfl) :
    PE X (.Call (.Name x p) [] kws pos) (tMakeKS C 0 ks.length sp gV E tNil tk) := by
  obtain ⟨fd, g, F, b⟩ := F.ex
  refine ⟨fun pins s σ H Q I h => ?_⟩
  refine wpAny_Call_Name_kw (ld_glob I hg hm ?_ hdb)
  refine PySem.W.callWith_KW0 (h₀ := X.base) I.ok.mod.kin M.kp hall ?_ hpl
  refine thn (hkw.run pos pins s σ H _ I h) fun ws s2 ⟨zs, H2, I2, rz, l1, l2, q2⟩ => ⟨I2.kIn, ?_⟩
  rw [hks]
  exact run_makeKS (us := []) (vs := []) M F hr b (hx σ) I2 .nil rz rfl l2 q2
/-- C(e, .., k = v, ..) -/
theorem pe_mk {f C : Addr} (M : Mk X.K C f) (F : CalK X.prog X.w X.K X.mg X.base k f ps sp (n + 1) ks gV) (hr : Room (k + 1) X.A) (hg : Gl X x) (hm : X.mg x = some (.ref C)) (hx : ∀ σ, PassesAt (L2.CX X.prog X.w) X σ (E σ)) (ha : PA X (e :: es) t) (hkw : PK X kws tk)
    (hall : (backToKw pos (keywordEach kws X.env)).all (·.1.isSome) = true := by rfl) (hks : (backToKw pos (keywordEach kws X.env)).filterMap (·.1) = ks := by rfl) (hdb : (x == ("__debug__" : Str)) = false := by decide)
    (he : starEach (e :: es) X.env = (false, eval e X.env) :: starEach es X.env := by rfl) (hpl : ((backTo pos (starEach (e :: es) X.env)).any (·.1) || (backToKw pos (keywordEach kws X.env)).any (·.1.isNone)) = false := by rfl) :
    PE X (.Call (.Name x p) (e :: es) kws pos) (tMakeKS C n ks.length sp gV E t tk) := by
  obtain ⟨fd, g, F, b⟩ := F.ex
  refine ⟨fun pins s σ H Q I h => ?_⟩
  refine wpAny_Call_Name_kw (ld_glob I hg hm ?_ hdb)
  refine PySem.W.callWith_KW (h₀ := X.base) I.ok.mod.kin M.kp hall (thn (ha.run pos pins s σ H _ I h) fun us s1 ⟨vs, H1, I1, r, q⟩ => ?_) hpl he
  refine thn (hkw.run pos pins s1 σ H1 _ I1 q) fun ws s2 ⟨zs, H2, I2, rz, l1, l2, q2⟩ => ⟨I2.kIn, ?_⟩
  rw [hks]
  exact run_makeKS M F hr b (hx σ) I2 r rz l1 l2 q2
/-- a constant of the module -/
theorem pe_gint {i : Int} (hg : Gl X x) (h : ∃ t, X.mg x = some (.int i t)) (hdb : (x == ("__debug__" : Str)) = false := by decide) : PE X (.Name x pos) (tC (.int i)) := by
  obtain ⟨t, h⟩ := h
  exact pe_glob hg h ⟨t, rfl⟩ hdb
theorem pe_gstr {z : Str} (hg : Gl X x) (h : ∃ t, X.mg x = some (.str z t)) (hdb : (x == ("__debug__" : Str)) = false := by decide) : PE X (.Name x pos) (tC (.str z)) := by
  obtain ⟨t, h⟩ := h
  exact pe_glob hg h ⟨t, rfl⟩ hdb
end
/-! ### == and != of instances without an own __eq__ -/
def cmpB (K : PySem.W.Frag) (C : Addr) : Bool := match K.lookup C with
  | some ⟨.type "type", _, .cls cd, sl⟩ => (match cd.mro, sl.toList with
    | [.ref C', .type "object"], [_, _, _, _, some (.builtin _), _] => C' == C && !cd.hasDel && PySem.W.nsOkIn K cd.ns && PySem.W.nsIn K cd.ns "__eq__" == some none && PySem.W.nsIn K cd.ns "__ne__" == some none
    | _, _ => false)
  | _ => false
theorem cmpB_ok {K : PySem.W.Frag} {C x dx : Addr} {h : Heap} (X : K.In h) (q : cmpB K C = true) (hx : h.get? x = some (PySem.W.instObj C dx)) : h.CmpInst x C [.type "object"] := by
  unfold cmpB at q
  split at q
  · rename_i dd cd sl ho
    split at q
    · rename_i C' k0 k1 k2 k3 n k5 hm hs
      simp only [Bool.and_eq_true, beq_iff_eq, Bool.not_eq_true'] at q
      obtain ⟨⟨⟨⟨rfl, hdel⟩, hok⟩, he⟩, hne⟩ := q
      obtain ⟨nm, bs, mro, ns, qn, hd, sn, sub, ab, col, del⟩ := cd
      dsimp only at hm hdel hok he hne
      subst hm hdel
      have hsl : sl = #[k0, k1, k2, k3, some (.builtin n), k5] := by
        obtain ⟨l⟩ := sl
        simp only at hs
        rw [hs]
      subst hsl
      exact ⟨_, nm, qn, ns, bs, hd, sn, sub, ab, col, dd, k0, k1, k2, k3, k5, n, _, hx, rfl, X _ _ ho, .of_isNs (PySem.W.isNs_of_in X hok), PySem.W.nsMap_none_of_in X hok he, PySem.W.nsMap_none_of_in X hok hne⟩
    · cases q
  · cases q
def rEqI (K : PySem.W.Frag) (neg : Bool) : R2 := fun x y H Q => ∃ a b C D dx dy fs gs, x = .ref a ∧ y = .ref b ∧ H a = some (.ins C dx fs) ∧ H b = some (.ins D dy gs) ∧ cmpB K C = true ∧ cmpB K D = true ∧ Q (.bl (if neg then !decide (a = b) else decide (a = b))) H
theorem op_eqI {X : Cx} (hu : X.A.units + 1 < cLine) : OpR X (compareOp .Eq) (rEqI X.K false) := by
  intro pins s σ H x y u v Q I r1 r2 h
  obtain ⟨a, b, C, D, dx, dy, fs, gs, rfl, rfl, ha, hb, hC, hD, q⟩ := h
  cases (show u = Value.ref a from r1)
  cases (show v = Value.ref b from r2)
  obtain ⟨_, oa, _⟩ := ins_get I.hok ha
  obtain ⟨_, ob, _⟩ := ins_get I.hok hb
  have ca := cmpB_ok I.kIn hC oa.obj
  have cb := cmpB_ok I.kIn hD ob.obj
  obtain ⟨hp, g, d, t, os⟩ := s
  by_cases e : a = b
  · subst e
    refine compareOp_eq_same F.cmp_object ca (by omega) ⟨.bl true, H, I, rfl, ?_⟩
    simpa using q
  · refine compareOp_eq_other F.cmp_object F.cmp_object ca cb e (by omega) ⟨.bl false, H, I, rfl, ?_⟩
    simpa [e] using q
theorem op_neI {X : Cx} (hu : X.A.units + 1 < cLine) : OpR X (compareOp .NotEq) (rEqI X.K true) := by
  intro pins s σ H x y u v Q I r1 r2 h
  obtain ⟨a, b, C, D, dx, dy, fs, gs, rfl, rfl, ha, hb, hC, hD, q⟩ := h
  cases (show u = Value.ref a from r1)
  cases (show v = Value.ref b from r2)
  obtain ⟨_, oa, _⟩ := ins_get I.hok ha
  obtain ⟨_, ob, _⟩ := ins_get I.hok hb
  have ca := cmpB_ok I.kIn hC oa.obj
  have cb := cmpB_ok I.kIn hD ob.obj
  obtain ⟨hp, g, d, t, os⟩ := s
  by_cases e : a = b
  · subst e
    refine compareOp_ne_same F.cmp_object ca (by omega) ⟨.bl false, H, I, rfl, ?_⟩
    simpa using q
  · refine compareOp_ne_other F.cmp_object F.cmp_object ca cb e (by omega) ⟨.bl true, H, I, rfl, ?_⟩
    simpa [e] using q
/-! ### raising an own error -/
/-- what an own error's __init__ promises -/
def spErr (C : Addr) (f : Str) : Sp := fun vs H Q _ => ∃ (e : Addr) (v : V), vs = [.ref e, v] ∧ H e = some (exo e C none) ∧ ∀ dx, H dx = none → dx ≠ e → Q .non (upd (upd H dx (exd dx [(f, v)])) e (exo e C (some dx)))
/-- x(e): an error with the field f -/
def tErr (C : Addr) (f : Str) (ta : TA) : L2.St → Hp → XK → Prop := fun σ H Q => ta σ H fun vs H1 => ∃ v, vs = [v] ∧ ∀ d, H1 d = none → Q (.ref C) (some d) (upd H1 d (.xd [(f, v)]))
theorem PA.cl {X : Cx} {es : List Expr} {t : TA} (h : PA X es t) : PA X es (fun σ H Q => ∃ Q0, t σ H Q0 ∧ ∀ vs H1, Q0 vs H1 → Q vs H1) :=
  ⟨fun pos pins s σ H Q I ⟨Q0, q, m⟩ => wpAny_mono (h.run pos pins s σ H Q0 I q) (fun us s1 ⟨vs, H1, I1, r, z⟩ => ⟨vs, H1, I1, r, m _ _ z⟩) fun _ _ z => z⟩
theorem pmk_err {X : Cx} {e : Expr} {ta : TA} {p pos : Pos} {x : Str} {C : Addr} {f : Str} {k : Nat} (T : ErrC X.K C f) (F : Cal X.prog X.w X.K X.mg X.base k (He.ma X.K C "__init__") ["self", f] (spErr C f)) (hr : Room (k + 1) X.A) (hg : Gl X x) (hm : X.mg x = some (.ref C)) (ha : PA X [e] ta)
    (hdb : (x == ("__debug__" : Str)) = false := by decide) (he : starEach [e] X.env = (false, eval e X.env) :: starEach [] X.env := by rfl) (hpl : (backTo pos (starEach [] X.env)).any (·.1) = false := by rfl) :
    PMk X (.Call (.Name x p) [e] [] pos) (tErr C f ta) := by
  obtain ⟨fd, F1, b⟩ := F.ex
  have z := pmk_oex (p := p) (pos := pos) T.oex T.init T.tI F1 hr b .nil (passL) hg hm (PA.cl ha) hdb he hpl
  intro pins s σ H Q I h
  refine z pins s σ H Q I ⟨_, h, fun vs H1 ⟨v, ev, q⟩ => ?_⟩
  subst ev
  refine ⟨by show 1 ≤ 1000; decide, fun a na => ⟨a, v, rfl, upd_same, fun dx ndx ne => ⟨rfl, dx, [(f, v)], upd_same, ?_, ?_, ?_⟩⟩⟩
  · rw [upd_ne ne, upd_same]
  · rw [upd_ne ne] at ndx; exact ndx
  · rw [upd_ne ne] at ndx
    have e : upd (del (upd (upd (upd H1 a (exo a C none)) dx (exd dx [(f, v)])) a (exo a C (some dx))) a) dx (.xd [(f, v)]) = upd H1 dx (.xd [(f, v)]) := by
      funext b
      by_cases e1 : b = dx
      · rw [e1, upd_same, upd_same]
      · rw [upd_ne e1, upd_ne e1]
        by_cases e2 : b = a
        · rw [e2, del_same, na]
        · rw [del_ne e2, upd_ne e2, upd_ne e1, upd_ne e2]
    rw [e]
    exact q dx ndx
/-! ### things of any kind: what a value is, as data; lists and dicts that stand outside A -/
mutual
inductive Td (K : PySem.W.Frag) (A : List Addr) (H : Hp) : V → PyData → Prop
  | non : Td K A H .non .none
  | bl (b : Bool) : Td K A H (.bl b) (.bool b)
  | int (i : Int) : Td K A H (.int i) (.int i)
  | str (x : Str) : Td K A H (.str x) (.str x)
  | lst {a : Addr} {xs : List V} {ds : List PyData} : SqL K H a xs → a ∉ A → TdAll K A H xs ds → Td K A H (.ref a) (.list ds)
  | tup {a : Addr} {xs : List V} {ds : List PyData} : SqT K H a xs → TdAll K A H xs ds → Td K A H (.ref a) (.tuple ds)
  | dic {a : Addr} {kvs : List (Key × V)} : H a = some (.dK kvs) → a ∉ A → Td K A H (.ref a) (.dict [])
inductive TdAll (K : PySem.W.Frag) (A : List Addr) (H : Hp) : List V → List PyData → Prop
  | nil : TdAll K A H [] []
  | cons {v : V} {vs : List V} {d : PyData} {ds : List PyData} : Td K A H v d → TdAll K A H vs ds → TdAll K A H (v :: vs) (d :: ds)
end
section
variable {K : PySem.W.Frag} {A : List Addr} {H H1 : Hp}
theorem Stp.sqL (s : Stp A H H1) {a : Addr} {xs : List V} (h : SqL K H a xs) (n : a ∉ A) : SqL K H1 a xs := by
  rcases h with (h | ⟨o, h⟩) | h
  · exact .inl (.inl (s.k _ _ n h))
  · exact .inl (.inr ⟨o, s.z _ _ _ h⟩)
  · exact .inr h
mutual
theorem Td.mono (s : Stp A H H1) : ∀ {d : PyData} {v : V}, Td K A H v d → Td K A H1 v d
  | _, _, .non => .non
  | _, _, .bl b => .bl b
  | _, _, .int i => .int i
  | _, _, .str x => .str x
  | _, _, .lst h n t => .lst (s.sqL h n) n (TdAll.mono s t)
  | _, _, .tup h t => .tup (s.sqT h) (TdAll.mono s t)
  | _, _, .dic h n => .dic (s.k _ _ n h) n
theorem TdAll.mono (s : Stp A H H1) : ∀ {ds : List PyData} {vs : List V}, TdAll K A H vs ds → TdAll K A H1 vs ds
  | _, _, .nil => .nil
  | _, _, .cons h t => .cons (Td.mono s h) (TdAll.mono s t)
end
mutual
/-- outside another address too -/
theorem Td.away {B : List Addr} (h : ∀ a ∈ B, a ∈ A) : ∀ {d : PyData} {v : V}, Td K A H v d → Td K B H v d
  | _, _, .non => .non
  | _, _, .bl b => .bl b
  | _, _, .int i => .int i
  | _, _, .str x => .str x
  | _, _, .lst q n t => .lst q (fun z => n (h _ z)) (TdAll.away h t)
  | _, _, .tup q t => .tup q (TdAll.away h t)
  | _, _, .dic q n => .dic q (fun z => n (h _ z))
theorem TdAll.away {B : List Addr} (h : ∀ a ∈ B, a ∈ A) : ∀ {ds : List PyData} {vs : List V}, TdAll K A H vs ds → TdAll K B H vs ds
  | _, _, .nil => .nil
  | _, _, .cons q t => .cons (Td.away h q) (TdAll.away h t)
end
mutual
/-- data of tuples alone stands outside anything -/
theorem Td.any {B : List Addr} : ∀ {d : PyData} {v : V}, flatD d = true → Td K A H v d → Td K B H v d
  | .none, _, _, h => by cases h; exact .non
  | .bool b, _, _, h => by cases h; exact .bl b
  | .int i, _, _, h => by cases h; exact .int i
  | .str x, _, _, h => by cases h; exact .str x
  | .list ds, _, f, _ => by cases f
  | .tuple ds, _, f, h => by
    cases h with
    | tup q t => exact .tup q (TdAll.any f t)
  | .dict _, _, f, _ => by cases f
theorem TdAll.any {B : List Addr} : ∀ {ds : List PyData} {vs : List V}, flatDs ds = true → TdAll K A H vs ds → TdAll K B H vs ds
  | [], _, _, h => by cases h; exact .nil
  | d :: ds, _, f, h => by
    obtain ⟨f1, f2⟩ := Bool.and_eq_true_iff.mp (show (flatD d && flatDs ds) = true from f)
    cases h with
    | cons q t => exact .cons (Td.any f1 q) (TdAll.any f2 t)
end
mutual
/-- no dict in it -/
def nodic : PyData → Bool
  | .list ds => nodics ds
  | .tuple ds => nodics ds
  | .dict _ => false
  | _ => true
def nodics : List PyData → Bool
  | [] => true
  | d :: ds => nodic d && nodics ds
end
mutual
theorem Td.dp : ∀ {d : PyData} {v : V}, nodic d = true → Td K A H v d → Dp K H v d
  | .none, _, _, h => by cases h; exact .non
  | .bool b, _, _, h => by cases h; exact .bl b
  | .int i, _, _, h => by cases h; exact .int i
  | .str x, _, _, h => by cases h; exact .str x
  | .list ds, _, f, h => by
    cases h with
    | lst q n t => exact .lst q (TdAll.dp f t)
  | .tuple ds, _, f, h => by
    cases h with
    | tup q t => exact .tup q (TdAll.dp f t)
  | .dict _, _, f, _ => by cases f
theorem TdAll.dp : ∀ {ds : List PyData} {vs : List V}, nodics ds = true → TdAll K A H vs ds → DpAll K H vs ds
  | [], _, _, h => by cases h; exact .nil
  | d :: ds, _, f, h => by
    obtain ⟨f1, f2⟩ := Bool.and_eq_true_iff.mp (show (nodic d && nodics ds) = true from f)
    cases h with
    | cons q t => exact .cons (Td.dp f1 q) (TdAll.dp f2 t)
end
theorem TdAll.len : ∀ {ds : List PyData} {vs : List V}, TdAll K A H vs ds → vs.length = ds.length
  | _, _, .nil => rfl
  | _, _, .cons _ t => congrArg Nat.succ t.len
theorem TdAll.get : ∀ {ds : List PyData} {vs : List V} {i : Nat} {v : V}, TdAll K A H vs ds → vs[i]? = some v → ∃ d, ds[i]? = some d ∧ Td K A H v d
  | _, _, _, _, .nil, e => by simp at e
  | _, _, 0, _, .cons h _, e => by simp at e; subst e; exact ⟨_, rfl, h⟩
  | _, _, i + 1, v, .cons _ t, e => by
    obtain ⟨d, h1, h2⟩ := TdAll.get (i := i) (v := v) t (by simpa using e)
    exact ⟨d, by simpa using h1, h2⟩
theorem TdAll.getD : ∀ {ds : List PyData} {vs : List V} {i : Nat} {d : PyData}, TdAll K A H vs ds → ds[i]? = some d → ∃ v, vs[i]? = some v ∧ Td K A H v d
  | _, _, _, _, .nil, e => by simp at e
  | _, _, 0, _, .cons h _, e => by simp at e; subst e; exact ⟨_, rfl, h⟩
  | _, _, i + 1, d, .cons _ t, e => by
    obtain ⟨v, h1, h2⟩ := TdAll.getD (i := i) (d := d) t (by simpa using e)
    exact ⟨v, by simpa using h1, h2⟩
theorem TdAll.app : ∀ {ds es : List PyData} {vs ws : List V}, TdAll K A H vs ds → TdAll K A H ws es → TdAll K A H (vs ++ ws) (ds ++ es)
  | _, _, _, _, .nil, s => s
  | _, _, _, _, .cons r t, s => .cons r (t.app s)
theorem TdAll.take : ∀ {ds : List PyData} {vs : List V} (n : Nat), TdAll K A H vs ds → TdAll K A H (vs.take n) (ds.take n)
  | _, _, 0, _ => .nil
  | _, _, _ + 1, .nil => .nil
  | _, _, n + 1, .cons r t => .cons r (t.take n)
theorem TdAll.drop : ∀ {ds : List PyData} {vs : List V} (n : Nat), TdAll K A H vs ds → TdAll K A H (vs.drop n) (ds.drop n)
  | _, _, 0, r => r
  | _, _, _ + 1, .nil => .nil
  | _, _, n + 1, .cons _ t => t.drop n
theorem TdAll.ints : ∀ ns : List Int, TdAll K A H (ns.map V.int) (ns.map PyData.int)
  | [] => .nil
  | n :: r => .cons (.int n) (TdAll.ints r)
theorem TdAll.flatMono {B : List Addr} {ds : List PyData} {vs : List V} (h : TdAll K A H vs ds) (f : flatDs ds = true) (s : Stp B H H1) : TdAll K A H1 vs ds := ((h.any f).mono s).any f
theorem Td.flatMono {B : List Addr} {d : PyData} {v : V} (h : Td K A H v d) (f : flatD d = true) (s : Stp B H H1) : Td K A H1 v d := ((h.any f).mono s).any f
def kindD : PyData → String
  | .none => "NoneType"
  | .bool _ => "bool"
  | .int _ => "int"
  | .str _ => "str"
  | .list _ => "list"
  | .tuple _ => "tuple"
  | .dict _ => "dict"
theorem sqL_ty {a : Addr} {xs : List V} (h : SqL K H a xs) : TyX K H (.ref a) (.type "list") := by
  rcases h with (h | ⟨o, h⟩) | ⟨o, its, n, e, c, _⟩
  · exact .base (.lst h)
  · exact .base (.frz h)
  · exact .kList e c
theorem sqT_ty {a : Addr} {xs : List V} (h : SqT K H a xs) : TyX K H (.ref a) (.type "tuple") := by
  rcases h with (h | ⟨o, h⟩) | ⟨o, its, n, e, c, _⟩
  · exact .base (.tup h)
  · exact .fTuple h
  · exact .kTuple e c
theorem Td.ty : ∀ {d : PyData} {v : V}, Td K A H v d → TyX K H v (.type (kindD d))
  | _, _, .non => .base .non
  | _, _, .bl b => .base (.bl b)
  | _, _, .int i => .base (.int i)
  | _, _, .str x => .base (.str x)
  | _, _, .lst h _ _ => sqL_ty h
  | _, _, .tup h _ => sqT_ty h
  | _, _, .dic h _ => .base (.dK h)
end
/-- isinstance(x, T), T a built-in kind -/
def isT : String → PyData → Bool
  | "int", .int _ => true
  | "int", .bool _ => true
  | "bool", .bool _ => true
  | "str", .str _ => true
  | "list", .list _ => true
  | "tuple", .tuple _ => true
  | "dict", .dict _ => true
  | _, _ => false
def kinds6 : List String := ["int", "bool", "str", "list", "tuple", "dict"]
def isK (T k : String) : Bool := k == T || (T == "int" && k == "bool")
theorem kit_tab : ∀ T ∈ kinds6, ∀ k ∈ ["NoneType", "bool", "int", "str", "list", "tuple", "dict"], kitB k T = some (isK T k) := by decide +kernel
theorem isT_tab {T : String} (hT : T ∈ kinds6) (d : PyData) : isK T (kindD d) = isT T d := by
  have e : T = "int" ∨ T = "bool" ∨ T = "str" ∨ T = "list" ∨ T = "tuple" ∨ T = "dict" := by simpa [kinds6] using hT
  rcases e with rfl | rfl | rfl | rfl | rfl | rfl <;> cases d <;> first | rfl | (simp [isK, kindD, isT])
theorem kit_isT {T : String} (hT : T ∈ kinds6) (d : PyData) : kitB (kindD d) T = some (isT T d) := by
  rw [← isT_tab hT d]
  exact kit_tab T hT _ (by cases d <;> simp [kindD])
theorem isT_tuple {d : PyData} (h : isT "tuple" d = true) : ∃ ds, d = .tuple ds := by
  cases d with
  | tuple ds => exact ⟨ds, rfl⟩
  | _ => cases h
theorem isT_list {d : PyData} (h : isT "list" d = true) : ∃ ds, d = .list ds := by
  cases d with
  | list ds => exact ⟨ds, rfl⟩
  | _ => cases h
theorem isT_str {d : PyData} (h : isT "str" d = true) : ∃ z, d = .str z := by
  cases d with
  | str z => exact ⟨z, rfl⟩
  | _ => cases h
theorem drop_at {α : Type} : ∀ {l : List α} {i : Nat} {x : α}, l[i]? = some x → l.drop i = x :: l.drop (i + 1)
  | [], i, x, h => by simp at h
  | a :: l, 0, x, h => by
    have e : a = x := by simpa using h
    rw [e]; rfl
  | a :: l, i + 1, x, h => by
    show l.drop i = x :: l.drop (i + 1)
    exact drop_at (by simpa using h)
def rIsD (K : PySem.W.Frag) (T : String) : List V → Hp → VK → Prop := fun xs H Q => ∃ (x : V) (A : List Addr) (d : PyData), xs = [x, .ty T] ∧ Td K A H x d ∧ Q (.bl (isT T d)) H
theorem call_isD {X : Cx} {T : String} (hT : T ∈ kinds6) : CallR X (.builtin "isinstance") (rIsD X.K T) := by
  intro pins s σ H xs us Q I r h
  obtain ⟨x, A, d, rfl, td, q⟩ := h
  exact call_isi pins s σ H _ us Q I r ⟨x, .ty T, _, _, _, rfl, .ty T, td.ty, kit_ty (kit_isT hT d), q⟩
/-! ### numbers -/
def isWhole : PyData → Bool
  | .int _ => true
  | _ => false
def isFrom (d : PyData) (lo hi : Int) : Bool := match d with
  | .int i => decide (lo ≤ i) && decide (i ≤ hi)
  | _ => false
theorem isFrom_int {d : PyData} {lo hi : Int} (h : isFrom d lo hi = true) : ∃ i, d = .int i ∧ lo ≤ i ∧ i ≤ hi := by
  cases d with
  | int i =>
    obtain ⟨h1, h2⟩ := Bool.and_eq_true_iff.mp (show (decide (lo ≤ i) && decide (i ≤ hi)) = true from h)
    exact ⟨i, rfl, of_decide_eq_true h1, of_decide_eq_true h2⟩
  | _ => cases h
def spWhole (K : PySem.W.Frag) : Sp := fun vs H Q _ => ∃ (v : V) (A : List Addr) (d : PyData), vs = [v] ∧ Td K A H v d ∧ Q (.bl (isWhole d)) H
def spFrom (K : PySem.W.Frag) : Sp := fun vs H Q _ => ∃ (v : V) (A : List Addr) (d : PyData) (lo hi : Int), vs = [v, .int lo, .int hi] ∧ Td K A H v d ∧ Q (.bl (isFrom d lo hi)) H
/-! ### the law's draws -/
/-- a source of draws stands at a -/
def Src (H : Hp) (a : Addr) : Prop := ∃ x c k : Int, H a = some (.lst [.int x, .int c, .int k])
def spMixed : Sp := fun vs H Q _ => ∃ c k : Int, vs = [.int c, .int k] ∧ ∀ r : Int, Q (.int r) H
def spSource : Sp := fun vs H Q _ => ∃ c : Int, vs = [.int c] ∧ ∀ p, H p = none → Q (.ref p) (upd H p (.lst [.int c, .int c, .int 0]))
def spTake : Sp := fun vs H Q _ => ∃ (a : Addr) (m : Int), vs = [.ref a, .int m] ∧ 0 < m ∧ m < 2 ^ 62 ∧ Src H a ∧ ∀ (r : Int) (H' : Hp), 0 ≤ r → r < m → Src H' a → Stp [a] H H' → Q (.int r) H'
/-! ### the written part of a context -/
theorem kx1 {CX : CXT} {P : Program} {w : World} {K : PySem.W.Frag} {mg : Str → Option Value} {base : Heap} {N : List Str} {q : Str} {sc : Scope} {f : Addr} {cdv : Value} {A : Around} {outer : List Env} {s : Shared} {H : Hp} {E : XK} : (cxOf CX P w K mg base N q sc f cdv A outer s H E).nox.K = K := rfl
theorem kx2 {CX : CXT} {P : Program} {w : World} {K : PySem.W.Frag} {mg : Str → Option Value} {base : Heap} {N : List Str} {q : Str} {sc : Scope} {f : Addr} {cdv : Value} {A : Around} {outer : List Env} {s : Shared} {H : Hp} {E : XK} : (cxOf CX P w K mg base N q sc f cdv A outer s H E).K = K := rfl
theorem kx3 {X : Cx} {pn : List (Addr × Obj)} {xe : Value → Shared → Prop} : (X.tr pn xe).K = X.K := rfl
theorem kx4 {X : Cx} {pn : List (Addr × Obj)} {a : Addr} : (X.suite a pn).K = X.K := rfl
theorem kx5 {X : Cx} {s : Shared} {H : Hp} {scope : Scope} {cenv : Env} {fp : List Addr} : (X.blk s H scope cenv fp).K = X.K := rfl
/-- a keyword-only default of the def at f, if it is an object -/
def kwAt (f : Str × Option Str) (x : Str) (K : PySem.W.Frag) : Addr := match K.lookup (He.fAd K f) with
  | some ⟨_, _, .func fd, _⟩ => (match fd.kwdefaults with
    | .ref D => (match PySem.W.nsIn K D x with
      | some (some (.ref a)) => a
      | _ => 0)
    | _ => 0)
  | _ => 0
theorem lenF {f : Str} {v : V} : ∀ {fs : List (Str × V)} {n : Nat}, fs.length < n → (putF f v fs).length < n + 1
  | [], n, h => by show 1 < n + 1; simp only [List.length_nil] at h; omega
  | (g, x) :: r, n, h => by
    unfold putF
    split
    · simp only [List.length_cons] at h ⊢; omega
    · have h2 : r.length < n - 1 := by simp only [List.length_cons] at h; omega
      have := lenF (f := f) (v := v) h2
      simp only [List.length_cons] at h ⊢; omega
theorem Src.ne {H : Hp} {a p : Addr} (s : Src H a) (h : H p = none) : p ≠ a := fun e => by
  subst e
  obtain ⟨_, _, _, z⟩ := s
  rw [z] at h; cases h
theorem Src.new {H : Hp} {a p : Addr} {o : HO} (s : Src H a) (h : H p = none) : Src (upd H p o) a := by
  have n := s.ne h
  obtain ⟨x, c, k, z⟩ := s
  exact ⟨x, c, k, by rw [upd_ne n.symm]; exact z⟩
theorem Src.put {H : Hp} {a p : Addr} {o : HO} (s : Src H a) (n : p ≠ a) : Src (upd H p o) a := by
  obtain ⟨x, c, k, z⟩ := s
  exact ⟨x, c, k, by rw [upd_ne n.symm]; exact z⟩
theorem Src.keep {A : List Addr} {H H1 : Hp} {a : Addr} (s : Src H a) (t : Stp A H H1) (n : a ∉ A) : Src H1 a := by
  obtain ⟨x, c, k, z⟩ := s
  exact ⟨x, c, k, t.k _ _ n z⟩
/-! ### data that may be compared -/
structure Sh (n : Nat) (d : PyData) : Prop where
  lay : d.canLay0 = true
  dep : d.depth ≤ n
theorem sh_ok {n : Nat} {d : PyData} (h : Sh n d) (hn : n ≤ 64) : SeqAt.shaped d = true := by
  unfold SeqAt.shaped
  rw [h.lay, decide_eq_true (Nat.le_trans h.dep hn)]; rfl
theorem sh_all {n : Nat} : ∀ {ds : List PyData}, (∀ d ∈ ds, Sh n d) → PyData.canLayAll0 ds = true ∧ PyData.depthAll ds ≤ n
  | [], _ => ⟨by simp only [PyData.canLayAll0], by simp only [PyData.depthAll]; exact Nat.zero_le _⟩
  | d :: ds, h => by
    obtain ⟨h1, h2⟩ := sh_all (ds := ds) fun x hx => h x (List.mem_cons_of_mem _ hx)
    have h3 := h d (List.mem_cons_self ..)
    refine ⟨?_, ?_⟩
    · simp only [PyData.canLayAll0, h3.lay, h1, Bool.and_self]
    · simp only [PyData.depthAll]; exact Nat.max_le.mpr ⟨h3.dep, h2⟩
theorem sh_list {n : Nat} {ds : List PyData} (h : ∀ d ∈ ds, Sh n d) : Sh (n + 1) (.list ds) := by
  obtain ⟨h1, h2⟩ := sh_all h
  exact ⟨by simp only [PyData.canLay0, h1], by simp only [PyData.depth]; omega⟩
theorem sh_tuple {n : Nat} {ds : List PyData} (h : ∀ d ∈ ds, Sh n d) : Sh (n + 1) (.tuple ds) := by
  obtain ⟨h1, h2⟩ := sh_all h
  exact ⟨by simp only [PyData.canLay0, h1], by simp only [PyData.depth]; omega⟩
theorem sh_int {n : Nat} (i : Int) : Sh n (.int i) := ⟨by simp only [PyData.canLay0], by simp only [PyData.depth]; exact Nat.zero_le _⟩
theorem Sh.up {n m : Nat} {d : PyData} (h : Sh n d) (hn : n ≤ m) : Sh m d := ⟨h.lay, Nat.le_trans h.dep hn⟩
theorem eqv_self {n : Nat} {d : PyData} (h : Sh n d) : PyData.eqv d d = true := SeqAt.eqv_refl d h.lay
theorem ixN_last {n : Nat} : ixN (n + 1) (-1) = some (n + 1 - 1) := by
  unfold ixN
  rw [if_neg (by decide), if_pos (by omega)]
  congr 1
  omega
/-! ### new objects and stores, the heap behind them a letter -/
structure Nw (H H' : Hp) (p : Addr) (o : HO) : Prop where
  n : H p = none
  s : ∀ A, Stp A H H'
  a : H' p = some o
theorem Nw.mk' {H : Hp} {p : Addr} {o : HO} (h : H p = none) : Nw H (upd H p o) p o := ⟨h, fun _ => .new h, upd_same⟩
structure Wr (H H' : Hp) (p : Addr) (o : HO) : Prop where
  s : Stp [p] H H'
  a : H' p = some o
theorem Wr.mk' {H : Hp} {p : Addr} {o o' : HO} (h : H p = some o) (hm : Mut (some o) := by exact True.intro) : Wr H (upd H p o') p o' := ⟨.put h (by simp) hm, upd_same⟩
theorem OpR.imp {X : Cx} {f : Value → Value → Sem Value} {r r' : R2} (h : OpR X f r) (i : ∀ x y H Q, r' x y H Q → r x y H Q) : OpR X f r' := fun pins s σ H x y v u Q I a b q => h pins s σ H x y v u Q I a b (i _ _ _ _ q)
theorem CallR.imp {X : Cx} {f : Value} {r r' : List V → Hp → VK → Prop} (h : CallR X f r) (i : ∀ x H Q, r' x H Q → r x H Q) : CallR X f r' := fun pins s σ H x u Q I a q => h pins s σ H x u Q I a (i _ _ _ q)
theorem SlR.imp {X : Cx} {r r' : V → Option Int → Option Int → Hp → VK → Prop} (h : SlR X r) (i : ∀ x lo hi H Q, r' x lo hi H Q → r x lo hi H Q) : SlR X r' := fun pins s σ H x v vl vu lo hi sl Q I a b c d q => h pins s σ H x v vl vu lo hi sl Q I a b c d (i _ _ _ _ _ q)
section
variable {X : Cx} {es : List Expr} {t : TA} {pos : Pos}
def tTupN (t : TA) : TE := fun σ H Q => t σ H fun xs H1 => xs.length ≤ sizeLine ∧ ∀ p H', Nw H1 H' p (.tup xs) → Q (.ref p) H'
def tLstN (t : TA) : TE := fun σ H Q => t σ H fun xs H1 => xs.length ≤ sizeLine ∧ ∀ p H', Nw H1 H' p (.lst xs) → Q (.ref p) H'
theorem pe_tupN {x1} (h : PA X es t) : PE X (.Tuple es x1 pos) (tTupN t) := by
  refine ⟨fun pins s σ H Q I hq => ?_⟩
  refine wpAny_Tuple_spliced (thn (h.run pos pins s σ H _ I hq) fun us s1 ⟨xs, H1, I1, r, z, q⟩ => ⟨by rw [← r.length]; exact z, ?_⟩)
  have hf : H1 s1.heap.objs.size = none := I1.hok.fresh (Nat.le_refl _)
  refine ⟨.ref s1.heap.objs.size, upd H1 s1.heap.objs.size (.tup xs), I1.laid (t' := s1.toks) (fun b u e => Heap.get?_push_of_some _ e) (Nat.le_refl _) ?_, rfl, q _ _ (.mk' hf)⟩
  exact ⟨z, us, r, ⟨_, Heap.get?_push_size _ rfl, rfl, _, rfl⟩⟩
theorem pe_lstN (h : PA X es t) : PE X (.List es pos) (tLstN t) := by
  refine ⟨fun pins s σ H Q I hq => ?_⟩
  refine wpAny_List_spliced (thn (h.run pos pins s σ H _ I hq) fun us s1 ⟨xs, H1, I1, r, z, q⟩ => ⟨by rw [← r.length]; exact z, ?_⟩)
  have hf : H1 s1.heap.objs.size = none := I1.hok.fresh (Nat.le_refl _)
  refine ⟨.ref s1.heap.objs.size, upd H1 s1.heap.objs.size (.lst xs), I1.laid (t' := s1.toks) (fun b u e => Heap.get?_push_of_some _ e) (Nat.le_refl _) ?_, rfl, q _ _ (.mk' hf)⟩
  exact ⟨z, us, 0, r, Heap.get?_push_size _ rfl⟩
def tDNewN : TE := fun _ H Q => ∀ p H', Nw H H' p (.dK []) → Q (.ref p) H'
theorem pe_dnewN : PE X (.Dict [] [] pos) tDNewN := ⟨fun pins s σ H Q I h => pe_dnewK.run pins s σ H Q I fun p hp => h p _ (.mk' hp)⟩
theorem call_listN : CallR X (.type "list") (fun xs H Q => ∃ p ys, xs = [.ref p] ∧ (SqL X.K H p ys ∨ SqT X.K H p ys) ∧ ∀ l H', Nw H H' l (.lst ys) → Q (.ref l) H') :=
  CallR.imp call_list_of fun x H Q ⟨p, ys, e, h, q⟩ => ⟨p, ys, e, h, fun l hl => q l _ (.mk' hl)⟩
/-- tuple(xs), xs a list or a tuple -/
theorem call_tupleN : CallR X (.type "tuple") (fun xs H Q => ∃ p ys, xs = [.ref p] ∧ (SqL X.K H p ys ∨ SqT X.K H p ys) ∧ ∀ l H', (∀ A, Stp A H H') → SqT X.K H' l ys → Q (.ref l) H') :=
  CallR.imp call_tuple_of fun x H Q ⟨p, ys, e, h, q⟩ => ⟨p, ys, e, by
    rcases h with h | h
    · exact .inl ⟨h, fun l hl => q l _ (fun _ => .new hl) (SqT.of upd_same)⟩
    · exact .inr ⟨h, q p H (fun _ => .refl H) h⟩⟩
theorem op_catN : OpR X (binaryOp .Add) (fun x y H Q => ∃ l b xs zs, x = .ref l ∧ y = .ref b ∧ SqL X.K H l xs ∧ SqL X.K H b zs ∧ xs.length + zs.length ≤ sizeLine ∧ ∀ p H', Nw H H' p (.lst (xs ++ zs)) → Q (.ref p) H') := by
  intro pins s σ H x y v u Q I rx ry h
  obtain ⟨l, b, xs, zs, rfl, rfl, hL, hB, hz, q⟩ := h
  cases rx
  cases ry
  obtain ⟨its, r, pl, z1⟩ := I.list hL
  obtain ⟨its2, r2, pl2, z2⟩ := I.list hB
  obtain ⟨⟨cls, dd, data, sl⟩, ho, hc, n, hd⟩ := pl.isList
  obtain ⟨⟨cls2, dd2, data2, sl2⟩, ho2, hc2, n2, hd2⟩ := pl2.isList
  simp only at hc hd hc2 hd2
  subst hc hd hc2 hd2
  have hl1 := r.length
  have hl2 := r2.length
  have e : its.toArray ++ its2.toArray = (its ++ its2).toArray := by simp
  refine concat_meets ⟨_, ho, rfl⟩ ⟨_, ho2, rfl⟩ noFill_list_add seq_list_add PySem.F.slot_list_add PySem.F.entry_list_add (PySem.F.args_list_add_2 _ _) (list_addW l b its.toArray its2.toArray n n2 dd dd2 sl sl2 (by simp only [List.size_toArray]; omega)) ⟨ho, ho2, ?_⟩
  rw [e]
  have hf : H s.heap.objs.size = none := I.hok.fresh (Nat.le_refl _)
  exact ⟨.ref s.heap.objs.size, upd H s.heap.objs.size (.lst (xs ++ zs)), I.laid (t' := s.toks) (fun b u e => Heap.get?_push_of_some _ e) (Nat.le_refl _) ⟨by rw [List.length_append]; omega, its ++ its2, 0, r.append r2, Heap.get?_push_size _ rfl⟩, rfl, q _ _ (.mk' hf)⟩
theorem sl_listN : SlR X (fun x lo hi H Q => ∃ a xs, x = .ref a ∧ SqL X.K H a xs ∧ ∀ p H', Nw H H' p (.lst (cutV xs lo hi)) → Q (.ref p) H') :=
  SlR.imp sl_list fun x lo hi H Q ⟨a, xs, e, h, q⟩ => ⟨a, xs, e, h, fun p hp => q p _ (.mk' hp)⟩
end
/-! ### tuples put together and cut, whichever object comes -/
theorem catA_of {K : PySem.W.Frag} {H : Hp} {Q : VK} {a b : Addr} {xs ys : List V} (ha : SqT K H a xs) (hb : SqT K H b ys) (h : ∀ p H', (∀ A, Stp A H H') → SqT K H' p (xs ++ ys) → Q (.ref p) H') :
    (xs = [] → Q (.ref b) H) ∧ (xs ≠ [] → ys = [] → Q (.ref a) H) ∧ (xs ≠ [] → ys ≠ [] → ∀ p, H p = none → Q (.ref p) (upd H p (.tup (xs ++ ys)))) := by
  refine ⟨fun e => h b H (fun _ => .refl H) ?_, fun _ e => h a H (fun _ => .refl H) ?_, fun _ _ p hp => h p _ (fun _ => .new hp) (SqT.of upd_same)⟩
  · rw [e]; exact hb
  · rw [e, List.append_nil]; exact ha
theorem cutV_whole {xs : List V} {lo hi : Option Int} (h1 : HT.sIx xs.length 0 lo = 0) (h2 : HT.sIx xs.length xs.length hi = xs.length) : cutV xs lo hi = xs := by
  unfold cutV
  rw [h1, h2, List.drop_zero, Nat.sub_zero, List.take_length]
theorem slA_of {K : PySem.W.Frag} {H : Hp} {Q : VK} {a : Addr} {xs : List V} {lo hi : Option Int} (ha : SqT K H a xs) (h : ∀ p H', (∀ A, Stp A H H') → SqT K H' p (cutV xs lo hi) → Q (.ref p) H') :
    (HT.sIx xs.length 0 lo = 0 ∧ HT.sIx xs.length xs.length hi = xs.length → Q (.ref a) H) ∧ (¬ (HT.sIx xs.length 0 lo = 0 ∧ HT.sIx xs.length xs.length hi = xs.length) → ∀ p, H p = none → Q (.ref p) (upd H p (.tup (cutV xs lo hi)))) := by
  refine ⟨fun e => h a H (fun _ => .refl H) ?_, fun _ p hp => h p _ (fun _ => .new hp) (SqT.of upd_same)⟩
  rw [cutV_whole e.1 e.2]; exact ha
theorem op_catTN {X : Cx} : OpR X (binaryOp .Add) (fun x y H Q => ∃ a b xs ys, x = .ref a ∧ y = .ref b ∧ SqT X.K H a xs ∧ SqT X.K H b ys ∧ xs.length + ys.length ≤ sizeLine ∧ ∀ p H', (∀ A, Stp A H H') → SqT X.K H' p (xs ++ ys) → Q (.ref p) H') :=
  OpR.imp op_catA fun x y H Q ⟨a, b, xs, ys, e1, e2, h1, h2, hz, q⟩ => ⟨a, b, xs, ys, e1, e2, h1, h2, hz, catA_of h1 h2 q⟩
theorem sl_tupN {X : Cx} : SlR X (fun x lo hi H Q => ∃ a xs, x = .ref a ∧ SqT X.K H a xs ∧ ∀ p H', (∀ A, Stp A H H') → SqT X.K H' p (cutV xs lo hi) → Q (.ref p) H') :=
  SlR.imp sl_tupA fun x lo hi H Q ⟨a, xs, e, h, q⟩ => ⟨a, xs, e, h, slA_of h q⟩
theorem cutV_to {xs : List V} {i : Int} (h : 0 ≤ i) : cutV xs none (some i) = xs.take i.toNat := by
  unfold cutV
  rw [HT.sIx_none, List.drop_zero, Nat.sub_zero]
  show xs.take (if i < 0 then (i + (xs.length : Int)).toNat else min i.toNat xs.length) = _
  rw [if_neg (by omega)]
  by_cases q : i.toNat ≤ xs.length
  · rw [Nat.min_eq_left q]
  · rw [Nat.min_eq_right (by omega), List.take_length, List.take_of_length_le (by omega)]
theorem cutV_from {xs : List V} {i : Int} (h : 0 ≤ i) : cutV xs (some i) none = xs.drop i.toNat := by
  unfold cutV
  rw [HT.sIx_none]
  have e : HT.sIx xs.length 0 (some i) = min i.toNat xs.length := by
    show (if i < 0 then (i + (xs.length : Int)).toNat else min i.toNat xs.length) = _
    rw [if_neg (by omega)]
  rw [e, List.take_of_length_le (by rw [List.length_drop]; exact Nat.le_refl _)]
  by_cases q : i.toNat ≤ xs.length
  · rw [Nat.min_eq_left q]
  · rw [Nat.min_eq_right (by omega), List.drop_length, List.drop_of_length_le (by omega)]
theorem TdAll.new {K : PySem.W.Frag} {A : List Addr} {H : Hp} {vs : List V} {ds : List PyData} {p : Addr} {xs : List V} {es : List PyData} (h : TdAll K A H vs ds) (hp : H p = none) (hx : TdAll K A H xs es) : TdAll K A (upd H p (.tup xs)) (vs ++ [.ref p]) (ds ++ [.tuple es]) :=
  (h.mono (.new hp)).app (.cons (.tup (SqT.of upd_same) (hx.mono (.new hp))) .nil)
theorem TdAll.nw {K : PySem.W.Frag} {A : List Addr} {H H' : Hp} {vs : List V} {ds : List PyData} {p : Addr} {xs : List V} {es : List PyData} (h : TdAll K A H vs ds) (n : Nw H H' p (.tup xs)) (hx : TdAll K A H xs es) : TdAll K A H' (vs ++ [.ref p]) (ds ++ [.tuple es]) :=
  (h.mono (n.s _)).app (.cons (.tup (SqT.of n.a) (hx.mono (n.s _))) .nil)
theorem TdAll.nwL {K : PySem.W.Frag} {A : List Addr} {H H' : Hp} {vs : List V} {ds : List PyData} {p : Addr} {xs : List V} {es : List PyData} (h : TdAll K A H vs ds) (n : Nw H H' p (.lst xs)) (hx : TdAll K A H xs es) (hA : p ∉ A) : TdAll K A H' (vs ++ [.ref p]) (ds ++ [.list es]) :=
  (h.mono (n.s _)).app (.cons (.lst (SqL.of n.a) hA (hx.mono (n.s _))) .nil)
theorem TdAll.snoc {K : PySem.W.Frag} {A : List Addr} {H : Hp} {vs : List V} {ds : List PyData} {v : V} {d : PyData} (h : TdAll K A H vs ds) (t : Td K A H v d) : TdAll K A H (vs ++ [v]) (ds ++ [d]) := h.app (.cons t .nil)
theorem Src.nw {H H' : Hp} {a p : Addr} {o : HO} (s : Src H a) (n : Nw H H' p o) : Src H' a := s.keep (n.s []) (by simp)
theorem Src.st {H H' : Hp} {a : Addr} (s : Src H a) (n : ∀ A, Stp A H H') : Src H' a := s.keep (n []) (by simp)
theorem Src.out {H H' : Hp} {a p : Addr} {o : HO} (s : Src H a) (n : Nw H H' p o) : p ∉ [a] := by simpa using s.ne n.n
theorem nw_out {A B : List Addr} {H H1 H2 : Hp} {p : Addr} {o : HO} (hA : ∀ b ∈ A, H b ≠ none) (s : Stp B H H1) (n : Nw H1 H2 p o) : p ∉ A := fun h => hA p h (s.f p n.n)
theorem take_at {α : Type} : ∀ {l : List α} {i : Nat} {x : α}, l[i]? = some x → l.take (i + 1) = l.take i ++ [x]
  | [], i, x, h => by simp at h
  | a :: l, 0, x, h => by
    have e : a = x := by simpa using h
    rw [e]; rfl
  | a :: l, i + 1, x, h => by
    show a :: l.take (i + 1) = a :: l.take i ++ [x]
    rw [take_at (by simpa using h)]; rfl
theorem atI_int {α : Type} {xs : List α} {i : Int} {v : α} (h0 : 0 ≤ i) (h : xs[i.toNat]? = some v) : atI xs i = some v := by
  have e : i = (i.toNat : Int) := by omega
  rw [e]
  exact atI_nat h
/-! ### data of the written part -/
mutual
/-- the value u of the written part is the data d (tuples, numbers, texts) -/
def kdB (K : PySem.W.Frag) : PyData → Value → Bool
  | .none, .none => true
  | .bool b, .bool c => b == c
  | .int i, .int j _ => decide (i = j)
  | .str x, .str y _ => decide (x = y)
  | .tuple ds, .ref a => (match K.lookup a with
    | some ⟨.type c, _, .seq its _, _⟩ => decide (c = "tuple") && (decide (its.size ≤ sizeLine) && kdsB K ds its.toList)
    | _ => false)
  | _, _ => false
def kdsB (K : PySem.W.Frag) : List PyData → List Value → Bool
  | [], [] => true
  | d :: ds, u :: us => kdB K d u && kdsB K ds us
  | _, _ => false
end
mutual
theorem kdB_ok {K : PySem.W.Frag} : ∀ (d : PyData) (u : Value), kdB K d u = true → ∃ v, RelV v u ∧ ∀ A H, Td K A H v d
  | .none, u, h => by
    cases u with
    | none => exact ⟨.non, rfl, fun _ _ => .non⟩
    | _ => simp [kdB] at h
  | .bool b, u, h => by
    cases u with
    | bool c =>
      have e : b = c := by simpa [kdB] using h
      subst e
      exact ⟨.bl b, rfl, fun _ _ => .bl b⟩
    | _ => simp [kdB] at h
  | .int i, u, h => by
    cases u with
    | int j t =>
      have e : i = j := by simpa [kdB] using h
      subst e
      exact ⟨.int i, ⟨t, rfl⟩, fun _ _ => .int i⟩
    | _ => simp [kdB] at h
  | .str x, u, h => by
    cases u with
    | str y t =>
      have e : x = y := by simpa [kdB] using h
      subst e
      exact ⟨.str x, ⟨t, rfl⟩, fun _ _ => .str x⟩
    | _ => simp [kdB] at h
  | .list ds, u, h => by cases u <;> simp [kdB] at h
  | .dict _, u, h => by cases u <;> simp [kdB] at h
  | .tuple ds, u, h => by
    cases u with
    | ref a =>
      simp only [kdB] at h
      split at h
      · rename_i c od its n sl hk
        simp only [Bool.and_eq_true, decide_eq_true_eq] at h
        obtain ⟨rfl, h2, h3⟩ := h
        obtain ⟨vs, r, t⟩ := kdsB_ok ds its.toList h3
        exact ⟨.ref a, rfl, fun A H => .tup (.inr ⟨_, its, n, hk, rfl, rfl, h2, r⟩) (t A H)⟩
      · cases h
    | _ => simp [kdB] at h
theorem kdsB_ok {K : PySem.W.Frag} : ∀ (ds : List PyData) (us : List Value), kdsB K ds us = true → ∃ vs, Vals vs us ∧ ∀ A H, TdAll K A H vs ds
  | [], us, h => by
    cases us with
    | nil => exact ⟨[], .nil, fun _ _ => .nil⟩
    | cons _ _ => simp [kdsB] at h
  | d :: ds, us, h => by
    cases us with
    | nil => simp [kdsB] at h
    | cons u us =>
      simp only [kdsB, Bool.and_eq_true] at h
      obtain ⟨v, r, t⟩ := kdB_ok d u h.1
      obtain ⟨vs, rs, ts⟩ := kdsB_ok ds us h.2
      exact ⟨v :: vs, .cons r rs, fun A H => .cons (t A H) (ts A H)⟩
end
theorem kd_ref {K : PySem.W.Frag} {a : Addr} {d : PyData} (h : kdB K d (.ref a) = true) : ∀ A H, Td K A H (.ref a) d := by
  obtain ⟨v, r, t⟩ := kdB_ok d _ h
  cases v with
  | ref b =>
    have e : Value.ref a = Value.ref b := r
    injection e with e
    subst e
    exact t
  | int i => obtain ⟨_, z⟩ := r; cases z
  | str i => obtain ⟨_, z⟩ := r; cases z
  | byt i => obtain ⟨_, z⟩ := r; cases z
  | flt i => obtain ⟨_, z⟩ := r; cases z
  | non => cases (show Value.ref a = Value.none from r)
  | bl b => cases (show Value.ref a = Value.bool b from r)
  | ty n => cases (show Value.ref a = Value.type n from r)
/-! ### the head's facts: what the module's names reach, and the interpreter's own table -/
def reach (g : Addr → Option Obj) : Nat → List Addr
  | 0 => [mainGlobals, cStatics]
  | n + 1 => He.growD g (reach g n)
def obsN (n : Nat) (fa : List He.Fa) (fn : List He.DefD) (ex : PySem.W.Frag → Bool) (g : Addr → Option Obj) : He.AlD × Bool := (He.obsD fa fn (He.frG g (reach g n)), ex (He.frG g (reach g n)))
def hookN (n : Nat) (fa : List He.Fa) (fn : List He.DefD) (ex : PySem.W.Frag → Bool) : PySem.W.Hook where
  α := He.AlD × Bool
  obs := fun s => obsN n fa fn ex s.heap.get?
  val := fun _ => (He.valD fn, true)
  says := fun _ h => ∃ K : PySem.W.Frag, K.In h ∧ He.SaysD fa fn K ∧ ex K = true
  of := fun _ _ e => ⟨_, He.frG_in, congrArg Prod.fst e, congrArg Prod.snd e⟩
  keeps := fun _ _ _ ⟨K, hK, c⟩ k => ⟨K, PySem.W.Frag.In.keeps hK k, c⟩
theorem obsN_eq {n : Nat} {fa : List He.Fa} {fn : List He.DefD} {ex : PySem.W.Frag → Bool} {g : Addr → Option Obj} {s : Shared} (h : ∀ a, g a = s.heap.get? a) : obsN n fa fn ex g = (hookN n fa fn ex).obs s := by
  have e : g = s.heap.get? := funext h
  rw [e] <;> rfl
/-! ### the end of a law -/
theorem walk_end {l : PySem.W.OpenLaw} {n k : Nat} {q : Program} {loose : List Str} {XP : (Str → Option Value) → Heap → Prop} {YP : World → Heap → Prop} {d : DefRec} {CX : World → CXT} {x : Str} (hn : l.most = some n) (hn2 : n ≤ sizeLine) (hdf : d.params.defaults = []) (hr : Room k callerA)
    (F : ∀ (w : World) (mg : Str → Option Value) (fa : Addr) (h : Heap), YP w h → h.Ns mainGlobals mg → mg d.name = some (.ref fa) → ∃ (K : PySem.W.Frag) (fd : FuncData) (sp : Sp), K.In h ∧ (∀ (s : Shared) (u : Value), BindsTo s fd ⟨[u], []⟩ [(x, u)]) ∧
      (∀ (H : Hp) (a : Addr) (ns : List Int), ns.length ≤ n → Only H → SqL K H a (ns.map V.int) → sp [.ref a] H (fun v _ => v = .bl true) fun _ _ _ => False) ∧ ∀ base : Heap, K.In base → base.Ns mainGlobals mg → FnOk l.prog w K mg base (CX w) k fa fd [x] sp)
    (hCX : ∀ (w : World) (H : Hp) (s : Shared) (e : Value) (s' : Shared), CX w [] H s (fun _ _ _ => False) e s' → False) : PySem.W.WalkO q loose XP YP l.row.toRowW d [] (fun f vs => PySem.call f vs) := by
  refine Att.attach_call hn hdf fun w _ s1 mg _ fa _ _ _ _ a _ ns G Y _ _ _ hmg hobj hints hlen hg => ?_
  obtain ⟨K, fd, sp, KX, hb, hsp, hF⟩ := F w mg fa _ Y G.T.g hmg
  exact law_call KX G.T.g G.T.b G.T.builtins G.T.nolimit hg hobj hints (Nat.le_trans hlen hn2) hr hF hb (fun H hO hS => hsp H a ns hlen hO hS) fun H e s' => hCX w H s1 e s'
theorem cx_none {P : Program} {w : World} {o : List Env} {H : Hp} {s s' : Shared} {e : Value} (h : L2.CX P w o H s (fun _ _ _ => False) e s') : False := by
  obtain ⟨_, _, _, _, _, _, _, _, _, _, _, _, z⟩ := h
  exact z
end Hd
namespace Hd
/-! ### {e for t in iter}: a set of whole numbers and texts -/
section
open PySem PySem.Spec PyProof.Rows L2 PpSet
variable {X : Cx}
/-- the reading: D the new set, S its members, n how many -/
def tSk (P : Program) (w : World) (wi : TI) (g : TG) (tt : TT) (te : TE) (vs : List Nat) : TE := fun σ H Q => wi σ H fun J H1 => ∀ D, H1 D = none → ∃ W : Nat → Nat → Hp → Prop, (∃ m, W 0 m (upd H1 D (SetK P w D (fun _ => false) 0))) ∧ ∀ i m H, W i m H →
  (J.stop i H ∧ Q (.ref D) H) ∨ (J.go i H ∧ ∃ Nx : Hp → Prop, (∀ H', Nx H' → ∃ m', m' < m ∧ W (i + 1) m' H') ∧ ∀ x H', J.yld i H x H' → g x (wipe σ vs) H' fun σ2 H2 => wipe σ2 vs = wipe σ vs ∧ tt σ2 H2 fun b H3 =>
    if b = true then te σ2 H3 fun y H4 => ∃ (k : Key) (S : Key → Bool) (n : Nat), y = kV k ∧ H4 D = some (SetK P w D S n) ∧ n + 1 < scanBound ∧ Nx (upd H4 D (SetK P w D (fun j => S j || decide (j = k)) (if S k = true then n else n + 1))) else Nx H3)
theorem setK_empty (P : Program) (w : World) (h : Heap) : (h.push { cls := .type "set", dict := none, data := .set #[] 0 (.fresh 0 0 (!w.params.followText "set-order")) }).SetOf (mixKind P w) h.objs.size (fun _ => false) 0 :=
  ⟨_, #[], 0, _, Heap.get?_push_size _ rfl, ⟨rfl, rfl, rfl⟩, rfl, (fun e he => by simp at he), (fun k => by simp), (by decide), (by rfl), rfl⟩
/-- the block's run, from the set just laid -/
theorem sk_run {pins : List (Addr × Obj)} {s2 : Shared} {σ : L2.St} {H2 : Hp} {Q : VK} {elt tg iter : Expr} {ifs : List Expr} {scope : Scope} {own : List (PySem.Str × Nat)} {pos : Pos} {g : TG} {tt : TT} {te : TE} {Qf : Value → Shared → Prop} {J : It} {fp : List Addr} {it : Addr} {tn : Nat → Heap → Prop} {D : Addr} {s3 : Shared}
    (hc : X.calm = true) (hN : X.N.Nodup) (ok : BlkOk X.N X.env.scope scope own) (T : Turn X.prog X.w X.K tg J fp it tn) (H3 : Hp) (I3 : Inv X pins σ H3 s3) (f3 : ∀ b ∈ fp, FpOk X pins H3 b ∧ b < s3.heap.objs.size) (st3 : tn 0 s3.heap)
    (hg : ∀ (s : Shared) (H : Hp) (C : Addr) (cl : List (PySem.Str × Addr)) (fp : List Addr), PG (X.blk s H scope (compEnvC scope cl C X.env) fp) tg g) (ht : ∀ (s : Shared) (H : Hp) (C : Addr) (cl : List (PySem.Str × Addr)) (fp : List Addr), PTs (X.blk s H scope (compEnvC scope cl C X.env) fp) ifs tt)
    (he : ∀ (s : Shared) (H : Hp) (C : Addr) (cl : List (PySem.Str × Addr)) (fp : List Addr), PE (X.blk s H scope (compEnvC scope cl C X.env) fp) elt te)
    (W : Nat → Nat → Hp → Prop) (m0 : Nat) (w0 : W 0 m0 H3) (turn : ∀ i m H, W i m H → (J.stop i H ∧ Q (.ref D) H) ∨ (J.go i H ∧ ∃ Nx : Hp → Prop, (∀ H', Nx H' → ∃ m', m' < m ∧ W (i + 1) m' H') ∧ ∀ x H', J.yld i H x H' → g x (wipe σ (own.map (·.2))) H' fun σ2 H2 =>
      wipe σ2 (own.map (·.2)) = wipe σ (own.map (·.2)) ∧ tt σ2 H2 fun b H3 => if b = true then te σ2 H3 fun y H4 => ∃ (k : Key) (S : Key → Bool) (n : Nat), y = kV k ∧ H4 D = some (SetK X.prog X.w D S n) ∧ n + 1 < scanBound ∧ Nx (upd H4 D (SetK X.prog X.w D (fun j => S j || decide (j = k)) (if S k = true then n else n + 1))) else Nx H3))
    (post : ∀ s' m H', Inv X pins σ H' s' → Q (.ref D) H' → s'.heap.Ns s3.heap.objs.size m → FpOk X pins H' s3.heap.objs.size → compPost (model X.prog X.w) X.A X.xe none Qf (.ref D) s3.heap.objs.size (.ok .next) s') :
    codeAny (model X.prog X.w) X.A (.compStart (.SetComp elt [⟨tg, iter, ifs, 0⟩] scope pos) 0 (.ref it) (.ref D) (compEnvC scope (cellsFrom (s3.heap.objs.size + 1) scope.names (cloFrom X.env.cells scope.names [])) s3.heap.objs.size X.env)) (compPost (model X.prog X.w) X.A X.xe none Qf (.ref D) s3.heap.objs.size)
      { s3 with heap := pushCells (s3.heap.push { cls := .type "dict", data := .dict #[] }) scope.names } := by
  have I4 := block_start I3 ok hN f3
  have pg := hg s3 H3 s3.heap.objs.size (cellsFrom (s3.heap.objs.size + 1) scope.names (cloFrom X.env.cells scope.names [])) fp
  have pt := ht s3 H3 s3.heap.objs.size (cellsFrom (s3.heap.objs.size + 1) scope.names (cloFrom X.env.cells scope.names [])) fp
  have pe := he s3 H3 s3.heap.objs.size (cellsFrom (s3.heap.objs.size + 1) scope.names (cloFrom X.env.cells scope.names [])) fp
  generalize hce : compEnvC scope (cellsFrom (s3.heap.objs.size + 1) scope.names (cloFrom X.env.cells scope.names [])) s3.heap.objs.size X.env = ce at I4 pg pt pe ⊢
  have locs : ce.locals = s3.heap.objs.size := by subst hce; rfl
  generalize hs4 : ({ s3 with heap := pushCells (s3.heap.push { cls := .type "dict", data := .dict #[] }) scope.names } : Shared) = s4 at I4 ⊢
  have st4 : tn 0 s4.heap := T.keep _ _ _ st3 fun b _ o e => by rw [← hs4]; exact pushCells_keeps _ _ _ _ (Heap.get?_push_of_some _ e)
  have walk : ∀ {σ' : L2.St} {H' : Hp} {s' : Shared}, Inv (X.blk s3 H3 scope ce fp) [] σ' H' s' → (∀ b ∈ fp, H' b = none) → ∀ b ∈ fp, FpOk (X.blk s3 H3 scope ce fp) [] H' b := fun {σ' H' s'} I' hn b hb =>
    ⟨hn b hb, (I'.ok.exf b hb).1, I'.ok.exfs b hb, .inl hb, fun x c e => (I'.ok.exf b hb).2 x c e, fun p hp => absurd (show p ∈ ([] : List (Addr × Obj)) ++ [] from hp) (by simp)⟩
  have loop : codeAny (model X.prog X.w) X.A (.compLoop (.SetComp elt [⟨tg, iter, ifs, 0⟩] scope pos) 0 (.ref it) (.ref D) ce) (compPost (model X.prog X.w) X.A X.xe none Qf (.ref D) s3.heap.objs.size) s4 := by
    refine compLoopS_any (fun n s' => ∃ i H', Inv (X.blk s3 H3 scope ce fp) [] (wipe σ (own.map (·.2))) H' s' ∧ tn i s'.heap ∧ (∀ b ∈ fp, H' b = none) ∧ W i n H') ?_ m0 ⟨0, H3, I4, st4, fun b hb => (f3 b hb).1.1, w0⟩
    rintro n s5 ⟨i, H5, I5, st5, n5, w5⟩
    rcases turn i n H5 w5 with ⟨stop, qq⟩ | ⟨go, Nx, hNx, step⟩
    · refine thnF (T.done (X.blk s3 H3 scope ce fp) rfl rfl rfl hc i [] s5 _ H5 (fun _ _ => False) I5 (walk I5 n5) st5 stop) fun r s6 ⟨hr, I6⟩ => ?_
      subst hr
      have I7 : Inv X pins σ H5 s6 := I3.call' (ch := fp) I6.os I6.base I6.hok I6.bare fun b hb => ⟨(f3 b hb).1.2.2.2.1, (f3 b hb).1.2.1, (f3 b hb).1.2.2.2.2.1, (f3 b hb).1.2.2.2.2.2⟩
      have nC : H5 s3.heap.objs.size = none := by
        have z : H5 ce.locals = none := I6.free
        rwa [locs] at z
      obtain ⟨m, hn, _⟩ := I6.loc
      have hn : s6.heap.Ns ce.locals m := hn
      rw [locs] at hn
      exact post s6 m H5 I7 qq hn (I3.fpOk (Nat.le_refl _) nC)
    · refine thnF (T.item (X.blk s3 H3 scope ce fp) rfl rfl rfl hc i [] s5 _ H5 (fun _ _ => False) I5 (walk I5 n5) st5 go) fun r s6 ⟨u, hr, h6⟩ => ?_
      subst hr
      refine thnF h6 fun _ s7 ⟨x, H7, I7, r7, y7, st7, n7⟩ => ?_
      have I7' := I7.pinned (walk I7 n7) (T.obj _ _ st7)
      refine thnF (pg.run _ s7 _ H7 x u _ I7' r7 (step x H7 y7)) fun _ s8 ⟨σ8, H8, I8, hw8, q8⟩ => ?_
      refine thnF (pt.run _ s8 σ8 H8 _ I8 q8) fun b s9 ⟨H9, I9, q9⟩ => ?_
      have fin : ∀ {s' : Shared} {H' : Hp}, Inv (X.blk s3 H3 scope ce fp) ([] ++ pinsAt fp s7.heap) σ8 H' s' → Nx H' → ∃ m, m < n ∧ ∃ i H', Inv (X.blk s3 H3 scope ce fp) [] (wipe σ (own.map (·.2))) H' s' ∧ tn i s'.heap ∧ (∀ b ∈ fp, H' b = none) ∧ W i m H' := fun {s' H'} I' nx => by
        obtain ⟨m', hm, w'⟩ := hNx H' nx
        have pin' : ∀ b ∈ fp, ∀ o, s7.heap.get? b = some o → s'.heap.get? b = some o ∧ H' b = none := fun b hb o e =>
          let z := I'.pin (b, o) (List.mem_append_right _ (List.mem_append_right _ (mem_pinsAt hb e)))
          ⟨z.1, z.2.1⟩
        refine ⟨m', hm, i + 1, H', (I'.unpinned (pins := [])).weak (by rw [← hw8, wipe_length]) (fun j v e => ?_), T.keep _ _ _ st7 fun b hb o e => (pin' b hb o e).1, fun b hb => ?_, w'⟩
        · rw [← hw8] at e
          exact (wipe_some e).1
        · obtain ⟨o, e, _⟩ := T.obj _ _ st7 b hb
          exact (pin' b hb o e).2
      cases b with
      | false =>
        simp only [Bool.false_eq_true, if_false] at q9 ⊢
        exact fin I9 q9
      | true =>
        simp only [if_true] at q9 ⊢
        refine thnF (pe.run _ s9 σ8 H9 _ I9 q9) fun z s10 ⟨yv, H10, I10, r10, k, S0, n0, ey, hD10, hz10, nx⟩ => ?_
        subst ey
        have add := mt_saddK (X := X.blk s3 H3 scope ce fp) _ s10 σ8 H10 (.ref D) [kV k] (.ref D) [z] (fun _ H' => Nx H') I10 rfl (.cons r10 .nil) ⟨D, k, S0, n0, rfl, rfl, hD10, hz10, nx⟩
        exact thnF add fun _ s11 ⟨_, H11, I11, _, nx11⟩ => fin I11 nx11
  exact codeAny_compStart_set loop (T.self X.A 0 _ _ _ st4 loop)
theorem pe_sk {elt tg iter : Expr} {ifs : List Expr} {scope : Scope} {own : List (PySem.Str × Nat)} {pos : Pos} {wi : TI} {g : TG} {tt : TT} {te : TE} (hc : X.calm = true) (hN : X.N.Nodup) (hi : PI X tg iter wi) (ok : BlkOk X.N X.env.scope scope own)
    (hg : ∀ (s : Shared) (H : Hp) (C : Addr) (cl : List (PySem.Str × Addr)) (fp : List Addr), PG (X.blk s H scope (compEnvC scope cl C X.env) fp) tg g) (ht : ∀ (s : Shared) (H : Hp) (C : Addr) (cl : List (PySem.Str × Addr)) (fp : List Addr), PTs (X.blk s H scope (compEnvC scope cl C X.env) fp) ifs tt)
    (he : ∀ (s : Shared) (H : Hp) (C : Addr) (cl : List (PySem.Str × Addr)) (fp : List Addr), PE (X.blk s H scope (compEnvC scope cl C X.env) fp) elt te) (hs : ∀ x, foldedSetIterable iter X.env x = pure x := by intro _; rfl) :
    PE X (.SetComp elt [⟨tg, iter, ifs, 0⟩] scope pos) (tSk X.prog X.w wi g tt te (own.map (·.2))) := by
  refine ⟨fun pins s σ H Q I h => ?_⟩
  rw [eval_SetComp]
  have caps : ∀ y ∈ scope.names, y.2 = .free → ∃ c, X.env.cells.lookup y.1 = some c := fun y hy e => (ok.free y hy e).elim (fun k => I.ok.has _ (.inl k)) fun k => I.ok.has _ (.inr k)
  refine wpAny_comprehension_free (use := none) rfl hs (closure_ok caps) ok.kind (fun y hy e => by rw [ok.uniq y hy, e]) (thn (hi.run pins s σ H _ I h) fun xv s1 hx => thn hx fun itv s2 ⟨it, fp, tn, J, H2, e, I2, T, st2, f2, q⟩ => ?_)
  subst e
  refine newSet_ok (newEnv_comp ?_)
  have hDn : H2 s2.heap.objs.size = none := I2.hok.fresh (Nat.le_refl _)
  obtain ⟨W, ⟨m0, w0⟩, turn⟩ := q s2.heap.objs.size hDn
  have I3 := I2.laid (t' := s2.toks) (a := s2.heap.objs.size) (o := SetK X.prog X.w s2.heap.objs.size (fun _ => false) 0) (fun b o e => Heap.get?_push_of_some _ e) (Nat.le_refl _) (setK_new (setK_empty X.prog X.w s2.heap))
  refine sk_run (s2 := s2) (H2 := H2) (D := s2.heap.objs.size) (Q := Q) hc hN ok T _ I3 (fun b hb => ?_) (T.keep _ _ _ st2 fun b _ o e => Heap.get?_push_of_some _ e) hg ht he W m0 w0 turn fun s' m H' I' qq hn f => ⟨m, hn, fun h'' sb => ?_⟩
  · obtain ⟨o, e, _⟩ := T.obj _ _ st2 b hb
    have lt := Heap.lt_size e
    refine ⟨⟨?_, (f2 b hb).2⟩, by show b < (s2.heap.push _).objs.size; rw [Heap.size_push]; exact Nat.lt_succ_of_lt lt⟩
    rw [upd_ne (Nat.ne_of_lt lt)]
    exact (f2 b hb).1
  · obtain ⟨f0, f1, f2, f3, f4, f5⟩ := f
    exact ⟨.ref s2.heap.objs.size, H', I'.turned (t' := s'.toks) (fun b o hb e => (sb.2 b hb).trans e) f0 f1 f3 f4 f5, rfl, qq⟩
end
end Hd
namespace Hd
/-! ### methods of own instances; len, str of them; len of a set -/
section
open PySem PySem.Spec PyProof.Rows L2
variable {X : Cx} {k n : Nat} {f C : Addr} {ps ks : List Str} {sp : Sp} {E : L2.St → XK} {m : Str} {pos apos : Pos} {e o : Expr} {es : List Expr} {kws : List Keyword} {ta : TE} {t tk : TA} {gV : List V → List V → List V}
def tMetS (C : Addr) (m : Str) (sp : Sp) (E : L2.St → XK) (ta : TE) (t : TA) : TE := fun σ H Q => ta σ H fun x H1 => ∃ a dx fs, x = .ref a ∧ H1 a = some (.ins C dx fs) ∧ fs.lookup m = none ∧ t σ H1 fun vs H2 => sp (.ref a :: vs) H2 Q (E σ)
def tMetKS (C : Addr) (m : Str) (n j : Nat) (sp : Sp) (gV : List V → List V → List V) (E : L2.St → XK) (ta : TE) (t tk : TA) : TE := fun σ H Q => ta σ H fun x H1 => ∃ a dx fs, x = .ref a ∧ H1 a = some (.ins C dx fs) ∧ fs.lookup m = none ∧ t σ H1 fun vs H2 => tk σ H2 fun zs H3 => vs.length + 1 = n ∧ zs.length = j ∧ sp (gV (.ref a :: vs) zs) H3 Q (E σ)
theorem pe_met {pl : Sem Bool} (he : PE X o ta) (c : Cls X.K C) (hm : Meth X.K C m f) (F : Cal X.prog X.w X.K X.mg X.base k f ps sp) (hr : Room k X.A) (hx : ∀ σ, PassesAt (L2.CX X.prog X.w) X σ (E σ)) (ha : PA X (e :: es) t)
    (hst : starEach (e :: es) X.env = (false, eval e X.env) :: starEach es X.env := by rfl) (hpl : (backTo pos (starEach es X.env)).any (·.1) = false := by rfl)
    (ht : eval (.Call (.Attribute o m apos) (e :: es) [] pos) X.env = (do
      let ov ← eval o X.env
      standAt apos.atName
      let (f, first) ← holding [ov] (getMethod ov m pl)
      callWith pos f first (backTo pos (starEach (e :: es) X.env)) (backToKw pos (keywordEach [] X.env))) := by rfl) :
    PE X (.Call (.Attribute o m apos) (e :: es) [] pos) (tMetS C m sp E ta t) := by
  obtain ⟨fd, F, b⟩ := F.ex
  refine ⟨fun pins s σ H Q I h => ?_⟩
  refine PySem.W.methodCall_KW (pl := pl) (thn (he.run pins s σ H _ I h) fun u s1 ⟨x, H1, I1, rx, a, dx, fs, ex, ea, l, q⟩ => ?_) ht
  subst ex
  obtain rfl : u = Value.ref a := rx
  refine getmeth_ok I1 ea c hm l ?_
  refine PySem.W.callWith_K (first := [.ref a]) (h₀ := X.base) I.ok.mod.kin hm.kp (thn (ha.run pos pins s1 σ H1 _ I1 q) fun us s2 ⟨vs, H2, I2, r, q2⟩ => ⟨I2.kIn, ?_⟩) hst hpl
  exact run_fnS (us := .ref a :: us) (vs := .ref a :: vs) F hr b (hx σ) I2 (.cons rfl r) q2
theorem pe_met0 {pl : Sem Bool} (he : PE X o ta) (c : Cls X.K C) (hm : Meth X.K C m f) (F : Cal X.prog X.w X.K X.mg X.base k f ps sp) (hr : Room k X.A) (hx : ∀ σ, PassesAt (L2.CX X.prog X.w) X σ (E σ))
    (ht : eval (.Call (.Attribute o m apos) [] [] pos) X.env = (do
      let ov ← eval o X.env
      standAt apos.atName
      let (f, first) ← holding [ov] (getMethod ov m pl)
      callWith pos f first (backTo pos (starEach [] X.env)) (backToKw pos (keywordEach [] X.env))) := by rfl) :
    PE X (.Call (.Attribute o m apos) [] [] pos) (tMetS C m sp E ta tNil) := by
  obtain ⟨fd, F, b⟩ := F.ex
  refine ⟨fun pins s σ H Q I h => ?_⟩
  refine PySem.W.methodCall_KW (pl := pl) (thn (he.run pins s σ H _ I h) fun u s1 ⟨x, H1, I1, rx, a, dx, fs, ex, ea, l, q⟩ => ?_) ht
  subst ex
  obtain rfl : u = Value.ref a := rx
  refine getmeth_ok I1 ea c hm l ?_
  exact PySem.W.callWith_K0 (first := [.ref a]) I1.kIn hm.kp (run_fnS (us := [.ref a]) (vs := [.ref a]) F hr b (hx σ) I1 (.cons rfl .nil) q)
theorem pe_metK0 {pl : Sem Bool} (he : PE X o ta) (c : Cls X.K C) (hm : Meth X.K C m f) (F : CalK X.prog X.w X.K X.mg X.base k f ps sp n ks gV) (hr : Room k X.A) (hx : ∀ σ, PassesAt (L2.CX X.prog X.w) X σ (E σ)) (hkw : PK X kws tk)
    (hall : (backToKw pos (keywordEach kws X.env)).all (·.1.isSome) = true := by rfl) (hks : (backToKw pos (keywordEach kws X.env)).filterMap (·.1) = ks := by rfl)
    (hpl : ((backTo pos (starEach [] X.env)).any (·.1) || (backToKw pos (keywordEach kws X.env)).any (·.1.isNone)) = false := by rfl)
    (ht : eval (.Call (.Attribute o m apos) [] kws pos) X.env = (do
      let ov ← eval o X.env
      standAt apos.atName
      let (f, first) ← holding [ov] (getMethod ov m pl)
      callWith pos f first (backTo pos (starEach [] X.env)) (backToKw pos (keywordEach kws X.env))) := by rfl) :
    PE X (.Call (.Attribute o m apos) [] kws pos) (tMetKS C m n ks.length sp gV E ta tNil tk) := by
  obtain ⟨fd, g, F, b⟩ := F.ex
  refine ⟨fun pins s σ H Q I h => ?_⟩
  refine PySem.W.methodCall_KW (pl := pl) (thn (he.run pins s σ H _ I h) fun u s1 ⟨x, H1, I1, rx, a, dx, fs, ex, ea, l, q⟩ => ?_) ht
  subst ex
  obtain rfl : u = Value.ref a := rx
  refine getmeth_ok I1 ea c hm l ?_
  refine PySem.W.callWith_KW0 (first := [.ref a]) (h₀ := X.base) I.ok.mod.kin hm.kp hall ?_ hpl
  refine thn (hkw.run pos pins s1 σ H1 _ I1 q) fun ws s2 ⟨zs, H2, I2, rz, l1, l2, q2⟩ => ⟨I2.kIn, ?_⟩
  rw [hks]
  exact run_calK (us := [.ref a]) (vs := [.ref a]) F hr b (hx σ) I2 (.cons rfl .nil) rz l1 l2 q2
theorem pe_metK {pl : Sem Bool} (he : PE X o ta) (c : Cls X.K C) (hm : Meth X.K C m f) (F : CalK X.prog X.w X.K X.mg X.base k f ps sp n ks gV) (hr : Room k X.A) (hx : ∀ σ, PassesAt (L2.CX X.prog X.w) X σ (E σ)) (ha : PA X (e :: es) t) (hkw : PK X kws tk)
    (hall : (backToKw pos (keywordEach kws X.env)).all (·.1.isSome) = true := by rfl) (hks : (backToKw pos (keywordEach kws X.env)).filterMap (·.1) = ks := by rfl)
    (hst : starEach (e :: es) X.env = (false, eval e X.env) :: starEach es X.env := by rfl)
    (hpl : ((backTo pos (starEach (e :: es) X.env)).any (·.1) || (backToKw pos (keywordEach kws X.env)).any (·.1.isNone)) = false := by rfl)
    (ht : eval (.Call (.Attribute o m apos) (e :: es) kws pos) X.env = (do
      let ov ← eval o X.env
      standAt apos.atName
      let (f, first) ← holding [ov] (getMethod ov m pl)
      callWith pos f first (backTo pos (starEach (e :: es) X.env)) (backToKw pos (keywordEach kws X.env))) := by rfl) :
    PE X (.Call (.Attribute o m apos) (e :: es) kws pos) (tMetKS C m n ks.length sp gV E ta t tk) := by
  obtain ⟨fd, g, F, b⟩ := F.ex
  refine ⟨fun pins s σ H Q I h => ?_⟩
  refine PySem.W.methodCall_KW (pl := pl) (thn (he.run pins s σ H _ I h) fun u s1 ⟨x, H1, I1, rx, a, dx, fs, ex, ea, l, q⟩ => ?_) ht
  subst ex
  obtain rfl : u = Value.ref a := rx
  refine getmeth_ok I1 ea c hm l ?_
  refine PySem.W.callWith_KW (first := [.ref a]) (h₀ := X.base) I.ok.mod.kin hm.kp hall (thn (ha.run pos pins s1 σ H1 _ I1 q) fun us s2 ⟨vs, H2, I2, r, q2⟩ => ?_) hpl hst
  refine thn (hkw.run pos pins s2 σ H2 _ I2 q2) fun ws s3 ⟨zs, H3, I3, rz, l1, l2, q3⟩ => ⟨I3.kIn, ?_⟩
  rw [hks]
  exact run_calK (us := .ref a :: us) (vs := .ref a :: vs) F hr b (hx σ) I3 (.cons rfl r) rz l1 l2 q3
/-- an own function runs somewhere below the running body -/
theorem run_sub {A : Around} {pins : List (Addr × Obj)} {σ : L2.St} {H : Hp} {s : Shared} {Q : VK} {us : List Value} {vs : List V} {fd : FuncData} (F : FnOk X.prog X.w X.K X.mg X.base (L2.CX X.prog X.w) k f fd ps sp) (hb : Binds X.K fd ps []) (hr : Room k A) (hf : A.frames = X.A.frames) (I : Inv X pins σ H s) (r : Vals vs us) (h : sp vs H Q E0) :
    wpAny (model X.prog X.w) A (call (.ref f) us) (EP X pins σ Q) X.xe s := by
  have e0 : Env0 X.prog X.w X.K X.mg X.base A X.stack s H := by
    have e := I.env0
    exact ⟨by rw [hf]; exact e.frames, e.mod, e.bs, e.bsz, e.funs, e.frf, e.hok, e.bare⟩
  have hl : us.length = ps.length := by rw [← r.length]; exact F.len _ _ _ _ h
  refine wpAny_call (codeAny_mono (F.run A X.stack s H ⟨us, []⟩ us vs Q E0 hr e0 (by
    have := hb s us I.kIn (by simpa using hl)
    simpa using this) r h) fun r s' hq => ?_)
  cases r with
  | error e => exact pL σ pins H s e s' I hq
  | ok fl =>
    cases fl with
    | ret w => exact I.after hq
    | next => exact False.elim hq
    | brk => exact False.elim hq
    | cont => exact False.elim hq
/-- len(x), x an own instance -/
theorem call_lenO (hm : Meth X.K C "__len__" f) (F : Cal X.prog X.w X.K X.mg X.base k f ps sp) (hr : Room (k + 1) X.A) :
    CallR X (.builtin "len") (fun xs H Q => ∃ a dx fs, xs = [.ref a] ∧ H a = some (.ins C dx fs) ∧ sp [.ref a] H (fun v H' => ∃ i : Int, v = .int i ∧ 0 ≤ i ∧ i < 2 ^ 63 ∧ Q (.int i) H') E0) := by
  intro pins s σ H xs us Q I r h
  obtain ⟨fd, F, b⟩ := F.ex
  obtain ⟨a, dx, fs, rfl, ha, q⟩ := h
  obtain ⟨u, rfl, rx⟩ := vals1 r
  obtain rfl : u = Value.ref a := rx
  obtain ⟨mA, J, _⟩ := ins_get I.hok ha
  obtain ⟨od, J, _⟩ := J.look
  obtain ⟨m, hF⟩ := I.fr
  refine PySem.W.len_K hF I.ok.mod.kin J hm.at_ hm.fn (wpAny_mono (run_sub (us := [.ref a]) (vs := [.ref a]) F b hr.in1 rfl I (.cons rfl .nil) q) (fun v s' hv => ?_) fun _ _ z => z)
  obtain ⟨y, H', I', ry, i, rfl, h0, h1, q'⟩ := hv
  obtain ⟨tk, rfl⟩ := ry
  exact ⟨⟨h0, h1⟩, .int i, H', I'.tok _, ⟨_, rfl⟩, q'⟩
/-- str(x), x an own instance -/
theorem call_strO (hm : Meth X.K C "__str__" f) (F : Cal X.prog X.w X.K X.mg X.base k f ps sp) (hr : Room (k + 2) X.A) :
    CallR X (.type "str") (fun xs H Q => ∃ a dx fs, xs = [.ref a] ∧ H a = some (.ins C dx fs) ∧ sp [.ref a] H (fun v H' => ∃ z, v = .str z ∧ Q (.str z) H') E0) := by
  intro pins s σ H xs us Q I r h
  obtain ⟨fd, F, b⟩ := F.ex
  obtain ⟨a, dx, fs, rfl, ha, q⟩ := h
  obtain ⟨u, rfl, rx⟩ := vals1 r
  obtain rfl : u = Value.ref a := rx
  obtain ⟨mA, J, _⟩ := ins_get I.hok ha
  obtain ⟨od, J, _⟩ := J.look
  refine PySem.W.kso_call hr.in1.in1.units0 I.kIn J hm.at_ hm.fn (wpAny_mono (run_sub (us := [.ref a]) (vs := [.ref a]) F b hr.in1.in1 rfl I (.cons rfl .nil) q) (fun v s' hv => ?_) fun _ _ z => z)
  obtain ⟨y, H', I', ry, z, rfl, q'⟩ := hv
  obtain ⟨tk, rfl⟩ := ry
  exact ⟨.str z, H', I', ⟨_, rfl⟩, q'⟩
/-- len of a set of whole numbers and texts -/
theorem call_lenSk : CallR X (.builtin "len") (fun xs H Q => ∃ (a : Addr) (S : Key → Bool) (n : Nat), xs = [.ref a] ∧ H a = some (SetK X.prog X.w a S n) ∧ Q (.int n) H) := by
  intro pins s σ H xs us Q I r h
  obtain ⟨a, S, n, rfl, ha, q⟩ := h
  obtain ⟨u, rfl, rx⟩ := vals1 r
  obtain rfl : u = Value.ref a := rx
  obtain ⟨o, es, ep, t, ho, hex, hd, _, _, hsz, hf, rfl⟩ := setK_get I ha
  have hb : scanBound ≤ 2 ^ 62 := by decide
  exact call_len_set ho hex hd hf (by omega) ⟨.int es.size, H, (I.tok _).tok _, ⟨_, rfl⟩, q⟩
/-- x == y by an own __eq__ -/
theorem op_eqO (hm : Meth X.K C "__eq__" f) (F : Cal X.prog X.w X.K X.mg X.base k f ps sp) (hr : Room k X.A) :
    OpR X (compareOp .Eq) (fun x y H Q => ∃ a b dx fs dy gs, x = .ref a ∧ y = .ref b ∧ H a = some (.ins C dx fs) ∧ H b = some (.ins C dy gs) ∧ sp [x, y] H (fun v H' => ∃ r, v = .bl r ∧ Q (.bl r) H') E0) := by
  intro pins s σ H x y u v Q I rx ry h
  obtain ⟨fd, F, b⟩ := F.ex
  obtain ⟨a, b', dx, fs, dy, gs, rfl, rfl, ha, hb, q⟩ := h
  cases rx
  cases ry
  obtain ⟨mA, J, _⟩ := ins_get I.hok ha
  obtain ⟨mB, J', _⟩ := ins_get I.hok hb
  obtain ⟨od, J, _⟩ := J.look
  obtain ⟨od', J', _⟩ := J'.look
  obtain ⟨m, hF⟩ := I.fr
  show wpAny (model X.prog X.w) X.A (richCompare .Eq _ _) (EP X pins σ Q) X.xe s
  refine PySem.W.cmp_K (op := .Eq) (tb := .ref C) hr.units0 hF I.ok.mod.kin J J'.type (by simp [PySem.W.notFirst]) hm.at_ hm.fn ?_
  refine wpAny_mono (run_sub (us := [.ref a, .ref b']) (vs := [.ref a, .ref b']) F b hr rfl I (.cons rfl (.cons rfl .nil)) q) (fun v s' hv => ?_) fun _ _ z => z
  obtain ⟨y, H', I', ry, r, rfl, q'⟩ := hv
  cases ry
  exact ⟨.bl r, H', I', rfl, q'⟩
theorem lk_hit {f : Str} {v : V} {fs : List (Str × V)} : ((f, v) :: fs).lookup f = some v := by simp [List.lookup]
theorem lk_skip {k f : Str} {v : V} {fs : List (Str × V)} (h : (k == f) = false) : ((f, v) :: fs).lookup k = fs.lookup k := by simp [List.lookup, h]
end
end Hd
namespace Hd
/-! ### comprehensions whose parts name the block's own context -/
section
open PySem PySem.Spec PyProof.Rows L2
variable {X : Cx}
abbrev BG (T : Type) := Shared → Hp → Addr → List (PySem.Str × Addr) → List Addr → T
abbrev b0 {T : Type} (X : Cx) (f : BG T) : T := f X.s_0 (fun _ => none) 0 [] []
theorem pe_lcD {elt tg iter : Expr} {ifs : List Expr} {scope : Scope} {own : List (PySem.Str × Nat)} {pos : Pos} {wi : TI} {g : BG TG} {tt : BG TT} {te : BG TE} (hc : X.calm = true) (hN : X.N.Nodup) (hi : PI X tg iter wi) (ok : BlkOk X.N X.env.scope scope own)
    (hg : ∀ (s : Shared) (H : Hp) (C : Addr) (cl : List (PySem.Str × Addr)) (fp : List Addr), PG (X.blk s H scope (compEnvC scope cl C X.env) fp) tg (g s H C cl fp)) (ht : ∀ (s : Shared) (H : Hp) (C : Addr) (cl : List (PySem.Str × Addr)) (fp : List Addr), PTs (X.blk s H scope (compEnvC scope cl C X.env) fp) ifs (tt s H C cl fp))
    (he : ∀ (s : Shared) (H : Hp) (C : Addr) (cl : List (PySem.Str × Addr)) (fp : List Addr), PE (X.blk s H scope (compEnvC scope cl C X.env) fp) elt (te s H C cl fp)) (hs : ∀ x, foldedSetIterable iter X.env x = pure x := by intro _; rfl)
    (eg : ∀ s H C cl fp, g s H C cl fp = b0 X g := by intros; rfl) (et : ∀ s H C cl fp, tt s H C cl fp = b0 X tt := by intros; rfl) (ee : ∀ s H C cl fp, te s H C cl fp = b0 X te := by intros; rfl) :
    PE X (.ListComp elt [⟨tg, iter, ifs, 0⟩] scope pos) (tLc wi (b0 X g) (b0 X tt) (b0 X te) (own.map (·.2))) :=
  pe_lc hc hN hi ok (fun s H C cl fp => by rw [← eg s H C cl fp]; exact hg s H C cl fp) (fun s H C cl fp => by rw [← et s H C cl fp]; exact ht s H C cl fp) (fun s H C cl fp => by rw [← ee s H C cl fp]; exact he s H C cl fp) hs
theorem ps_setLcD {i : Nat} {y : PySem.Str} {py : Pos} {elt tg iter : Expr} {ifs : List Expr} {scope : Scope} {own : List (PySem.Str × Nat)} {pos spos : Pos} {wi : TI} {g : BG TG} {tt : BG TT} {te : BG TE} (hc : X.calm = true) (hN : X.N.Nodup) (hy : X.N[i]? = some y) (hyl : X.env.scope.names.lookup y = some .local)
    (hsw : swapsWith (.ListComp elt [⟨tg, iter, ifs, 0⟩] scope pos) (some (.Name y py)) spos.line X.env = pure true) (hi : PI X tg iter wi) (ok : BlkOk X.N X.env.scope scope own)
    (hg : ∀ (s : Shared) (H : Hp) (C : Addr) (cl : List (PySem.Str × Addr)) (fp : List Addr), PG (X.blk s H scope (compEnvC scope cl C X.env) fp) tg (g s H C cl fp)) (ht : ∀ (s : Shared) (H : Hp) (C : Addr) (cl : List (PySem.Str × Addr)) (fp : List Addr), PTs (X.blk s H scope (compEnvC scope cl C X.env) fp) ifs (tt s H C cl fp))
    (he : ∀ (s : Shared) (H : Hp) (C : Addr) (cl : List (PySem.Str × Addr)) (fp : List Addr), PE (X.blk s H scope (compEnvC scope cl C X.env) fp) elt (te s H C cl fp)) (hs : ∀ x, foldedSetIterable iter X.env x = pure x := by intro _; rfl)
    (eg : ∀ s H C cl fp, g s H C cl fp = b0 X g := by intros; rfl) (et : ∀ s H C cl fp, tt s H C cl fp = b0 X tt := by intros; rfl) (ee : ∀ s H C cl fp, te s H C cl fp = b0 X te := by intros; rfl) :
    PS X (.Assign [.Name y py] (.ListComp elt [⟨tg, iter, ifs, 0⟩] scope pos) spos) (tAsg (tLc wi (b0 X g) (b0 X tt) (b0 X te) (own.map (·.2))) (gName i)) :=
  ps_setLc hc hN hy hyl hsw hi ok (fun s H C cl fp => by rw [← eg s H C cl fp]; exact hg s H C cl fp) (fun s H C cl fp => by rw [← et s H C cl fp]; exact ht s H C cl fp) (fun s H C cl fp => by rw [← ee s H C cl fp]; exact he s H C cl fp) hs
theorem pe_skD {elt tg iter : Expr} {ifs : List Expr} {scope : Scope} {own : List (PySem.Str × Nat)} {pos : Pos} {wi : TI} {g : BG TG} {tt : BG TT} {te : BG TE} (hc : X.calm = true) (hN : X.N.Nodup) (hi : PI X tg iter wi) (ok : BlkOk X.N X.env.scope scope own)
    (hg : ∀ (s : Shared) (H : Hp) (C : Addr) (cl : List (PySem.Str × Addr)) (fp : List Addr), PG (X.blk s H scope (compEnvC scope cl C X.env) fp) tg (g s H C cl fp)) (ht : ∀ (s : Shared) (H : Hp) (C : Addr) (cl : List (PySem.Str × Addr)) (fp : List Addr), PTs (X.blk s H scope (compEnvC scope cl C X.env) fp) ifs (tt s H C cl fp))
    (he : ∀ (s : Shared) (H : Hp) (C : Addr) (cl : List (PySem.Str × Addr)) (fp : List Addr), PE (X.blk s H scope (compEnvC scope cl C X.env) fp) elt (te s H C cl fp)) (hs : ∀ x, foldedSetIterable iter X.env x = pure x := by intro _; rfl)
    (eg : ∀ s H C cl fp, g s H C cl fp = b0 X g := by intros; rfl) (et : ∀ s H C cl fp, tt s H C cl fp = b0 X tt := by intros; rfl) (ee : ∀ s H C cl fp, te s H C cl fp = b0 X te := by intros; rfl) :
    PE X (.SetComp elt [⟨tg, iter, ifs, 0⟩] scope pos) (tSk X.prog X.w wi (b0 X g) (b0 X tt) (b0 X te) (own.map (·.2))) :=
  pe_sk hc hN hi ok (fun s H C cl fp => by rw [← eg s H C cl fp]; exact hg s H C cl fp) (fun s H C cl fp => by rw [← et s H C cl fp]; exact ht s H C cl fp) (fun s H C cl fp => by rw [← ee s H C cl fp]; exact he s H C cl fp) hs
end
end Hd
namespace Hd
/-! ### comprehensions: what is made so far is a list of values; all but A is kept -/
section
open PySem PySem.Spec PyProof.Rows L2
variable {K : PySem.W.Frag} {g : TG} {tt : TT} {te : TE} {vs : List Nat} {σ : L2.St} {H1 : Hp} {D : Addr}
theorem not_mem_of_new {H : Hp} {A : List Addr} {D : Addr} (hD : H D = none) (hA : ∀ b ∈ A, H b ≠ none) : D ∉ A := fun h => hA D h hD
/-- what a turn may say at its end: y is the next one -/
def Pushes (A : List Addr) (H1 : Hp) (D : Addr) (H : Hp) (P : V → Hp → Prop) (Nx : Hp → Prop) : Prop := ∀ y H4, Stp A H H4 → (∀ H', Stp [D] H4 H' → Stp A H1 H' → P y H') → ∃ acc, H4 D = some (.lst acc) ∧ acc.length < sizeLine ∧ Nx (upd H4 D (.lst (acc ++ [y])))
/-- .. or that there is none -/
def Skips (A : List Addr) (H : Hp) (P : Hp → Prop) (Nx : Hp → Prop) : Prop := ∀ H3, Stp A H H3 → P H3 → Nx H3
theorem lcJ {J : It} {Qd : Hp → Prop} {n : Nat} (it : Nat → V → Prop) (A : List Addr) (hD : H1 D = none) (hA : ∀ b ∈ A, H1 b ≠ none) (hz : n ≤ sizeLine) (Pv : Nat → List V → Hp → Prop) (h0 : ∀ H', Nw H1 H' D (.lst []) → Pv 0 [] H')
    (hgo : ∀ i acc H, i < n → Pv i acc H → Stp A H1 H → J.go i H) (hy : ∀ i acc H x H', i < n → Pv i acc H → Stp A H1 H → J.yld i H x H' → H' = H ∧ it i x) (hst : ∀ acc H, Pv n acc H → Stp A H1 H → J.stop n H)
    (hs : ∀ i x acc H Nx, i < n → it i x → Pv i acc H → Stp A H1 H → H D = some (.lst acc) → Pushes A H1 D H (fun y => Pv (i + 1) (acc ++ [y])) Nx → Skips A H (Pv (i + 1) acc) Nx → g x (wipe σ vs) H fun σ2 H2 => wipe σ2 vs = wipe σ vs ∧ tt σ2 H2 fun b H3 =>
      if b = true then te σ2 H3 fun y H4 => ∃ acc, H4 D = some (.lst acc) ∧ acc.length < sizeLine ∧ Nx (upd H4 D (.lst (acc ++ [y]))) else Nx H3) (hd : ∀ acc H, Pv n acc H → Stp A H1 H → H D = some (.lst acc) → Qd H) :
    ∃ W : Nat → Nat → Hp → Prop, (∃ m, W 0 m (upd H1 D (.lst []))) ∧ ∀ i m H, W i m H →
      (J.stop i H ∧ Qd H) ∨ (J.go i H ∧ ∃ Nx : Hp → Prop, (∀ H', Nx H' → ∃ m', m' < m ∧ W (i + 1) m' H') ∧ ∀ x H', J.yld i H x H' → g x (wipe σ vs) H' fun σ2 H2 => wipe σ2 vs = wipe σ vs ∧ tt σ2 H2 fun b H3 =>
        if b = true then te σ2 H3 fun y H4 => ∃ acc, H4 D = some (.lst acc) ∧ acc.length < sizeLine ∧ Nx (upd H4 D (.lst (acc ++ [y]))) else Nx H3) := by
  have nD := not_mem_of_new hD hA
  refine ⟨fun i m H => m = n - i ∧ i ≤ n ∧ ∃ acc, acc.length ≤ i ∧ H D = some (.lst acc) ∧ Stp A H1 H ∧ Pv i acc H, ⟨n, by simp, Nat.zero_le _, [], Nat.le_refl _, upd_same, .new hD, h0 _ (.mk' hD)⟩, ?_⟩
  rintro i m H ⟨rfl, hi, acc, hl, hH, st, p⟩
  by_cases hlt : i < n
  · refine .inr ⟨hgo i acc H hlt p st, fun H' => ∃ acc, acc.length ≤ i + 1 ∧ H' D = some (.lst acc) ∧ Stp A H1 H' ∧ Pv (i + 1) acc H', fun H' p' => ⟨n - (i + 1), by omega, rfl, hlt, p'⟩, fun x H' y => ?_⟩
    obtain ⟨rfl, ix⟩ := hy i acc H x H' hlt p st y
    refine hs i x acc _ _ hlt ix p st hH (fun y H4 s4 q4 => ?_) fun H3 s3 q3 => ⟨acc, by omega, s3.k _ _ nD hH, st.trans s3, q3⟩
    have hD4 := s4.k _ _ nD hH
    exact ⟨acc, hD4, by omega, acc ++ [y], by simp; omega, upd_same, (st.trans s4).putNew hD4 hD, q4 _ (.put hD4) ((st.trans s4).putNew hD4 hD)⟩
  · have e : i = n := by omega
    subst e
    exact .inl ⟨hst acc H p st, hd acc H p st hH⟩
/-- over a list -/
theorem lcL {a : Addr} {xs : List V} {Qd : Hp → Prop} (A : List Addr) (hD : H1 D = none) (hA : ∀ b ∈ A, H1 b ≠ none) (hz : xs.length ≤ sizeLine) (Pv : Nat → List V → Hp → Prop) (h0 : ∀ H', Nw H1 H' D (.lst []) → Pv 0 [] H')
    (hl : ∀ i acc H, Pv i acc H → Stp A H1 H → SqL K H a xs)
    (hs : ∀ i x acc H Nx, xs[i]? = some x → Pv i acc H → Stp A H1 H → H D = some (.lst acc) → Pushes A H1 D H (fun y => Pv (i + 1) (acc ++ [y])) Nx → Skips A H (Pv (i + 1) acc) Nx → g x (wipe σ vs) H fun σ2 H2 => wipe σ2 vs = wipe σ vs ∧ tt σ2 H2 fun b H3 =>
      if b = true then te σ2 H3 fun y H4 => ∃ acc, H4 D = some (.lst acc) ∧ acc.length < sizeLine ∧ Nx (upd H4 D (.lst (acc ++ [y]))) else Nx H3) (hd : ∀ acc H, Pv xs.length acc H → Stp A H1 H → H D = some (.lst acc) → Qd H) :
    ∃ W : Nat → Nat → Hp → Prop, (∃ m, W 0 m (upd H1 D (.lst []))) ∧ ∀ i m H, W i m H →
      ((Itl K a).stop i H ∧ Qd H) ∨ ((Itl K a).go i H ∧ ∃ Nx : Hp → Prop, (∀ H', Nx H' → ∃ m', m' < m ∧ W (i + 1) m' H') ∧ ∀ x H', (Itl K a).yld i H x H' → g x (wipe σ vs) H' fun σ2 H2 => wipe σ2 vs = wipe σ vs ∧ tt σ2 H2 fun b H3 =>
        if b = true then te σ2 H3 fun y H4 => ∃ acc, H4 D = some (.lst acc) ∧ acc.length < sizeLine ∧ Nx (upd H4 D (.lst (acc ++ [y]))) else Nx H3) :=
  lcJ (n := xs.length) (fun i x => xs[i]? = some x) A hD hA hz Pv h0 (fun i acc H hi p st => ⟨xs, xs[i], hl i acc H p st, by simp [hi]⟩) (fun i acc H x H' _ p st y => ⟨y.1, y.2 xs (hl i acc H p st)⟩) (fun acc H p st => ⟨xs, hl _ acc H p st, Nat.le_refl _⟩)
    (fun i x acc H Nx _ ix => hs i x acc H Nx ix) hd
/-- over a tuple -/
theorem lcT {a : Addr} {xs : List V} {Qd : Hp → Prop} (A : List Addr) (hD : H1 D = none) (hA : ∀ b ∈ A, H1 b ≠ none) (hz : xs.length ≤ sizeLine) (Pv : Nat → List V → Hp → Prop) (h0 : ∀ H', Nw H1 H' D (.lst []) → Pv 0 [] H')
    (hl : SqT K H1 a xs)
    (hs : ∀ i x acc H Nx, xs[i]? = some x → Pv i acc H → Stp A H1 H → H D = some (.lst acc) → Pushes A H1 D H (fun y => Pv (i + 1) (acc ++ [y])) Nx → Skips A H (Pv (i + 1) acc) Nx → g x (wipe σ vs) H fun σ2 H2 => wipe σ2 vs = wipe σ vs ∧ tt σ2 H2 fun b H3 =>
      if b = true then te σ2 H3 fun y H4 => ∃ acc, H4 D = some (.lst acc) ∧ acc.length < sizeLine ∧ Nx (upd H4 D (.lst (acc ++ [y]))) else Nx H3) (hd : ∀ acc H, Pv xs.length acc H → Stp A H1 H → H D = some (.lst acc) → Qd H) :
    ∃ W : Nat → Nat → Hp → Prop, (∃ m, W 0 m (upd H1 D (.lst []))) ∧ ∀ i m H, W i m H →
      ((Itt K a).stop i H ∧ Qd H) ∨ ((Itt K a).go i H ∧ ∃ Nx : Hp → Prop, (∀ H', Nx H' → ∃ m', m' < m ∧ W (i + 1) m' H') ∧ ∀ x H', (Itt K a).yld i H x H' → g x (wipe σ vs) H' fun σ2 H2 => wipe σ2 vs = wipe σ vs ∧ tt σ2 H2 fun b H3 =>
        if b = true then te σ2 H3 fun y H4 => ∃ acc, H4 D = some (.lst acc) ∧ acc.length < sizeLine ∧ Nx (upd H4 D (.lst (acc ++ [y]))) else Nx H3) :=
  lcJ (n := xs.length) (fun i x => xs[i]? = some x) A hD hA hz Pv h0 (fun i acc H hi p st => ⟨xs, xs[i], st.sqT hl, by simp [hi]⟩) (fun i acc H x H' _ p st y => ⟨y.1, y.2 xs (st.sqT hl)⟩) (fun acc H p st => ⟨xs, st.sqT hl, Nat.le_refl _⟩)
    (fun i x acc H Nx _ ix => hs i x acc H Nx ix) hd
/-- over range(lo, lo + n) -/
theorem lcR {lo : Int} {n : Nat} {Qd : Hp → Prop} (A : List Addr) (hD : H1 D = none) (hA : ∀ b ∈ A, H1 b ≠ none) (hz : n ≤ sizeLine) (Pv : Nat → List V → Hp → Prop) (h0 : ∀ H', Nw H1 H' D (.lst []) → Pv 0 [] H')
    (hs : ∀ i acc H Nx, i < n → Pv i acc H → Stp A H1 H → H D = some (.lst acc) → Pushes A H1 D H (fun y => Pv (i + 1) (acc ++ [y])) Nx → Skips A H (Pv (i + 1) acc) Nx → g (.int (lo + i)) (wipe σ vs) H fun σ2 H2 => wipe σ2 vs = wipe σ vs ∧ tt σ2 H2 fun b H3 =>
      if b = true then te σ2 H3 fun y H4 => ∃ acc, H4 D = some (.lst acc) ∧ acc.length < sizeLine ∧ Nx (upd H4 D (.lst (acc ++ [y]))) else Nx H3) (hd : ∀ acc H, Pv n acc H → Stp A H1 H → H D = some (.lst acc) → Qd H) :
    ∃ W : Nat → Nat → Hp → Prop, (∃ m, W 0 m (upd H1 D (.lst []))) ∧ ∀ i m H, W i m H →
      ((Itr lo n).stop i H ∧ Qd H) ∨ ((Itr lo n).go i H ∧ ∃ Nx : Hp → Prop, (∀ H', Nx H' → ∃ m', m' < m ∧ W (i + 1) m' H') ∧ ∀ x H', (Itr lo n).yld i H x H' → g x (wipe σ vs) H' fun σ2 H2 => wipe σ2 vs = wipe σ vs ∧ tt σ2 H2 fun b H3 =>
        if b = true then te σ2 H3 fun y H4 => ∃ acc, H4 D = some (.lst acc) ∧ acc.length < sizeLine ∧ Nx (upd H4 D (.lst (acc ++ [y]))) else Nx H3) :=
  lcJ (n := n) (fun i x => x = .int (lo + i)) A hD hA hz Pv h0 (fun i acc H hi p st => hi) (fun i acc H x H' _ p st y => ⟨y.1, y.2⟩) (fun acc H p st => Nat.le_refl _)
    (fun i x acc H Nx hi ix => by subst ix; exact hs i acc H Nx hi) hd
/-- over the signs of a text -/
theorem lcS {z : Str} {Qd : Hp → Prop} (A : List Addr) (hD : H1 D = none) (hA : ∀ b ∈ A, H1 b ≠ none) (hz : z.cps.size ≤ sizeLine) (Pv : Nat → List V → Hp → Prop) (h0 : ∀ H', Nw H1 H' D (.lst []) → Pv 0 [] H')
    (hs : ∀ i c acc H Nx, z.cps.toList[i]? = some c → Pv i acc H → Stp A H1 H → H D = some (.lst acc) → Pushes A H1 D H (fun y => Pv (i + 1) (acc ++ [y])) Nx → Skips A H (Pv (i + 1) acc) Nx → g (.str ⟨#[c]⟩) (wipe σ vs) H fun σ2 H2 => wipe σ2 vs = wipe σ vs ∧ tt σ2 H2 fun b H3 =>
      if b = true then te σ2 H3 fun y H4 => ∃ acc, H4 D = some (.lst acc) ∧ acc.length < sizeLine ∧ Nx (upd H4 D (.lst (acc ++ [y]))) else Nx H3) (hd : ∀ acc H, Pv z.cps.size acc H → Stp A H1 H → H D = some (.lst acc) → Qd H) :
    ∃ W : Nat → Nat → Hp → Prop, (∃ m, W 0 m (upd H1 D (.lst []))) ∧ ∀ i m H, W i m H →
      ((Its z).stop i H ∧ Qd H) ∨ ((Its z).go i H ∧ ∃ Nx : Hp → Prop, (∀ H', Nx H' → ∃ m', m' < m ∧ W (i + 1) m' H') ∧ ∀ x H', (Its z).yld i H x H' → g x (wipe σ vs) H' fun σ2 H2 => wipe σ2 vs = wipe σ vs ∧ tt σ2 H2 fun b H3 =>
        if b = true then te σ2 H3 fun y H4 => ∃ acc, H4 D = some (.lst acc) ∧ acc.length < sizeLine ∧ Nx (upd H4 D (.lst (acc ++ [y]))) else Nx H3) :=
  lcJ (n := z.cps.size) (fun i x => ∃ c, z.cps.toList[i]? = some c ∧ x = .str ⟨#[c]⟩) A hD hA hz Pv h0 (fun i acc H hi p st => hi) (fun i acc H x H' _ p st y => ⟨y.1, by obtain ⟨c, hc, e⟩ := y.2; exact ⟨c, by simpa using hc, e⟩⟩) (fun acc H p st => Nat.le_refl _)
    (fun i x acc H Nx _ ix => by obtain ⟨c, hc, rfl⟩ := ix; exact hs i c acc H Nx hc) hd
/-! ### sets: the keys so far, the last first -/
instance decMemK (k : Key) (ks : List Key) : Decidable (k ∈ ks) := @List.instDecidableMemOfLawfulBEq Key instBEqOfDecidableEq inferInstance k ks
def cntR : List Key → Nat
  | [] => 0
  | k :: r => if k ∈ r then cntR r else cntR r + 1
theorem cntR_le : ∀ r : List Key, cntR r ≤ r.length
  | [] => Nat.le_refl _
  | k :: r => by
    have := cntR_le r
    unfold cntR
    simp only [List.length_cons]
    split <;> omega
theorem cntR_nodup : ∀ r : List Key, cntR r = r.length ↔ r.Nodup
  | [] => by simp [cntR]
  | k :: r => by
    have h := cntR_le r
    unfold cntR
    rw [List.nodup_cons, ← cntR_nodup r]
    split
    · rename_i hk
      simp only [List.length_cons]
      constructor
      · intro e; omega
      · intro e; exact absurd hk e.1
    · rename_i hk
      simp only [List.length_cons]
      constructor
      · intro e; exact ⟨hk, by omega⟩
      · intro e; have := e.2; omega
/-- the set at D holds the keys ks -/
abbrev SkAt (P : Program) (w : World) (D : Addr) (ks : List Key) : HO := SetK P w D (fun j => decide (j ∈ ks)) (cntR ks)
theorem skAt_add {P : Program} {w : World} {D : Addr} {ks : List Key} {k : Key} : SetK P w D (fun j => decide (j ∈ ks) || decide (j = k)) (if decide (k ∈ ks) = true then cntR ks else cntR ks + 1) = SkAt P w D (k :: ks) := by
  unfold SkAt
  have e1 : (fun j => decide (j ∈ ks) || decide (j = k)) = fun j => decide (j ∈ k :: ks) := by
    funext j
    by_cases h1 : j = k <;> by_cases h2 : j ∈ ks <;> simp [h1, h2]
  have e2 : (if decide (k ∈ ks) = true then cntR ks else cntR ks + 1) = cntR (k :: ks) := by
    show _ = if k ∈ ks then cntR ks else cntR ks + 1
    by_cases h : k ∈ ks <;> simp [h]
  rw [e1, e2]
def AddsK (P : Program) (w : World) (A : List Addr) (H1 : Hp) (D : Addr) (H : Hp) (R : Key → Hp → Prop) (Nx : Hp → Prop) : Prop := ∀ k H4, Stp A H H4 → (∀ H', Stp [D] H4 H' → Stp A H1 H' → R k H') → ∃ (k' : Key) (S : Key → Bool) (n : Nat), kV k = kV k' ∧ H4 D = some (SetK P w D S n) ∧ n + 1 < scanBound ∧ Nx (upd H4 D (SetK P w D (fun j => S j || decide (j = k')) (if S k' = true then n else n + 1)))
theorem skJ {P : Program} {w : World} {J : It} {Qd : Hp → Prop} {n : Nat} (it : Nat → V → Prop) (A : List Addr) (hD : H1 D = none) (hA : ∀ b ∈ A, H1 b ≠ none) (hz : n < scanBound) (Pv : Nat → List Key → Hp → Prop) (h0 : ∀ H', (∀ B, Stp B H1 H') → Pv 0 [] H')
    (hgo : ∀ i acc H, i < n → Pv i acc H → Stp A H1 H → J.go i H) (hy : ∀ i acc H x H', i < n → Pv i acc H → Stp A H1 H → J.yld i H x H' → H' = H ∧ it i x) (hst : ∀ acc H, Pv n acc H → Stp A H1 H → J.stop n H)
    (hs : ∀ i x ks H Nx, i < n → it i x → Pv i ks H → Stp A H1 H → H D = some (SkAt P w D ks) → AddsK P w A H1 D H (fun k => Pv (i + 1) (k :: ks)) Nx → g x (wipe σ vs) H fun σ2 H2 => wipe σ2 vs = wipe σ vs ∧ tt σ2 H2 fun b H3 =>
      if b = true then te σ2 H3 fun y H4 => ∃ (k : Key) (S : Key → Bool) (n : Nat), y = kV k ∧ H4 D = some (SetK P w D S n) ∧ n + 1 < scanBound ∧ Nx (upd H4 D (SetK P w D (fun j => S j || decide (j = k)) (if S k = true then n else n + 1))) else Nx H3) (hd : ∀ ks H, Pv n ks H → Stp A H1 H → H D = some (SkAt P w D ks) → Qd H) :
    ∃ W : Nat → Nat → Hp → Prop, (∃ m, W 0 m (upd H1 D (SetK P w D (fun _ => false) 0))) ∧ ∀ i m H, W i m H →
      (J.stop i H ∧ Qd H) ∨ (J.go i H ∧ ∃ Nx : Hp → Prop, (∀ H', Nx H' → ∃ m', m' < m ∧ W (i + 1) m' H') ∧ ∀ x H', J.yld i H x H' → g x (wipe σ vs) H' fun σ2 H2 => wipe σ2 vs = wipe σ vs ∧ tt σ2 H2 fun b H3 =>
        if b = true then te σ2 H3 fun y H4 => ∃ (k : Key) (S : Key → Bool) (n : Nat), y = kV k ∧ H4 D = some (SetK P w D S n) ∧ n + 1 < scanBound ∧ Nx (upd H4 D (SetK P w D (fun j => S j || decide (j = k)) (if S k = true then n else n + 1))) else Nx H3) := by
  have nD := not_mem_of_new hD hA
  have e0 : SetK P w D (fun _ => false) 0 = SkAt P w D [] := by
    unfold SkAt
    have : (fun j : Key => decide (j ∈ ([] : List Key))) = fun _ => false := by funext j; simp
    rw [this]; rfl
  refine ⟨fun i m H => m = n - i ∧ i ≤ n ∧ ∃ ks, ks.length ≤ i ∧ H D = some (SkAt P w D ks) ∧ Stp A H1 H ∧ Pv i ks H, ⟨n, by simp, Nat.zero_le _, [], Nat.le_refl _, by rw [upd_same, e0], .new hD, h0 _ fun _ => .new hD⟩, ?_⟩
  rintro i m H ⟨rfl, hi, ks, hl, hH, st, p⟩
  by_cases hlt : i < n
  · refine .inr ⟨hgo i ks H hlt p st, fun H' => ∃ ks, ks.length ≤ i + 1 ∧ H' D = some (SkAt P w D ks) ∧ Stp A H1 H' ∧ Pv (i + 1) ks H', fun H' p' => ⟨n - (i + 1), by omega, rfl, hlt, p'⟩, fun x H' y => ?_⟩
    obtain ⟨rfl, ix⟩ := hy i ks H x H' hlt p st y
    refine hs i x ks _ _ hlt ix p st hH (fun k H4 s4 q4 => ?_)
    have hD4 := s4.k _ _ nD hH
    have hc := cntR_le ks
    refine ⟨k, _, _, rfl, hD4, by omega, k :: ks, by simp; omega, by rw [upd_same, skAt_add], (st.trans s4).putNew hD4 hD, q4 _ (.put hD4) ((st.trans s4).putNew hD4 hD)⟩
  · have e : i = n := by omega
    subst e
    exact .inl ⟨hst ks H p st, hd ks H p st hH⟩
theorem skL {P : Program} {w : World} {a : Addr} {xs : List V} {Qd : Hp → Prop} (A : List Addr) (hD : H1 D = none) (hA : ∀ b ∈ A, H1 b ≠ none) (hz : xs.length < scanBound) (Pv : Nat → List Key → Hp → Prop) (h0 : ∀ H', (∀ B, Stp B H1 H') → Pv 0 [] H')
    (hl : ∀ i acc H, Pv i acc H → Stp A H1 H → SqL K H a xs)
    (hs : ∀ i x ks H Nx, xs[i]? = some x → Pv i ks H → Stp A H1 H → H D = some (SkAt P w D ks) → AddsK P w A H1 D H (fun k => Pv (i + 1) (k :: ks)) Nx → g x (wipe σ vs) H fun σ2 H2 => wipe σ2 vs = wipe σ vs ∧ tt σ2 H2 fun b H3 =>
      if b = true then te σ2 H3 fun y H4 => ∃ (k : Key) (S : Key → Bool) (n : Nat), y = kV k ∧ H4 D = some (SetK P w D S n) ∧ n + 1 < scanBound ∧ Nx (upd H4 D (SetK P w D (fun j => S j || decide (j = k)) (if S k = true then n else n + 1))) else Nx H3) (hd : ∀ ks H, Pv xs.length ks H → Stp A H1 H → H D = some (SkAt P w D ks) → Qd H) :
    ∃ W : Nat → Nat → Hp → Prop, (∃ m, W 0 m (upd H1 D (SetK P w D (fun _ => false) 0))) ∧ ∀ i m H, W i m H →
      ((Itl K a).stop i H ∧ Qd H) ∨ ((Itl K a).go i H ∧ ∃ Nx : Hp → Prop, (∀ H', Nx H' → ∃ m', m' < m ∧ W (i + 1) m' H') ∧ ∀ x H', (Itl K a).yld i H x H' → g x (wipe σ vs) H' fun σ2 H2 => wipe σ2 vs = wipe σ vs ∧ tt σ2 H2 fun b H3 =>
        if b = true then te σ2 H3 fun y H4 => ∃ (k : Key) (S : Key → Bool) (n : Nat), y = kV k ∧ H4 D = some (SetK P w D S n) ∧ n + 1 < scanBound ∧ Nx (upd H4 D (SetK P w D (fun j => S j || decide (j = k)) (if S k = true then n else n + 1))) else Nx H3) :=
  skJ (n := xs.length) (fun i x => xs[i]? = some x) A hD hA hz Pv h0 (fun i acc H hi p st => ⟨xs, xs[i], hl i acc H p st, by simp [hi]⟩) (fun i acc H x H' _ p st y => ⟨y.1, y.2 xs (hl i acc H p st)⟩) (fun acc H p st => ⟨xs, hl _ acc H p st, Nat.le_refl _⟩)
    (fun i x acc H Nx _ ix => hs i x acc H Nx ix) hd
end
end Hd
namespace Hd
/-! ### names, places, sections: the data and what may be said of it -/
section
open PySem PySem.Spec PyProof.Rows L2
mutual
/-- no text in it is too long to be measured -/
def txD : PyData → Bool
  | .str z => decide (z.length ≤ sizeLine)
  | .list ds => txDs ds
  | .tuple ds => txDs ds
  | _ => true
def txDs : List PyData → Bool
  | [] => true
  | d :: r => txD d && txDs r
end
theorem txDs_get : ∀ {ds : List PyData} {i : Nat} {d : PyData}, txDs ds = true → ds[i]? = some d → txD d = true
  | [], i, d, _, e => by simp at e
  | x :: r, 0, d, h, e => by
    have e1 : x = d := by simpa using e
    subst e1
    exact (Bool.and_eq_true_iff.mp (show (txD x && txDs r) = true from h)).1
  | x :: r, i + 1, d, h, e => txDs_get (Bool.and_eq_true_iff.mp (show (txD x && txDs r) = true from h)).2 (by simpa using e)
theorem txDs_all : ∀ {ds : List PyData}, (∀ d ∈ ds, txD d = true) → txDs ds = true
  | [], _ => rfl
  | x :: r, h => by
    show (txD x && txDs r) = true
    rw [h x (List.mem_cons_self ..), txDs_all fun d hd => h d (List.mem_cons_of_mem _ hd)]; rfl
abbrev lets : Str := "abcdefghijklmnopqrstuvwxyz"
def signsOk (z : Str) : Bool := z.cps.toList.all fun c => decide (c ∈ lets.cps.toList)
def isNm (z : Str) : Bool := decide (1 ≤ z.length) && (decide (z.length ≤ 8) && signsOk z)
def isName : PyData → Bool
  | .str z => isNm z
  | _ => false
theorem isName_str {d : PyData} (h : isName d = true) : ∃ z, d = .str z ∧ isNm z = true := by
  cases d with
  | str z => exact ⟨z, rfl, h⟩
  | _ => cases h
def spName (K : PySem.W.Frag) : Sp := fun vs H Q _ => ∃ (v : V) (A : List Addr) (d : PyData), vs = [v] ∧ Td K A H v d ∧ txD d = true ∧ ∀ H', Stp [] H H' → Q (.bl (isName d)) H'
/-! places -/
def isPlace : PyData → Bool
  | .tuple [a, b] => isName a && isFrom b 1 3
  | _ => false
def placeD (p : Str × Int) : PyData := .tuple [.str p.1, .int p.2]
def placesD (ps : List (Str × Int)) : List PyData := ps.map placeD
theorem isPlace_inv {d : PyData} (h : isPlace d = true) : ∃ p : Str × Int, d = placeD p ∧ isNm p.1 = true ∧ 1 ≤ p.2 ∧ p.2 ≤ 3 := by
  match d, h with
  | .tuple [a, b], h =>
    obtain ⟨h1, h2⟩ := Bool.and_eq_true_iff.mp (show (isName a && isFrom b 1 3) = true from h)
    obtain ⟨z, rfl, hz⟩ := isName_str h1
    obtain ⟨i, rfl, hi⟩ := isFrom_int h2
    exact ⟨(z, i), rfl, hz, hi.1, hi.2⟩
theorem allPlace_inv : ∀ {ds : List PyData}, ds.all isPlace = true → ∃ ps, ds = placesD ps ∧ ∀ p ∈ ps, isNm p.1 = true ∧ 1 ≤ p.2 ∧ p.2 ≤ 3
  | [], _ => ⟨[], rfl, by simp⟩
  | d :: r, h => by
    obtain ⟨h1, h2⟩ := Bool.and_eq_true_iff.mp (show (isPlace d && r.all isPlace) = true from h)
    obtain ⟨p, rfl, hp⟩ := isPlace_inv h1
    obtain ⟨ps, rfl, hps⟩ := allPlace_inv h2
    exact ⟨p :: ps, rfl, fun q hq => (List.mem_cons.mp hq).elim (fun e => e ▸ hp) (hps q)⟩
def fstS : PyData → Str
  | .tuple (.str z :: _) => z
  | _ => ""
theorem fst_places (ps : List (Str × Int)) : (placesD ps).map fstS = ps.map (·.1) := by
  unfold placesD
  rw [List.map_map]; rfl
def arePlaces : PyData → Bool
  | .list ds => decide (1 ≤ ds.length) && (decide (ds.length ≤ 8) && (ds.all isPlace && decide ((ds.map fstS).Nodup)))
  | _ => false
/-- a line's places -/
structure Places (ps : List (Str × Int)) : Prop where
  l1 : 1 ≤ ps.length
  l8 : ps.length ≤ 8
  nm : ∀ p ∈ ps, isNm p.1 = true ∧ 1 ≤ p.2 ∧ p.2 ≤ 3
  nd : (ps.map (·.1)).Nodup
theorem arePlaces_inv {d : PyData} (h : arePlaces d = true) : ∃ ps, d = .list (placesD ps) ∧ Places ps := by
  cases d with
  | list ds =>
    simp only [arePlaces, Bool.and_eq_true, decide_eq_true_eq] at h
    obtain ⟨h1, h2, h3, h4⟩ := h
    obtain ⟨ps, rfl, hp⟩ := allPlace_inv h3
    rw [fst_places] at h4
    exact ⟨ps, rfl, by simpa [placesD] using h1, by simpa [placesD] using h2, hp, h4⟩
  | _ => cases h
theorem Places.ok {ps : List (Str × Int)} (h : Places ps) : arePlaces (.list (placesD ps)) = true := by
  simp only [arePlaces, Bool.and_eq_true, decide_eq_true_eq]
  refine ⟨by simpa [placesD] using h.l1, by simpa [placesD] using h.l8, ?_, by rw [fst_places]; exact h.nd⟩
  rw [List.all_eq_true]
  intro d hd
  obtain ⟨p, hp, rfl⟩ := List.mem_map.mp hd
  obtain ⟨h1, h2, h3⟩ := h.nm p hp
  show (isNm p.1 && isFrom (.int p.2) 1 3) = true
  rw [h1]
  simp [isFrom, h2, h3]
def spPlace (K : PySem.W.Frag) : Sp := fun vs H Q _ => ∃ (v : V) (A : List Addr) (d : PyData), vs = [v] ∧ Td K A H v d ∧ txD d = true ∧ ∀ H', Stp [] H H' → Q (.bl (isPlace d)) H'
def spPlaces (K : PySem.W.Frag) : Sp := fun vs H Q _ => ∃ (v : V) (A : List Addr) (d : PyData), vs = [v] ∧ Td K A H v d ∧ txD d = true ∧ ∀ H', Stp [] H H' → Q (.bl (arePlaces d)) H'
/-! sections -/
def isSection (ns : List Str) : PyData → Bool
  | .tuple [.str a, .str b, c] => isNm a && (isNm b && (!decide (a = b) && (decide (a ∈ ns) && (decide (b ∈ ns) && isFrom c 1 99))))
  | _ => false
def railD (r : Str × Str × Int) : PyData := .tuple [.str r.1, .str r.2.1, .int r.2.2]
def railsD (rs : List (Str × Str × Int)) : List PyData := rs.map railD
structure Rail (ns : List Str) (r : Str × Str × Int) : Prop where
  n1 : isNm r.1 = true
  n2 : isNm r.2.1 = true
  ne : r.1 ≠ r.2.1
  m1 : r.1 ∈ ns
  m2 : r.2.1 ∈ ns
  lo : 1 ≤ r.2.2
  hi : r.2.2 ≤ 99
theorem isSection_inv {ns : List Str} {d : PyData} (h : isSection ns d = true) : ∃ r, d = railD r ∧ Rail ns r := by
  match d, h with
  | .tuple [.str a, .str b, c], h =>
    simp only [isSection, Bool.and_eq_true, decide_eq_true_eq, Bool.not_eq_true', decide_eq_false_iff_not] at h
    obtain ⟨h1, h2, h3, h4, h5, h6⟩ := h
    obtain ⟨i, rfl, hi⟩ := isFrom_int h6
    exact ⟨(a, b, i), rfl, h1, h2, h3, h4, h5, hi.1, hi.2⟩
theorem Rail.ok {ns : List Str} {r : Str × Str × Int} (h : Rail ns r) : isSection ns (railD r) = true := by
  simp only [isSection, railD, Bool.and_eq_true, decide_eq_true_eq, Bool.not_eq_true', decide_eq_false_iff_not]
  exact ⟨h.n1, h.n2, h.ne, h.m1, h.m2, by simp [isFrom, h.lo, h.hi]⟩
def areSections (ns : List Str) : PyData → Bool
  | .list ds => decide (ds.length ≤ 12) && ds.all (isSection ns)
  | _ => false
structure Rails (ns : List Str) (rs : List (Str × Str × Int)) : Prop where
  l : rs.length ≤ 12
  r : ∀ r ∈ rs, Rail ns r
theorem areSections_inv {ns : List Str} {d : PyData} (h : areSections ns d = true) : ∃ rs, d = .list (railsD rs) ∧ Rails ns rs := by
  cases d with
  | list ds =>
    simp only [areSections, Bool.and_eq_true, decide_eq_true_eq] at h
    have key : ∀ {ds : List PyData}, ds.all (isSection ns) = true → ∃ rs, ds = railsD rs ∧ ∀ r ∈ rs, Rail ns r := by
      intro ds
      induction ds with
      | nil => intro _; exact ⟨[], rfl, by simp⟩
      | cons d r ih =>
        intro h
        obtain ⟨h1, h2⟩ := Bool.and_eq_true_iff.mp (show (isSection ns d && r.all (isSection ns)) = true from h)
        obtain ⟨p, rfl, hp⟩ := isSection_inv h1
        obtain ⟨ps, rfl, hps⟩ := ih h2
        exact ⟨p :: ps, rfl, fun q hq => (List.mem_cons.mp hq).elim (fun e => e ▸ hp) (hps q)⟩
    obtain ⟨rs, rfl, hr⟩ := key h.2
    exact ⟨rs, rfl, by simpa [railsD] using h.1, hr⟩
  | _ => cases h
theorem Rails.ok {ns : List Str} {rs : List (Str × Str × Int)} (h : Rails ns rs) : areSections ns (.list (railsD rs)) = true := by
  simp only [areSections, Bool.and_eq_true, decide_eq_true_eq]
  refine ⟨by simpa [railsD] using h.l, ?_⟩
  rw [List.all_eq_true]
  intro d hd
  obtain ⟨p, hp, rfl⟩ := List.mem_map.mp hd
  exact (h.r p hp).ok
def spSection (K : PySem.W.Frag) : Sp := fun vs H Q _ => ∃ (v : V) (A : List Addr) (d : PyData) (n : Addr) (ns : List Str), vs = [v, .ref n] ∧ Td K A H v d ∧ txD d = true ∧ SqL K H n (ns.map V.str) ∧ ∀ H', Stp [] H H' → Q (.bl (isSection ns d)) H'
def spSections (K : PySem.W.Frag) : Sp := fun vs H Q _ => ∃ (v : V) (A : List Addr) (d : PyData) (n : Addr) (ns : List Str), vs = [v, .ref n] ∧ Td K A H v d ∧ txD d = true ∧ SqL K H n (ns.map V.str) ∧ ∀ H', Stp [] H H' → Q (.bl (areSections ns d)) H'
/-! ### data of places and rails, as values -/
theorem flat_places : ∀ ps : List (Str × Int), flatDs (placesD ps) = true
  | [] => rfl
  | _ :: r => flat_places r
theorem nodic_places : ∀ ps : List (Str × Int), nodics (placesD ps) = true
  | [] => rfl
  | _ :: r => nodic_places r
theorem flat_rails : ∀ rs : List (Str × Str × Int), flatDs (railsD rs) = true
  | [] => rfl
  | _ :: r => flat_rails r
theorem nodic_rails : ∀ rs : List (Str × Str × Int), nodics (railsD rs) = true
  | [] => rfl
  | _ :: r => nodic_rails r
theorem sh_str {n : Nat} {z : Str} (h : PyData.strOk z = true) : Sh n (.str z) := ⟨by simp only [PyData.canLay0, h], by simp only [PyData.depth]; exact Nat.zero_le _⟩
theorem lets_small : ∀ c ∈ lets.cps.toList, c < 0x110000 := by decide +kernel
theorem nm_ok {z : Str} (h : isNm z = true) : PyData.strOk z = true := by
  simp only [isNm, Bool.and_eq_true, signsOk] at h
  unfold PyData.strOk
  rw [← Array.all_toList, List.all_eq_true]
  intro c hc
  exact decide_eq_true (lets_small c (of_decide_eq_true (List.all_eq_true.mp h.2.2 c hc)))
theorem nm_len {z : Str} (h : isNm z = true) : 1 ≤ z.length ∧ z.length ≤ 8 := by
  simp only [isNm, Bool.and_eq_true, decide_eq_true_eq] at h
  exact ⟨h.1, h.2.1⟩
theorem sh_place {p : Str × Int} (h : isNm p.1 = true) : Sh 1 (placeD p) := sh_tuple fun x hx => by
  have : x = .str p.1 ∨ x = .int p.2 := by simpa using hx
  rcases this with rfl | rfl
  · exact sh_str (nm_ok h)
  · exact sh_int _
theorem sh_places {ps : List (Str × Int)} (h : ∀ p ∈ ps, isNm p.1 = true) : ∀ d ∈ placesD ps, Sh 1 d := fun d hd => by
  obtain ⟨r, hr, rfl⟩ := List.mem_map.mp hd
  exact sh_place (h r hr)
theorem sh_rail {ns : List Str} {r : Str × Str × Int} (h : Rail ns r) : Sh 1 (railD r) := sh_tuple fun x hx => by
  have : x = .str r.1 ∨ x = .str r.2.1 ∨ x = .int r.2.2 := by simpa using hx
  rcases this with rfl | rfl | rfl
  · exact sh_str (nm_ok h.n1)
  · exact sh_str (nm_ok h.n2)
  · exact sh_int _
theorem sh_rails {ns : List Str} {rs : List (Str × Str × Int)} (h : ∀ r ∈ rs, Rail ns r) : ∀ d ∈ railsD rs, Sh 1 d := fun d hd => by
  obtain ⟨r, hr, rfl⟩ := List.mem_map.mp hd
  exact sh_rail (h r hr)
theorem nm_small {z : Str} (h : isNm z = true) : z.length ≤ sizeLine := by
  have := nm_len h
  rw [sizeLine_eq]; omega
theorem tx_places {ps : List (Str × Int)} (h : ∀ p ∈ ps, isNm p.1 = true) : txD (.list (placesD ps)) = true := txDs_all fun d hd => by
  obtain ⟨r, hr, rfl⟩ := List.mem_map.mp hd
  simp [placeD, txD, txDs, nm_small (h r hr)]
theorem tx_rails {ns : List Str} {rs : List (Str × Str × Int)} (h : ∀ r ∈ rs, Rail ns r) : txD (.list (railsD rs)) = true := txDs_all fun d hd => by
  obtain ⟨r, hr, rfl⟩ := List.mem_map.mp hd
  simp [railD, txD, txDs, nm_small (h r hr).n1, nm_small (h r hr).n2]
variable {K : PySem.W.Frag} {A : List Addr} {H : Hp}
theorem td_place {v : V} {p : Str × Int} (h : Td K A H v (placeD p)) : ∃ q, v = .ref q ∧ SqT K H q [.str p.1, .int p.2] := by
  cases h with
  | @tup q ys _ sq ta =>
    cases ta with
    | cons t1 ta =>
      cases t1
      cases ta with
      | cons t2 ta =>
        cases t2
        cases ta
        exact ⟨q, rfl, sq⟩
theorem td_rail {v : V} {r : Str × Str × Int} (h : Td K A H v (railD r)) : ∃ q, v = .ref q ∧ SqT K H q [.str r.1, .str r.2.1, .int r.2.2] := by
  cases h with
  | @tup q ys _ sq ta =>
    cases ta with
    | cons t1 ta =>
      cases t1
      cases ta with
      | cons t2 ta =>
        cases t2
        cases ta with
        | cons t3 ta =>
          cases t3
          cases ta
          exact ⟨q, rfl, sq⟩
theorem mk_place {q : Addr} {p : Str × Int} (h : SqT K H q [.str p.1, .int p.2]) : Td K A H (.ref q) (placeD p) := .tup h (.cons (.str _) (.cons (.int _) .nil))
theorem mk_rail {q : Addr} {r : Str × Str × Int} (h : SqT K H q [.str r.1, .str r.2.1, .int r.2.2]) : Td K A H (.ref q) (railD r) := .tup h (.cons (.str _) (.cons (.str _) (.cons (.int _) .nil)))
/-- the i-th place -/
theorem at_place {xs : List V} {ps : List (Str × Int)} {i : Nat} {x : V} (ta : TdAll K A H xs (placesD ps)) (h : xs[i]? = some x) : ∃ p q, ps[i]? = some p ∧ x = .ref q ∧ SqT K H q [.str p.1, .int p.2] := by
  obtain ⟨d, hd, td⟩ := ta.get h
  unfold placesD at hd
  rw [List.getElem?_map] at hd
  obtain ⟨p, hp, rfl⟩ := Option.map_eq_some_iff.mp hd
  obtain ⟨q, rfl, sq⟩ := td_place td
  exact ⟨p, q, hp, rfl, sq⟩
theorem at_rail {xs : List V} {rs : List (Str × Str × Int)} {i : Nat} {x : V} (ta : TdAll K A H xs (railsD rs)) (h : xs[i]? = some x) : ∃ p q, rs[i]? = some p ∧ x = .ref q ∧ SqT K H q [.str p.1, .str p.2.1, .int p.2.2] := by
  obtain ⟨d, hd, td⟩ := ta.get h
  unfold railsD at hd
  rw [List.getElem?_map] at hd
  obtain ⟨p, hp, rfl⟩ := Option.map_eq_some_iff.mp hd
  obtain ⟨q, rfl, sq⟩ := td_rail td
  exact ⟨p, q, hp, rfl, sq⟩
theorem nodup_rev {α : Type} {l : List α} : l.reverse.Nodup ↔ l.Nodup := by
  unfold List.Nodup
  rw [List.pairwise_reverse]
  constructor
  · intro h; exact h.imp fun b => Ne.symm b
  · intro h; exact h.imp fun b => Ne.symm b
theorem nodup_inr {ns : List Str} : (ns.map fun z => (Sum.inr z : Key)).Nodup ↔ ns.Nodup := by
  induction ns with
  | nil => simp
  | cons z r ih =>
    rw [List.map_cons, List.nodup_cons, List.nodup_cons, ih]
    have e : (Sum.inr z : Key) ∈ r.map (fun z => (Sum.inr z : Key)) ↔ z ∈ r := by
      constructor
      · intro h
        obtain ⟨y, hy, e⟩ := List.mem_map.mp h
        injection e with e
        exact e ▸ hy
      · intro h
        exact List.mem_map.mpr ⟨z, h, rfl⟩
    rw [e]
theorem inV_str {z : Str} {ns : List Str} : inV (.str z) (ns.map V.str) = decide (z ∈ ns) := by
  unfold inV
  rw [Bool.eq_iff_iff, decide_eq_true_eq, List.any_eq_true]
  constructor
  · rintro ⟨x, hx, h⟩
    obtain ⟨y, hy, rfl⟩ := List.mem_map.mp hx
    have e : y = z := by simpa [eqV] using h
    exact e ▸ hy
  · intro h
    exact ⟨.str z, List.mem_map.mpr ⟨z, h, rfl⟩, by simp [eqV]⟩
theorem flat_strs {ns : List Str} : (ns.map V.str).all flatV = true := by
  rw [List.all_eq_true]
  intro x hx
  obtain ⟨y, _, rfl⟩ := List.mem_map.mp hx
  rfl
end
/-! ### Line -/
section
open PySem PySem.Spec PyProof.Rows L2
/-- a list is no instance -/
theorem Stp.sqLI {K : PySem.W.Frag} {H H1 : Hp} {x C dx b : Addr} {fs : List (Str × V)} {ys : List V} (s : Stp [x] H H1) (hx : H x = some (.ins C dx fs)) (h : SqL K H b ys) : SqL K H1 b ys := by
  rcases h with (h | ⟨o, h⟩) | h
  · refine .inl (.inl (s.k _ _ ?_ h))
    intro z
    have e : b = x := by simpa using z
    rw [e, hx] at h
    cases h
  · exact .inl (.inr ⟨o, s.z _ _ _ h⟩)
  · exact .inr h
def namesOf : PyData → List Str
  | .list ds => ds.map fstS
  | _ => []
theorem names_places (ps : List (Str × Int)) : namesOf (.list (placesD ps)) = ps.map (·.1) := fst_places ps
/-- which part is amiss -/
def lineBad (d1 d2 d3 d4 d5 : PyData) : Option Str :=
  if arePlaces d1 = false then some "places" else if areSections (namesOf d1) d2 = false then some "sections" else if isFrom d3 1 9 = false then some "gap" else if isFrom d4 1 9 = false then some "stop" else if isFrom d5 0 9 = false then some "away" else none
/-- what a line is made of -/
structure LineOk (ps : List (Str × Int)) (rs : List (Str × Str × Int)) (g s a : Int) : Prop where
  p : Places ps
  r : Rails (ps.map (·.1)) rs
  g : 1 ≤ g ∧ g ≤ 9
  s : 1 ≤ s ∧ s ≤ 9
  a : 0 ≤ a ∧ a ≤ 9
theorem LineOk.bad {ps : List (Str × Int)} {rs : List (Str × Str × Int)} {g s a : Int} (h : LineOk ps rs g s a) : lineBad (.list (placesD ps)) (.list (railsD rs)) (.int g) (.int s) (.int a) = none := by
  unfold lineBad
  rw [h.p.ok, names_places, h.r.ok]
  simp [isFrom, h.g, h.s, h.a]
/-- a line stands at x -/
structure LineAt (K : PySem.W.Frag) (H : Hp) (x : Addr) (ps : List (Str × Int)) (rs : List (Str × Str × Int)) (g s a : Int) : Prop where
  ex : ∃ dx th tr xs ys, H x = some (.ins (He.ga K "Line") dx [("halts", .ref th), ("rails", .ref tr), ("gap", .int g), ("stop", .int s), ("away", .int a)]) ∧ SqT K H th xs ∧ TdAll K [] H xs (placesD ps) ∧ SqT K H tr ys ∧ TdAll K [] H ys (railsD rs)
  ok : LineOk ps rs g s a
theorem LineAt.keep {K : PySem.W.Frag} {A : List Addr} {H H' : Hp} {x : Addr} {ps : List (Str × Int)} {rs : List (Str × Str × Int)} {g s a : Int} (h : LineAt K H x ps rs g s a) (st : Stp A H H') (n : x ∉ A) : LineAt K H' x ps rs g s a := by
  obtain ⟨⟨dx, th, tr, xs, ys, hx, s1, t1, s2, t2⟩, ok⟩ := h
  exact ⟨⟨dx, th, tr, xs, ys, st.k _ _ n hx, st.sqT s1, t1.flatMono (flat_places _) st, st.sqT s2, t2.flatMono (flat_rails _) st⟩, ok⟩
theorem LineAt.st {K : PySem.W.Frag} {H H' : Hp} {x : Addr} {ps : List (Str × Int)} {rs : List (Str × Str × Int)} {g s a : Int} (h : LineAt K H x ps rs g s a) (st : Stp [] H H') : LineAt K H' x ps rs g s a := h.keep st (by simp)
def spLineInit (K : PySem.W.Frag) : Sp := fun vs H Q E => ∃ (x dx : Addr) (v1 v2 v3 v4 v5 : V) (A : List Addr) (d1 d2 d3 d4 d5 : PyData), vs = [.ref x, v1, v2, v3, v4, v5] ∧ H x = some (.ins (He.ga K "Line") dx []) ∧
  Td K A H v1 d1 ∧ Td K A H v2 d2 ∧ Td K A H v3 d3 ∧ Td K A H v4 d4 ∧ Td K A H v5 d5 ∧ txD d1 = true ∧ txD d2 = true ∧
  (∀ ps rs g s a, d1 = .list (placesD ps) → d2 = .list (railsD rs) → d3 = .int g → d4 = .int s → d5 = .int a → LineOk ps rs g s a → ∀ H', Stp [x] H H' → LineAt K H' x ps rs g s a → Q .non H') ∧
  (∀ z, lineBad d1 d2 d3 d4 d5 = some z → ∀ H' d, Stp [] H H' → H d = none → H' d = some (.xd [("what", .str z)]) → E (.ref (He.ga K "NoLine")) (some d) H')
end
section
open PySem PySem.Spec PyProof.Rows L2
def spNames (K : PySem.W.Frag) : Sp := fun vs H Q _ => ∃ x ps rs g s a, vs = [.ref x] ∧ LineAt K H x ps rs g s a ∧ ∀ D H', Nw H H' D (.lst ((ps.map (·.1)).map V.str)) → Q (.ref D) H'
def platOf : List (Str × Int) → PyData → Option Int
  | p :: r, .str z => if p.1 = z then some p.2 else platOf r (.str z)
  | _, _ => none
theorem platOf_none {ps : List (Str × Int)} {d : PyData} (h : isName d = false) (hp : ∀ p ∈ ps, isNm p.1 = true) : platOf ps d = none := by
  induction ps with
  | nil => cases d <;> rfl
  | cons p r ih =>
    cases d with
    | str z =>
      unfold platOf
      rw [if_neg]
      · exact ih fun q hq => hp q (List.mem_cons_of_mem _ hq)
      · intro e
        have := hp p (List.mem_cons_self ..)
        rw [e] at this
        rw [show isName (.str z) = isNm z from rfl, this] at h
        cases h
    | _ => rfl
def spPlatforms (K : PySem.W.Frag) : Sp := fun vs H Q E => ∃ x v ps rs g s a A d, vs = [.ref x, v] ∧ LineAt K H x ps rs g s a ∧ Td K A H v d ∧ txD d = true ∧ (∀ m, platOf ps d = some m → ∀ H', Stp [] H H' → Q (.int m) H') ∧
  (platOf ps d = none → ∀ H' e, Stp [] H H' → H e = none → H' e = some (.xd [("what", .str "place")]) → E (.ref (He.ga K "NoLine")) (some e) H')
def spTracks (K : PySem.W.Frag) : Sp := fun vs H Q _ => ∃ x ps rs g s a, vs = [.ref x] ∧ LineAt K H x ps rs g s a ∧ Q (.int (rs.length : Nat)) H
def spLineLen (K : PySem.W.Frag) : Sp := fun vs H Q _ => ∃ x ps rs g s a, vs = [.ref x] ∧ LineAt K H x ps rs g s a ∧ Q (.int (ps.length : Nat)) H
def lineText (p r : Int) : Str := (((Str.ofString (toString p)) ++ (" places, " : Str)) ++ Str.ofString (toString r)) ++ (" sections" : Str)
def spLineStr (K : PySem.W.Frag) : Sp := fun vs H Q _ => ∃ x ps rs g s a, vs = [.ref x] ∧ LineAt K H x ps rs g s a ∧ Q (.str (lineText (ps.length : Nat) (rs.length : Nat))) H
theorem str_app (a b : Str) : (a ++ b).length = a.length + b.length := by
  show (a.cps ++ b.cps).size = _
  rw [Array.size_append]; rfl
theorem str_empty (a : Str) : Str.empty ++ a = a := by
  show (⟨#[] ++ a.cps⟩ : Str) = a
  rw [Array.empty_append]
theorem num_small : ∀ n : Fin 13, (Str.ofString (toString ((n.val : Nat) : Int))).length ≤ 4 ∧ (((n.val : Nat) : Int)).natAbs.log2 < 1920 := by decide +kernel
theorem num_le {n : Nat} (h : n ≤ 12) : (Str.ofString (toString (n : Int))).length ≤ 4 ∧ (n : Int).natAbs.log2 < 1920 := num_small ⟨n, by omega⟩
end
end Hd
namespace Hd
/-! ### texts as lists of signs; the drawn names -/
section
open PySem PySem.Spec PyProof.Rows L2 TL
abbrev sOf (cs : List Nat) : Str := ⟨cs.toArray⟩
theorem sOf_app (a b : List Nat) : sOf a ++ sOf b = sOf (a ++ b) := by
  show (⟨a.toArray ++ b.toArray⟩ : Str) = ⟨(a ++ b).toArray⟩
  rw [List.append_toArray]
theorem sOf_len (a : List Nat) : (sOf a).length = a.length := by
  show a.toArray.size = _
  simp
theorem sOf_list (a : List Nat) : (sOf a).cps.toList = a := by simp [sOf]
theorem cutS_to {cs : List Nat} {i : Int} (h : 0 ≤ i) : cutS (sOf cs) none (some i) = sOf (cs.take i.toNat) := by
  unfold cutS
  rw [HT.sIx_none, sOf_list, List.drop_zero, Nat.sub_zero, sOf_len]
  show sOf (cs.take (if i < 0 then (i + (cs.length : Int)).toNat else min i.toNat cs.length)) = _
  rw [if_neg (by omega)]
  by_cases q : i.toNat ≤ cs.length
  · rw [Nat.min_eq_left q]
  · rw [Nat.min_eq_right (by omega), List.take_length, List.take_of_length_le (by omega)]
theorem cutS_at {cs : List Nat} {i j : Int} (h : 0 ≤ i) (h1 : i ≤ j) (h2 : j.toNat ≤ cs.length) : cutS (sOf cs) (some i) (some j) = sOf ((cs.drop i.toNat).take (j.toNat - i.toNat)) := by
  unfold cutS
  rw [sOf_list, sOf_len]
  have e1 : HT.sIx cs.length 0 (some i) = i.toNat := by
    show (if i < 0 then (i + (cs.length : Int)).toNat else min i.toNat cs.length) = _
    rw [if_neg (by omega), Nat.min_eq_left (by omega)]
  have e2 : HT.sIx cs.length cs.length (some j) = j.toNat := by
    show (if j < 0 then (j + (cs.length : Int)).toNat else min j.toNat cs.length) = _
    rw [if_neg (by omega), Nat.min_eq_left (by omega)]
  rw [e1, e2]
theorem joinL_nil : ∀ ps : List (List Nat), joinL [] ps = ps.flatten
  | [] => rfl
  | [p] => by simp [joinL]
  | p :: q :: r => by
    show p ++ ([] ++ joinL [] (q :: r)) = _
    rw [joinL_nil (q :: r)]; simp
theorem str_ext {a b : Str} (h : a.cps.toList = b.cps.toList) : a = b := by
  obtain ⟨⟨x⟩⟩ := a
  obtain ⟨⟨y⟩⟩ := b
  have e : x = y := h
  rw [e]
theorem join_signs (cs : List Nat) : Txt.join ("" : Str) (cs.map fun c => (⟨#[c]⟩ : Str)) = sOf cs := by
  refine str_ext ?_
  rw [join_eq]
  refine (tl_join _ _).trans ?_
  have e : tl ("" : Str) = [] := by decide +kernel
  rw [e, joinL_nil, List.map_map, sOf_list]
  induction cs with
  | nil => rfl
  | cons c r ih =>
    rw [List.map_cons, List.flatten_cons, ih]
    rfl
theorem lets_len : lets.cps.toList.length = 26 := by decide +kernel
theorem lets_nd : lets.cps.toList.Nodup := by decide +kernel
theorem lets_small2 : lets.length ≤ sizeLine := by decide +kernel
/-- the n-th letter -/
def letter (n : Nat) : Nat := lets.cps.toList.getD n 0
theorem letter_at {i : Int} (h0 : 0 ≤ i) (h1 : i < 26) : atI lets.cps.toList i = some (letter i.toNat) := by
  refine atI_int h0 ?_
  have hl : i.toNat < lets.cps.toList.length := by rw [lets_len]; omega
  unfold letter
  rw [List.getD_eq_getElem?_getD, List.getElem?_eq_getElem hl]; rfl
theorem letter_in {n : Nat} (h : n < 26) : letter n ∈ lets.cps.toList := by
  have hl : n < lets.cps.toList.length := by rw [lets_len]; omega
  unfold letter
  rw [List.getD_eq_getElem?_getD, List.getElem?_eq_getElem hl]
  exact List.getElem_mem hl
theorem letter_inj {n m : Nat} (hn : n < 26) (hm : m < 26) (h : letter n = letter m) : n = m := by
  have h1 : n < lets.cps.toList.length := by rw [lets_len]; omega
  have h2 : m < lets.cps.toList.length := by rw [lets_len]; omega
  unfold letter at h
  rw [List.getD_eq_getElem?_getD, List.getElem?_eq_getElem h1, List.getD_eq_getElem?_getD, List.getElem?_eq_getElem h2] at h
  exact (List.getElem_inj (h₀ := h1) (h₁ := h2) lets_nd).mp h
theorem isNm_of {cs : List Nat} (h1 : 1 ≤ cs.length) (h2 : cs.length ≤ 8) (h : ∀ c ∈ cs, c ∈ lets.cps.toList) : isNm (sOf cs) = true := by
  simp only [isNm, signsOk, sOf_len, h1, h2, decide_true, Bool.true_and, List.all_eq_true, sOf_list]
  exact fun c hc => decide_eq_true (h c hc)
def spDrawNames (K : PySem.W.Frag) : Sp := fun vs H Q _ => ∃ (a : Addr) (m : Int), vs = [.ref a, .int m] ∧ 0 ≤ m ∧ m ≤ 26 ∧ Src H a ∧ ∀ (H' : Hp) (p : Addr) (ns : List Str), Stp [a] H H' → Src H' a → H p = none → H' p = some (.lst (ns.map V.str)) → ns.length = m.toNat → (∀ n ∈ ns, isNm n = true) → ns.Nodup → Q (.ref p) H'
end
section
open PySem PySem.Spec PyProof.Rows L2
/-- what a line is to be made of, drawn: a dict of two lists and three numbers -/
structure Drawn (K : PySem.W.Frag) (H : Hp) (p pa ra : Addr) (ps : List (Str × Int)) (rs : List (Str × Str × Int)) (g s w : Int) : Prop where
  d : H p = some (.dK [(.inr "places", .ref pa), (.inr "sections", .ref ra), (.inr "gap", .int g), (.inr "stop", .int s), (.inr "away", .int w)])
  ex : ∃ xs ys, H pa = some (.lst xs) ∧ TdAll K [] H xs (placesD ps) ∧ H ra = some (.lst ys) ∧ TdAll K [] H ys (railsD rs)
  ok : LineOk ps rs g s w
theorem Drawn.keep {K : PySem.W.Frag} {A : List Addr} {H H' : Hp} {p pa ra : Addr} {ps : List (Str × Int)} {rs : List (Str × Str × Int)} {g s w : Int} (h : Drawn K H p pa ra ps rs g s w) (st : Stp A H H') (n1 : p ∉ A) (n2 : pa ∉ A) (n3 : ra ∉ A) : Drawn K H' p pa ra ps rs g s w := by
  obtain ⟨d, ⟨xs, ys, h1, t1, h2, t2⟩, ok⟩ := h
  exact ⟨st.k _ _ n1 d, ⟨xs, ys, st.k _ _ n2 h1, t1.flatMono (flat_places _) st, st.k _ _ n3 h2, t2.flatMono (flat_rails _) st⟩, ok⟩
theorem Drawn.st {K : PySem.W.Frag} {H H' : Hp} {p pa ra : Addr} {ps : List (Str × Int)} {rs : List (Str × Str × Int)} {g s w : Int} (h : Drawn K H p pa ra ps rs g s w) (st : Stp [] H H') : Drawn K H' p pa ra ps rs g s w := h.keep st (by simp) (by simp) (by simp)
def spDrawLine (K : PySem.W.Frag) : Sp := fun vs H Q _ => ∃ (a : Addr), vs = [.ref a] ∧ Src H a ∧ ∀ (H' : Hp) (p pa ra : Addr) ps rs g s w, Stp [a] H H' → Src H' a → H p = none → H pa = none → H ra = none → Drawn K H' p pa ra ps rs g s w → Q (.ref p) H'
theorem TdAll.plc {K : PySem.W.Frag} {H H' : Hp} {vs : List V} {qs : List (Str × Int)} {q : Addr} {n : Str} {m : Int} (t : TdAll K [] H vs (placesD qs)) (nq : Nw H H' q (.tup [.str n, .int m])) : TdAll K [] H' (vs ++ [.ref q]) (placesD (qs ++ [(n, m)])) := by
  unfold placesD
  rw [List.map_append]
  exact t.nw nq (es := [.str n, .int m]) (.cons (.str _) (.cons (.int _) .nil))
theorem TdAll.ral {K : PySem.W.Frag} {H H' : Hp} {vs : List V} {qs : List (Str × Str × Int)} {q : Addr} {n n' : Str} {m : Int} (t : TdAll K [] H vs (railsD qs)) (nq : Nw H H' q (.tup [.str n, .str n', .int m])) : TdAll K [] H' (vs ++ [.ref q]) (railsD (qs ++ [(n, n', m)])) := by
  unfold railsD
  rw [List.map_append]
  exact t.nw nq (es := [.str n, .str n', .int m]) (.cons (.str _) (.cons (.str _) (.cons (.int _) .nil)))
theorem strs_at {ns : List Str} {i : Nat} {z : Str} (h : ns[i]? = some z) : (ns.map V.str)[i]? = some (.str z) := by rw [List.getElem?_map, h]; rfl
theorem nw2 {H : Hp} {p : Addr} {kvs : List (Key × V)} {o' : HO} (hp : H p = none) : Nw H (upd (upd H p (.dK kvs)) p o') p o' := ⟨hp, fun _ => (Stp.new hp).putNew upd_same hp, upd_same⟩
theorem Src.has {H : Hp} {a : Addr} (s : Src H a) : ∀ b ∈ [a], H b ≠ none := fun b hb => by
  have e : b = a := by simpa using hb
  subst e
  obtain ⟨_, _, _, z⟩ := s
  rw [z]; simp
end
section
open PySem PySem.Spec PyProof.Rows L2
def spLaw (K : PySem.W.Frag) : Sp := fun vs H Q _ => ∃ (a : Addr) (ns : List Int), vs = [.ref a] ∧ SqL K H a (ns.map V.int) ∧ ns.length ≤ 63 ∧ ∀ H', Q (.bl true) H'
/-- a new instance -/
theorem Stp.made {A : List Addr} {H : Hp} {x dx C : Addr} (nx : H x = none) (nd : H dx = none) (ne : dx ≠ x) : Stp A H (upd (upd H dx (.own x)) x (.ins C dx [])) :=
  (Stp.new nd).trans (.new (by rw [upd_ne ne.symm]; exact nx))
theorem platOf_at {ps : List (Str × Int)} {i : Nat} {p : Str × Int} (nd : (ps.map (·.1)).Nodup) (h : ps[i]? = some p) : platOf ps (.str p.1) = some p.2 := by
  induction ps generalizing i with
  | nil => simp at h
  | cons q r ih =>
    rw [List.map_cons, List.nodup_cons] at nd
    unfold platOf
    cases i with
    | zero =>
      have e : q = p := by simpa using h
      rw [e, if_pos rfl]
    | succ i =>
      have h' : r[i]? = some p := by simpa using h
      rw [if_neg, ih nd.2 h']
      intro e
      exact nd.1 (List.mem_map.mpr ⟨p, List.mem_of_getElem? h', e.symm⟩)
/-- texts, as data -/
def strsD (ns : List Str) : List PyData := ns.map PyData.str
theorem td_strs {K : PySem.W.Frag} {A : List Addr} {H : Hp} : ∀ ns : List Str, TdAll K A H (ns.map V.str) (strsD ns)
  | [] => .nil
  | n :: r => .cons (.str n) (td_strs r)
theorem nodic_strs : ∀ ns : List Str, nodics (strsD ns) = true
  | [] => rfl
  | _ :: r => nodic_strs r
theorem sh_strs {ns : List Str} (h : ∀ n ∈ ns, isNm n = true) : Sh 2 (.list (strsD ns)) := sh_list fun d hd => by
  obtain ⟨z, hz, rfl⟩ := List.mem_map.mp hd
  exact sh_str (nm_ok (h z hz))
theorem Places.names {ps : List (Str × Int)} (h : Places ps) : ∀ n ∈ ps.map (·.1), isNm n = true := fun n hn => by
  obtain ⟨p, hp, rfl⟩ := List.mem_map.mp hn
  exact (h.nm p hp).1
theorem LineAt.ins {K : PySem.W.Frag} {H : Hp} {x : Addr} {ps : List (Str × Int)} {rs : List (Str × Str × Int)} {g s a : Int} (h : LineAt K H x ps rs g s a) : ∃ dx th tr, H x = some (.ins (He.ga K "Line") dx [("halts", .ref th), ("rails", .ref tr), ("gap", .int g), ("stop", .int s), ("away", .int a)]) := by
  obtain ⟨⟨dx, th, tr, _, _, hx, _⟩, _⟩ := h
  exact ⟨dx, th, tr, hx⟩
end
section
open PySem PySem.Spec PyProof.Rows L2
theorem placeD_inj {a b : Str × Int} (h : placeD a = placeD b) : a = b := by
  unfold placeD at h
  injection h with h
  injection h with h1 h
  injection h with h2 _
  injection h1 with h1
  injection h2 with h2
  exact Prod.ext h1 h2
theorem railD_inj {a b : Str × Str × Int} (h : railD a = railD b) : a = b := by
  unfold railD at h
  injection h with h
  injection h with h1 h
  injection h with h2 h
  injection h with h3 _
  injection h1 with h1
  injection h2 with h2
  injection h3 with h3
  exact Prod.ext h1 (Prod.ext h2 h3)
theorem map_inj {α β : Type} {f : α → β} (hf : ∀ {a b}, f a = f b → a = b) : ∀ {xs ys : List α}, xs.map f = ys.map f → xs = ys
  | [], [], _ => rfl
  | [], _ :: _, h => by simp at h
  | _ :: _, [], h => by simp at h
  | x :: xs, y :: ys, h => by
    rw [List.map_cons, List.map_cons] at h
    injection h with h1 h2
    rw [hf h1, map_inj hf h2]
theorem placesL_inj {a b : List (Str × Int)} (h : PyData.list (placesD a) = .list (placesD b)) : a = b := by
  injection h with h
  exact map_inj placeD_inj h
theorem railsL_inj {a b : List (Str × Str × Int)} (h : PyData.list (railsD a) = .list (railsD b)) : a = b := by
  injection h with h
  exact map_inj railD_inj h
/-- Line(..) of good parts -/
theorem lineMade {K : PySem.W.Frag} {Q : VK} {E : XK} {H : Hp} {ha hr : Addr} {xs ys : List V} {ps : List (Str × Int)} {rs : List (Str × Str × Int)} {g s w : Int} (h1 : H ha = some (.lst xs)) (t1 : TdAll K [] H xs (placesD ps)) (h2 : H hr = some (.lst ys)) (t2 : TdAll K [] H ys (railsD rs)) (ok : LineOk ps rs g s w)
    (k : ∀ H' x, Stp [] H H' → H x = none → LineAt K H' x ps rs g s w → Q (.ref x) H') :
    ∀ x dx, H x = none → H dx = none → dx ≠ x → spLineInit K [.ref x, .ref ha, .ref hr, .int g, .int s, .int w] (upd (upd H dx (.own x)) x (.ins (He.ga K "Line") dx [])) (fun v H2 => v = .non ∧ Q (.ref x) H2) E := by
  intro x dx nx nd ne
  have m : Stp [] H (upd (upd H dx (.own x)) x (.ins (He.ga K "Line") dx [])) := .made nx nd ne
  refine ⟨x, dx, _, _, _, _, _, [], .list (placesD ps), .list (railsD rs), .int g, .int s, .int w, rfl, upd_same, .lst (SqL.of (m.k _ _ (by simp) h1)) (by simp) (t1.mono m), .lst (SqL.of (m.k _ _ (by simp) h2)) (by simp) (t2.mono m), .int _, .int _, .int _,
    tx_places (fun p hp => (ok.p.nm p hp).1), tx_rails ok.r.r, fun ps' rs' g' s' a' e1 e2 e3 e4 e5 ok' H' st la => ⟨rfl, ?_⟩, fun z e => by rw [ok.bad] at e; cases e⟩
  obtain rfl := placesL_inj e1
  obtain rfl := railsL_inj e2
  injection e3 with e3
  injection e4 with e4
  injection e5 with e5
  subst e3 e4 e5
  exact k H' x (m.back st nx) nx la
end
section
open PySem PySem.Spec PyProof.Rows L2
theorem cutV_mem {xs : List V} {lo hi : Option Int} {v : V} (h : v ∈ cutV xs lo hi) : v ∈ xs := by
  unfold cutV at h
  exact List.mem_of_mem_drop (List.mem_of_mem_take h)
theorem cutV_len {xs : List V} {lo hi : Option Int} : (cutV xs lo hi).length ≤ xs.length := by
  unfold cutV
  rw [List.length_take, List.length_drop]; omega
theorem Drawn.ne {K : PySem.W.Frag} {H : Hp} {p pa ra : Addr} {ps : List (Str × Int)} {rs : List (Str × Str × Int)} {g s w : Int} (h : Drawn K H p pa ra ps rs g s w) {b : Addr} {l : List V} (hb : H b = some (.lst l)) : p ≠ b := fun e => by
  have := h.d
  rw [e, hb] at this; cases this
theorem LineAt.ne {K : PySem.W.Frag} {H : Hp} {x : Addr} {ps : List (Str × Int)} {rs : List (Str × Str × Int)} {g s a : Int} (h : LineAt K H x ps rs g s a) {b : Addr} {l : List V} (hb : H b = some (.lst l)) : x ≠ b := fun e => by
  obtain ⟨_, _, _, hx⟩ := h.ins
  rw [e, hb] at hx; cases hx
end
end Hd
namespace Hd
open PySem PySem.Spec PyProof.Rows L2
def top (i : Nat) : Stmt := PySem.Challenge.pw_haltday_k01_a_line_told.main.body.getD i (.Pass ⟨0, 0, 0, 0⟩)
abbrev s_NoLine_init : Stmt := inClass (top 3) 0
theorem sc_NoLine_init : FnScope ["self", "what"] ["self", "what"] (defScope s_NoLine_init) := ⟨rfl, rfl, rfl, by decide +kernel, rfl, by decide +kernel, by decide +kernel⟩
abbrev s_is_whole : Stmt := top 7
theorem sc_is_whole : FnScope ["thing"] ["thing"] (defScope s_is_whole) := ⟨rfl, rfl, rfl, by decide +kernel, rfl, by decide +kernel, by decide +kernel⟩
abbrev s_is_from : Stmt := top 8
theorem sc_is_from : FnScope ["thing", "low", "high"] ["thing", "low", "high"] (defScope s_is_from) := ⟨rfl, rfl, rfl, by decide +kernel, rfl, by decide +kernel, by decide +kernel⟩
abbrev s_is_name : Stmt := top 9
theorem sc_is_name : FnScope ["thing", "sign"] ["thing"] (defScope s_is_name) := ⟨rfl, rfl, rfl, by decide +kernel, rfl, by decide +kernel, by decide +kernel⟩
abbrev s_is_place : Stmt := top 16
theorem sc_is_place : FnScope ["thing"] ["thing"] (defScope s_is_place) := ⟨rfl, rfl, rfl, by decide +kernel, rfl, by decide +kernel, by decide +kernel⟩
abbrev s_are_places : Stmt := top 17
theorem sc_are_places : FnScope ["thing", "one", "name", "many"] ["thing"] (defScope s_are_places) := ⟨rfl, rfl, rfl, by decide +kernel, rfl, by decide +kernel, by decide +kernel⟩
abbrev s_is_section : Stmt := top 18
theorem sc_is_section : FnScope ["thing", "names"] ["thing", "names"] (defScope s_is_section) := ⟨rfl, rfl, rfl, by decide +kernel, rfl, by decide +kernel, by decide +kernel⟩
abbrev s_are_sections : Stmt := top 19
theorem sc_are_sections : FnScope ["thing", "names", "one"] ["thing", "names"] (defScope s_are_sections) := ⟨rfl, rfl, rfl, by decide +kernel, rfl, by decide +kernel, by decide +kernel⟩
abbrev s_Line_init : Stmt := inClass (top 21) 0
theorem sc_Line_init : FnScope ["self", "places", "sections", "gap", "stop", "away", "name", "many"] ["self", "places", "sections", "gap", "stop", "away"] (defScope s_Line_init) := ⟨rfl, rfl, rfl, by decide +kernel, rfl, by decide +kernel, by decide +kernel⟩
abbrev s_Linedd_lendd : Stmt := inClass (top 21) 1
theorem sc_Linedd_lendd : FnScope ["self"] ["self"] (defScope s_Linedd_lendd) := ⟨rfl, rfl, rfl, by decide +kernel, rfl, by decide +kernel, by decide +kernel⟩
abbrev s_Linedd_strdd : Stmt := inClass (top 21) 2
theorem sc_Linedd_strdd : FnScope ["self"] ["self"] (defScope s_Linedd_strdd) := ⟨rfl, rfl, rfl, by decide +kernel, rfl, by decide +kernel, by decide +kernel⟩
abbrev s_Line_names : Stmt := inClass (top 21) 4
theorem sc_Line_names : FnScope ["self", "name", "many"] ["self"] (defScope s_Line_names) := ⟨rfl, rfl, rfl, by decide +kernel, rfl, by decide +kernel, by decide +kernel⟩
abbrev s_Line_platforms : Stmt := inClass (top 21) 5
theorem sc_Line_platforms : FnScope ["self", "place", "name", "many"] ["self", "place"] (defScope s_Line_platforms) := ⟨rfl, rfl, rfl, by decide +kernel, rfl, by decide +kernel, by decide +kernel⟩
abbrev s_Line_tracks : Stmt := inClass (top 21) 6
theorem sc_Line_tracks : FnScope ["self"] ["self"] (defScope s_Line_tracks) := ⟨rfl, rfl, rfl, by decide +kernel, rfl, by decide +kernel, by decide +kernel⟩
abbrev s__law_mixed : Stmt := top 23
theorem sc__law_mixed : FnScope ["_law_cell", "_law_k", "_law_number"] ["_law_cell", "_law_k"] (defScope s__law_mixed) := ⟨rfl, rfl, rfl, by decide +kernel, rfl, by decide +kernel, by decide +kernel⟩
abbrev s__law_source : Stmt := top 24
theorem sc__law_source : FnScope ["_law_cell"] ["_law_cell"] (defScope s__law_source) := ⟨rfl, rfl, rfl, by decide +kernel, rfl, by decide +kernel, by decide +kernel⟩
abbrev s__law_take : Stmt := top 25
theorem sc__law_take : FnScope ["_law_source_here", "_law_many", "_law_found"] ["_law_source_here", "_law_many"] (defScope s__law_take) := ⟨rfl, rfl, rfl, by decide +kernel, rfl, by decide +kernel, by decide +kernel⟩
abbrev s__law_names : Stmt := top 26
theorem sc__law_names : FnScope ["_law_source_here", "_law_many", "_law_letters", "_law_start", "_law_stem", "_law_k", "_law_at", "_law_names_here", "_law_word"] ["_law_source_here", "_law_many"] (defScope s__law_names) := ⟨rfl, rfl, rfl, by decide +kernel, rfl, by decide +kernel, by decide +kernel⟩
abbrev s__law_line_of : Stmt := top 27
theorem sc__law_line_of : FnScope ["_law_source_here", "_law_names_here", "_law_halts", "_law_name", "_law_rails", "_law_k", "_law_one", "_law_far", "_law_minutes", "_law_found"] ["_law_source_here"] (defScope s__law_line_of) := ⟨rfl, rfl, rfl, by decide +kernel, rfl, by decide +kernel, by decide +kernel⟩
abbrev s__law_whole : Stmt := top 28
theorem sc__law_whole : FnScope ["_law_found"] ["_law_found"] (defScope s__law_whole) := ⟨rfl, rfl, rfl, by decide +kernel, rfl, by decide +kernel, by decide +kernel⟩
abbrev s__law_right : Stmt := top 29
theorem sc__law_right : FnScope ["_law_line", "_law_drawn", "_law_names_here", "_law_name", "_law_many", "_law_told", "_law_fields", "_law_field", "_law_words"] ["_law_line", "_law_drawn"] (defScope s__law_right) := ⟨rfl, rfl, rfl, by decide +kernel, rfl, by decide +kernel, by decide +kernel⟩
abbrev s__law_made : Stmt := top 30
theorem sc__law_made : FnScope ["_law_way", "_law_drawn", "_law_halts", "_law_rails", "_law_free", "_law_stand", "_law_off"] ["_law_way", "_law_drawn", "_law_halts", "_law_rails"] (defScope s__law_made) := ⟨rfl, rfl, rfl, by decide +kernel, rfl, by decide +kernel, by decide +kernel⟩
abbrev s_law : Stmt := top 31
theorem sc_law : FnScope ["_law_script", "_law_known", "_law_cell", "_law_source_here", "_law_way", "_law_drawn", "_law_handed", "_law_line", "_law_told", "_law_due"] ["_law_script"] (defScope s_law) := ⟨rfl, rfl, rfl, by decide +kernel, rfl, by decide +kernel, by decide +kernel⟩
structure Txt (K : PySem.W.Frag) (mg : Str → Option Value) : Prop where
  g__wall : mg "_wall" = some (.ref (He.ga K "_wall"))
  g_HaltError : mg "HaltError" = some (.ref (He.ga K "HaltError"))
  g_NoLine : mg "NoLine" = some (.ref (He.ga K "NoLine"))
  g_is_whole : mg "is_whole" = some (.ref (He.ga K "is_whole"))
  g_is_from : mg "is_from" = some (.ref (He.ga K "is_from"))
  g_is_name : mg "is_name" = some (.ref (He.ga K "is_name"))
  g_is_place : mg "is_place" = some (.ref (He.ga K "is_place"))
  g_are_places : mg "are_places" = some (.ref (He.ga K "are_places"))
  g_is_section : mg "is_section" = some (.ref (He.ga K "is_section"))
  g_are_sections : mg "are_sections" = some (.ref (He.ga K "are_sections"))
  g_far_end : mg "far_end" = some (.ref (He.ga K "far_end"))
  g_Line : mg "Line" = some (.ref (He.ga K "Line"))
  g__law_mixed : mg "_law_mixed" = some (.ref (He.ga K "_law_mixed"))
  g__law_source : mg "_law_source" = some (.ref (He.ga K "_law_source"))
  g__law_take : mg "_law_take" = some (.ref (He.ga K "_law_take"))
  g__law_names : mg "_law_names" = some (.ref (He.ga K "_law_names"))
  g__law_line_of : mg "_law_line_of" = some (.ref (He.ga K "_law_line_of"))
  g__law_whole : mg "_law_whole" = some (.ref (He.ga K "_law_whole"))
  g__law_right : mg "_law_right" = some (.ref (He.ga K "_law_right"))
  g__law_made : mg "_law_made" = some (.ref (He.ga K "_law_made"))
  g_law : mg "law" = some (.ref (He.ga K "law"))
  f_all : mg "all" = none
  f_bool : mg "bool" = none
  f_int : mg "int" = none
  f_isinstance : mg "isinstance" = none
  f_len : mg "len" = none
  f_list : mg "list" = none
  f_range : mg "range" = none
  f_str : mg "str" = none
  f_tuple : mg "tuple" = none
  c_LETTERS : ∃ t, mg "LETTERS" = some (.str "abcdefghijklmnopqrstuvwxyz" t)
  c_MOST_LETTERS : ∃ t, mg "MOST_LETTERS" = some (.int 8 t)
  c_MOST_PLACES : ∃ t, mg "MOST_PLACES" = some (.int 8 t)
  c_MOST_PLATFORMS : ∃ t, mg "MOST_PLATFORMS" = some (.int 3 t)
  c_MOST_SECTIONS : ∃ t, mg "MOST_SECTIONS" = some (.int 12 t)
  c_MOST_MINUTES : ∃ t, mg "MOST_MINUTES" = some (.int 99 t)
  c_MOST_GAP : ∃ t, mg "MOST_GAP" = some (.int 9 t)
  cl_Line : Cls K (He.ga K "Line")
  mk_Line : Mk K (He.ga K "Line") (He.ma K (He.ga K "Line") "__init__")
  m_Line___len__ : Meth K (He.ga K "Line") "__len__" (He.ma K (He.ga K "Line") "__len__")
  m_Line___str__ : Meth K (He.ga K "Line") "__str__" (He.ma K (He.ga K "Line") "__str__")
  m_Line___eq__ : Meth K (He.ga K "Line") "__eq__" (He.ma K (He.ga K "Line") "__eq__")
  m_Line_names : Meth K (He.ga K "Line") "names" (He.ma K (He.ga K "Line") "names")
  m_Line_platforms : Meth K (He.ga K "Line") "platforms" (He.ma K (He.ga K "Line") "platforms")
  m_Line_tracks : Meth K (He.ga K "Line") "tracks" (He.ma K (He.ga K "Line") "tracks")
  m_Line_section : Meth K (He.ga K "Line") "section" (He.ma K (He.ga K "Line") "section")
  m_Line_between : Meth K (He.ga K "Line") "between" (He.ma K (He.ga K "Line") "between")
  m_Line_pieces : Meth K (He.ga K "Line") "pieces" (He.ma K (He.ga K "Line") "pieces")
  m_Line_ways_from : Meth K (He.ga K "Line") "ways_from" (He.ma K (He.ga K "Line") "ways_from")
  m_Line_least : Meth K (He.ga K "Line") "least" (He.ma K (He.ga K "Line") "least")
  n_Line_away : NoAttr K (He.ga K "Line") "away"
  n_Line_gap : NoAttr K (He.ga K "Line") "gap"
  n_Line_halts : NoAttr K (He.ga K "Line") "halts"
  n_Line_rails : NoAttr K (He.ga K "Line") "rails"
  n_Line_stop : NoAttr K (He.ga K "Line") "stop"
  be_HaltError : BaseErr K (He.ga K "HaltError")
  e_NoLine : ErrC K (He.ga K "NoLine") "what"
theorem ok_NoLine_init {P : Program} {w : World} {K : PySem.W.Frag} {mg : Str → Option Value} {base : Heap} {fd : FuncData} (T : Txt K mg) (F : FunD K "__init__" "NoLine.__init__" (defArgs s_NoLine_init) (defBody s_NoLine_init) (defScope s_NoLine_init) [] [] (He.ma K (He.ga K "NoLine") "__init__") fd)
     : FnOk P w K mg base (L2.CX P w) 1 (He.ma K (He.ga K "NoLine") "__init__") fd ["self", "what"] (spErr (He.ga K "NoLine") "what") := by
  refine FunD.ok F sc_NoLine_init (fun vs H Q E h => ?_) (fun cdv A outer s H vs Q E hr h => ?_)
  · obtain ⟨e, v, rfl, he, k⟩ := h
    rfl
  · obtain ⟨e, v, rfl, he, k⟩ := h
    refine ⟨_, (PSs.nox (pss_cons (ps_expr (pe_hinit (by rfl) T.g_HaltError T.be_HaltError (pa_cons (pv 0) (pa_cons pe_str pa_nil))))
      (pss_one (ps_ost (pv 0) (pv 1))))), ?_⟩
    try simp only [kx1, kx2, kx3, kx4, kx5]
    refine ⟨_, rfl, e, _, [_], rfl, (by show 1 ≤ 1000; decide), T.e_NoLine.oex, he, ?_⟩
    exact ⟨_, rfl, _, rfl, e, _, rfl, T.e_NoLine.oex, T.e_NoLine.no, .inl ⟨he, fun dx hd ne => k dx hd ne⟩⟩
theorem ok_is_whole {P : Program} {w : World} {K : PySem.W.Frag} {mg : Str → Option Value} {base : Heap} {fd : FuncData} (T : Txt K mg) (F : FunD K "is_whole" "is_whole" (defArgs s_is_whole) (defBody s_is_whole) (defScope s_is_whole) [] [] (He.ga K "is_whole") fd)
     : FnOk P w K mg base (L2.CX P w) 1 (He.ga K "is_whole") fd ["thing"] (spWhole K) := by
  refine FunD.ok F sc_is_whole (fun vs H Q E h => ?_) (fun cdv A outer s H vs Q E hr h => ?_)
  · obtain ⟨v, A0, d, rfl, td, k⟩ := h
    rfl
  · obtain ⟨v, A0, d, rfl, td, k⟩ := h
    refine ⟨_, (PSs.nox (pss_one (ps_ret (pe_and (pe_callB (call_isD (T := "int") (by decide)) (by rfl) T.f_isinstance (by decide +kernel) (pa_cons (pv 0) (pa_cons (pe_bltn (v := .ty "int") (by rfl) T.f_int (by decide +kernel) rfl) pa_nil))) (pe_one (pe_not (pe_callB (call_isD (T := "bool") (by decide)) (by rfl) T.f_isinstance (by decide +kernel) (pa_cons (pv 0) (pa_cons (pe_bltn (v := .ty "bool") (by rfl) T.f_bool (by decide +kernel) rfl) pa_nil))))))))), ?_⟩
    try simp only [kx1, kx2, kx3, kx4, kx5]
    refine ⟨_, rfl, _, A0, d, rfl, td, _, rfl, ?_⟩
    cases d with
    | int i => exact iteT ⟨_, rfl, _, A0, _, rfl, td, _, rfl, k⟩
    | bool b => exact iteT ⟨_, rfl, _, A0, _, rfl, td, _, rfl, k⟩
    | _ => exact iteF k
theorem ok_is_from {P : Program} {w : World} {K : PySem.W.Frag} {mg : Str → Option Value} {base : Heap} {fd : FuncData} (T : Txt K mg) (F : FunD K "is_from" "is_from" (defArgs s_is_from) (defBody s_is_from) (defScope s_is_from) [] [] (He.ga K "is_from") fd)
    (C_is_whole : Cal P w K mg base 1 (He.ga K "is_whole") ["thing"] (spWhole K)) : FnOk P w K mg base (L2.CX P w) 2 (He.ga K "is_from") fd ["thing", "low", "high"] (spFrom K) := by
  refine FunD.ok F sc_is_from (fun vs H Q E h => ?_) (fun cdv A outer s H vs Q E hr h => ?_)
  · obtain ⟨v, A0, d, lo, hi, rfl, td, k⟩ := h
    rfl
  · obtain ⟨v, A0, d, lo, hi, rfl, td, k⟩ := h
    refine ⟨_, (PSs.nox (pss_one (ps_ret (pe_and (pe_cal C_is_whole (hr.mono (by decide)) (by rfl) T.g_is_whole pL (pa_cons (pv 0) pa_nil)) (pe_one (pe_chain op_le op_le (pv 1) (pv 0) (pv 2))))))), ?_⟩
    try simp only [kx1, kx2, kx3, kx4, kx5]
    refine ⟨_, rfl, _, A0, d, rfl, td, _, rfl, ?_⟩
    cases d with
    | int i =>
      cases td
      refine iteT ⟨_, rfl, _, rfl, _, _, rfl, rfl, _, rfl, ?_⟩
      by_cases h : lo ≤ i
      · rw [show decide (lo ≤ i) = true from decide_eq_true h]
        refine iteT ⟨_, rfl, _, _, rfl, rfl, ?_⟩
        have e : isFrom (.int i) lo hi = decide (i ≤ hi) := by simp [isFrom, h]
        rw [e] at k
        exact k
      · rw [show decide (lo ≤ i) = false from decide_eq_false h]
        have e : isFrom (.int i) lo hi = false := by simp [isFrom, h]
        rw [e] at k
        exact iteF k
    | _ => exact iteF k
theorem ok_is_name {P : Program} {w : World} {K : PySem.W.Frag} {mg : Str → Option Value} {base : Heap} {fd : FuncData} (T : Txt K mg) (F : FunD K "is_name" "is_name" (defArgs s_is_name) (defBody s_is_name) (defScope s_is_name) [] [] (He.ga K "is_name") fd)
     : FnOk P w K mg base (L2.CX P w) 1 (He.ga K "is_name") fd ["thing"] (spName K) := by
  refine FunD.ok F sc_is_name (fun vs H Q E h => ?_) (fun cdv A outer s H vs Q E hr h => ?_)
  · obtain ⟨v, A0, d, rfl, td, tx, k⟩ := h
    rfl
  · obtain ⟨v, A0, d, rfl, td, tx, k⟩ := h
    refine ⟨_, (PSs.nox (pss_cons (ps_if (PW.pt (pw_or (pt_not (pt_val (pe_callB (call_isD (T := "str") (by decide)) (by rfl) T.f_isinstance (by decide +kernel) (pa_cons (pv 0) (pa_cons (pe_bltn (v := .ty "str") (by rfl) T.f_str (by decide +kernel) rfl) pa_nil))))) (pw_or1 (pt_not (pt_chain op_le op_le pe_int (pe_callB call_len_str (by rfl) T.f_len (by decide +kernel) (pa_cons (pv 0) pa_nil)) (pe_gint (by rfl) T.c_MOST_LETTERS)))))) (pss_one (ps_ret pe_bl)) pss_nil)
      (pss_one (ps_ret (pe_callB (cr_all rfl) (by rfl) T.f_all (by decide +kernel) (pa_cons (pe_lcD (own := [("sign", 1)]) (by rfl) sc_is_name.nd (pi_str (pv 0)) (blkOk_by (own := [("sign", 1)]) (N := ["thing", "sign"]) (sc := defScope s_is_name) (by decide +kernel)) (fun _ _ _ _ _ => (pg_name (i := 1) sc_is_name.nd rfl (by first | exact Or.inl rfl | exact Or.inr rfl))) (fun _ _ _ _ _ => pts_nil) (fun _ _ _ _ _ => (pe_cmpR op_in_sign (pv 1) (pe_gstr (by rfl) T.c_LETTERS) (by with_unfolding_all rfl)))) pa_nil)))))), ?_⟩
    try simp only [kx1, kx2, kx3, kx4, kx5]
    refine ⟨_, rfl, _, A0, d, rfl, td, _, rfl, ?_⟩
    have k0 := k H (.refl H)
    cases e : isT "str" d with
    | false =>
      have e2 : isName d = false := by cases d with
        | str z => cases e
        | _ => rfl
      rw [e2] at k0
      exact iteT k0
    | true =>
      obtain ⟨z, rfl⟩ := isT_str e
      cases td
      have hz : z.length ≤ sizeLine := of_decide_eq_true tx
      refine iteF ⟨_, rfl, z, rfl, hz, _, _, rfl, rfl, _, rfl, ?_⟩
      by_cases h1 : (1 : Int) ≤ z.length
      · rw [show decide ((1 : Int) ≤ z.length) = true from decide_eq_true h1]
        refine iteT ⟨_, _, rfl, rfl, _, rfl, ?_⟩
        by_cases h2 : (z.length : Int) ≤ 8
        · rw [show decide ((z.length : Int) ≤ 8) = true from decide_eq_true h2]
          refine iteF ⟨_, rfl, z, rfl, fun D hD => lcS (D := D) [] hD (by simp) (by show z.length ≤ _; exact hz) (fun i acc H' => acc = ((z.cps.toList.take i).map fun c => V.bl (decide (c ∈ lets.cps.toList)))) (fun H' _ => rfl) (fun i c acc H' Nx hc p st hDD pu sk => ?_) (fun acc H' p st hDD => ?_)⟩
          · refine ⟨rfl, _, rfl, c, lets, rfl, rfl, pu _ _ (.refl _) fun H'' _ _ => ?_⟩
            rw [p, take_at hc, List.map_append]; rfl
          · refine ⟨D, (z.cps.toList.map fun c => decide (c ∈ lets.cps.toList)), rfl, SqL.of (by rw [hDD, p, List.take_of_length_le (by simp), List.map_map]; rfl), ?_⟩
            have k1 := k H' st
            have e3 : isName (.str z) = (z.cps.toList.map fun c => decide (c ∈ lets.cps.toList)).all id := by
              have h1' : 1 ≤ z.length := by omega
              have h2' : z.length ≤ 8 := by omega
              simp only [isName, isNm, h1', h2', decide_true, Bool.true_and, signsOk, List.all_map]
              rfl
            rw [e3] at k1
            exact k1
        · rw [show decide ((z.length : Int) ≤ 8) = false from decide_eq_false h2]
          have e2 : isName (.str z) = false := by
            have h2' : ¬ z.length ≤ 8 := by omega
            simp [isName, isNm, h2']
          rw [e2] at k0
          exact iteT k0
      · rw [show decide ((1 : Int) ≤ z.length) = false from decide_eq_false h1]
        have e2 : isName (.str z) = false := by
          have h1' : ¬ 1 ≤ z.length := by omega
          simp [isName, isNm, h1']
        rw [e2] at k0
        exact iteF ⟨_, rfl, iteT k0⟩
theorem ok_is_place {P : Program} {w : World} {K : PySem.W.Frag} {mg : Str → Option Value} {base : Heap} {fd : FuncData} (T : Txt K mg) (F : FunD K "is_place" "is_place" (defArgs s_is_place) (defBody s_is_place) (defScope s_is_place) [] [] (He.ga K "is_place") fd)
    (C_is_from : Cal P w K mg base 2 (He.ga K "is_from") ["thing", "low", "high"] (spFrom K))
    (C_is_name : Cal P w K mg base 1 (He.ga K "is_name") ["thing"] (spName K)) : FnOk P w K mg base (L2.CX P w) 3 (He.ga K "is_place") fd ["thing"] (spPlace K) := by
  refine FunD.ok F sc_is_place (fun vs H Q E h => ?_) (fun cdv A outer s H vs Q E hr h => ?_)
  · obtain ⟨v, A0, d, rfl, td, tx, k⟩ := h
    rfl
  · obtain ⟨v, A0, d, rfl, td, tx, k⟩ := h
    refine ⟨_, (PSs.nox (pss_cons (ps_if (PW.pt (pw_or (pt_not (pt_val (pe_callB (call_isD (T := "tuple") (by decide)) (by rfl) T.f_isinstance (by decide +kernel) (pa_cons (pv 0) (pa_cons (pe_bltn (v := .ty "tuple") (by rfl) T.f_tuple (by decide +kernel) rfl) pa_nil))))) (pw_or1 (pt_cmpR op_ne (pe_callB call_len_seq (by rfl) T.f_len (by decide +kernel) (pa_cons (pv 0) pa_nil)) pe_int (nomark _))))) (pss_one (ps_ret pe_bl)) pss_nil)
      (pss_one (ps_ret (pe_and (pe_cal C_is_name (hr.mono (by decide)) (by rfl) T.g_is_name pL (pa_cons (pe_ix ix_tup (pv 0) pe_int (fun _ _ => rfl)) pa_nil)) (pe_one (pe_cal C_is_from (hr.mono (by decide)) (by rfl) T.g_is_from pL (pa_cons (pe_ix ix_tup (pv 0) pe_int (fun _ _ => rfl)) (pa_cons pe_int (pa_cons (pe_gint (by rfl) T.c_MOST_PLATFORMS) pa_nil)))))))))), ?_⟩
    try simp only [kx1, kx2, kx3, kx4, kx5]
    refine ⟨_, rfl, _, A0, d, rfl, td, _, rfl, ?_⟩
    have k0 := k H (.refl H)
    cases e : isT "tuple" d with
    | false =>
      have e2 : isPlace d = false := by cases d with
        | tuple z => cases e
        | _ => rfl
      rw [e2] at k0
      exact iteT k0
    | true =>
      obtain ⟨ds, rfl⟩ := isT_tuple e
      cases td with
      | @tup a xs _ sq ta =>
        have hl := ta.len
        refine iteF ⟨_, rfl, a, xs, rfl, .inr sq, rfl, _, rfl, ?_⟩
        by_cases h2 : ds.length = 2
        · refine if_false_of (by simp [hl, h2]) ?_
          obtain ⟨d1, d2, rfl⟩ : ∃ d1 d2, ds = [d1, d2] := by
            match ds, h2 with
            | [d1, d2], _ => exact ⟨d1, d2, rfl⟩
          cases ta with
          | @cons v1 _ _ _ t1 ta =>
            cases ta with
            | @cons v2 _ _ _ t2 ta =>
              cases ta
              have tx1 : txD d1 = true := txDs_get (i := 0) (show txDs [d1, d2] = true from tx) rfl
              refine ⟨_, rfl, a, _, _, v1, rfl, rfl, sq, rfl, v1, A0, d1, rfl, t1, tx1, fun H1 st => ⟨_, rfl, ?_⟩⟩
              cases e1 : isName d1 with
              | false =>
                have k1 := k H1 st
                rw [show isPlace (.tuple [d1, d2]) = false by simp [isPlace, e1]] at k1
                exact iteF k1
              | true =>
                refine iteT ⟨_, rfl, a, _, _, v2, rfl, rfl, st.sqT sq, rfl, v2, A0, d2, 1, 3, rfl, t2.mono st.of_nil, ?_⟩
                have k1 := k H1 st
                rw [show isPlace (.tuple [d1, d2]) = isFrom d2 1 3 by simp [isPlace, e1]] at k1
                exact k1
        · refine if_true_of (by simp [hl]; omega) ?_
          rw [show isPlace (.tuple ds) = false by
            match ds, h2 with
            | [], _ => rfl
            | [_], _ => rfl
            | [_, _], h => exact absurd rfl h
            | _ :: _ :: _ :: _, _ => rfl] at k0
          exact k0
theorem ok_are_places {P : Program} {w : World} {K : PySem.W.Frag} {mg : Str → Option Value} {base : Heap} {fd : FuncData} (T : Txt K mg) (F : FunD K "are_places" "are_places" (defArgs s_are_places) (defBody s_are_places) (defScope s_are_places) [] [] (He.ga K "are_places") fd)
    (C_is_place : Cal P w K mg base 3 (He.ga K "is_place") ["thing"] (spPlace K)) : FnOk P w K mg base (L2.CX P w) 4 (He.ga K "are_places") fd ["thing"] (spPlaces K) := by
  refine FunD.ok F sc_are_places (fun vs H Q E h => ?_) (fun cdv A outer s H vs Q E hr h => ?_)
  · obtain ⟨v, A0, d, rfl, td, tx, k⟩ := h
    rfl
  · obtain ⟨v, A0, d, rfl, td, tx, k⟩ := h
    refine ⟨_, (PSs.nox (pss_cons (ps_if (PW.pt (pw_or (pt_not (pt_val (pe_callB (call_isD (T := "list") (by decide)) (by rfl) T.f_isinstance (by decide +kernel) (pa_cons (pv 0) (pa_cons (pe_bltn (v := .ty "list") (by rfl) T.f_list (by decide +kernel) rfl) pa_nil))))) (pw_or (pt_not (pt_chain op_le op_le pe_int (pe_callB call_len_seq (by rfl) T.f_len (by decide +kernel) (pa_cons (pv 0) pa_nil)) (pe_gint (by rfl) T.c_MOST_PLACES))) (pw_or1 (pt_not (pt_val (pe_callB (cr_all rfl) (by rfl) T.f_all (by decide +kernel) (pa_cons (pe_lcD (own := [("one", 1)]) (by rfl) sc_are_places.nd (pi_list (pv 0)) (blkOk_by (own := [("one", 1)]) (N := ["thing", "one", "name", "many"]) (sc := defScope s_are_places) (by decide +kernel)) (fun _ _ _ _ _ => (pg_name (i := 1) sc_are_places.nd rfl (by first | exact Or.inl rfl | exact Or.inr rfl))) (fun _ _ _ _ _ => pts_nil) (fun _ _ _ _ _ => (pe_cal C_is_place (hr.mono (by decide)) (by rfl) T.g_is_place pL (pa_cons (pv 1) pa_nil)))) pa_nil)))))))) (pss_one (ps_ret pe_bl)) pss_nil)
      (pss_one (ps_ret (pe_cmpR op_eq (pe_callB call_lenSk (by rfl) T.f_len (by decide +kernel) (pa_cons (pe_skD (own := [("name", 2), ("many", 3)]) (by rfl) sc_are_places.nd (pi_list (pv 0)) (blkOk_by (own := [("name", 2), ("many", 3)]) (N := ["thing", "one", "name", "many"]) (sc := defScope s_are_places) (by decide +kernel)) (fun _ _ _ _ _ => (pg_tup (n := 2) (by rfl) (pgs_cons (pg_name (i := 2) sc_are_places.nd rfl (by first | exact Or.inl rfl | exact Or.inr rfl)) (pgs_cons (pg_name (i := 3) sc_are_places.nd rfl (by first | exact Or.inl rfl | exact Or.inr rfl)) pgs_nil)))) (fun _ _ _ _ _ => pts_nil) (fun _ _ _ _ _ => (pv 2))) pa_nil)) (pe_callB call_len_seq (by rfl) T.f_len (by decide +kernel) (pa_cons (pv 0) pa_nil)) (nomark _)))))), ?_⟩
    try simp only [kx1, kx2, kx3, kx4, kx5]
    refine ⟨_, rfl, _, A0, d, rfl, td, _, rfl, ?_⟩
    have k0 := k H (.refl H)
    cases e : isT "list" d with
    | false =>
      have e2 : arePlaces d = false := by cases d with
        | list z => cases e
        | _ => rfl
      rw [e2] at k0
      exact iteT k0
    | true =>
      obtain ⟨ds, rfl⟩ := isT_list e
      cases td with
      | @lst a xs _ sq nA ta =>
        have hl := ta.len
        refine iteF ⟨_, rfl, a, xs, rfl, .inl sq, _, _, rfl, rfl, _, rfl, ?_⟩
        by_cases h1 : (1 : Int) ≤ xs.length
        · rw [show decide ((1 : Int) ≤ xs.length) = true from decide_eq_true h1]
          refine iteT ⟨_, _, rfl, rfl, _, rfl, ?_⟩
          by_cases h2 : (xs.length : Int) ≤ 8
          · rw [show decide ((xs.length : Int) ≤ 8) = true from decide_eq_true h2]
            have l1 : 1 ≤ ds.length := by omega
            have l8 : ds.length ≤ 8 := by omega
            refine iteF ⟨_, rfl, a, rfl, ⟨xs, sq⟩, fun D hD => lcL (D := D) (a := a) (xs := xs) [] hD (by simp) (by rw [sizeLine_eq]; omega) (fun i acc H' => acc = ((ds.take i).map fun x => V.bl (isPlace x))) (fun H' _ => rfl) (fun i acc H' _ st => st.sqL sq (by simp)) (fun i x acc H' Nx hx p st hDD pu sk => ?_) (fun acc H' p st hDD => ?_)⟩
            · obtain ⟨di, hdi, tdi⟩ := ta.get hx
              refine ⟨rfl, _, rfl, x, A0, di, rfl, tdi.mono st.of_nil, txDs_get (show txDs ds = true from tx) hdi, fun H4 st4 => pu _ _ st4 fun H'' _ _ => ?_⟩
              rw [p, take_at hdi, List.map_append]; rfl
            · refine ⟨D, ds.map isPlace, rfl, SqL.of (by rw [hDD, p, hl, List.take_length, List.map_map]; rfl), _, rfl, ?_⟩
              have k1 := k H' st
              have ea : (ds.map isPlace).all id = ds.all isPlace := by rw [List.all_map]; rfl
              rw [ea]
              cases e3 : ds.all isPlace with
              | false =>
                rw [show arePlaces (.list ds) = false by simp [arePlaces, e3]] at k1
                exact iteT k1
              | true =>
                obtain ⟨ps, rfl, hps⟩ := allPlace_inv e3
                have sq' := st.sqL sq (by simp)
                have ta' := ta.mono (st.of_nil (A := A0))
                have hlp : xs.length = ps.length := by rw [hl]; simp [placesD]
                refine iteF ⟨_, rfl, a, rfl, ⟨xs, sq'⟩, fun G hG => skL (P := P) (w := w) (D := G) (a := a) (xs := xs) [] hG (by simp) (Nat.lt_of_le_of_lt (show xs.length ≤ 8 by omega) (by decide)) (fun i ks H2 => ks = ((ps.take i).map fun p => (Sum.inr p.1 : Key)).reverse) (fun H2 _ => rfl) (fun i acc H2 _ st => st.sqL sq' (by simp)) (fun i x ks H2 Nx hx p st2 hGG ad => ?_) (fun ks H2 p st2 hGG => ?_)⟩
                · obtain ⟨pl, q, hp, rfl, sqp⟩ := at_place (ta'.mono st2.of_nil) hx
                  refine ⟨q, _, rfl, sqp, rfl, _, _, rfl, _, _, rfl, rfl, rfl, _, rfl, ?_⟩
                  refine ad (.inr pl.1) _ (.refl _) fun H'' _ _ => ?_
                  rw [p, take_at hp, List.map_append, List.reverse_append]; rfl
                · have k2 := k H2 (st.trans st2)
                  refine ⟨G, _, _, rfl, hGG, _, rfl, a, xs, rfl, .inl (st2.sqL sq' (by simp)), rfl, ?_⟩
                  have e4 : arePlaces (.list (placesD ps)) = decide (V.int (cntR ks) = V.int xs.length) := by
                    have hk : ks.length = ps.length := by rw [p, hlp, List.take_length]; simp
                    have hn := cntR_nodup ks
                    have hnd : ks.Nodup ↔ (ps.map (·.1)).Nodup := by
                      rw [p, hlp, List.take_length, nodup_rev, ← nodup_inr, List.map_map]
                      exact Iff.rfl
                    simp only [arePlaces, e3, Bool.true_and, fst_places]
                    rw [decide_eq_true l1, decide_eq_true l8, Bool.true_and, Bool.true_and]
                    rw [decide_eq_decide, ← hnd, ← hn, hk, ← hlp]
                    simp only [V.int.injEq]
                    omega
                  rw [e4] at k2
                  exact k2
          · rw [show decide ((xs.length : Int) ≤ 8) = false from decide_eq_false h2]
            rw [show arePlaces (.list ds) = false by
              have h2' : ¬ ds.length ≤ 8 := by omega
              simp [arePlaces, h2']] at k0
            exact iteT k0
        · rw [show decide ((1 : Int) ≤ xs.length) = false from decide_eq_false h1]
          rw [show arePlaces (.list ds) = false by
            have h1' : ¬ 1 ≤ ds.length := by omega
            simp [arePlaces, h1']] at k0
          exact iteF ⟨_, rfl, iteT k0⟩
theorem ok_is_section {P : Program} {w : World} {K : PySem.W.Frag} {mg : Str → Option Value} {base : Heap} {fd : FuncData} (T : Txt K mg) (F : FunD K "is_section" "is_section" (defArgs s_is_section) (defBody s_is_section) (defScope s_is_section) [] [] (He.ga K "is_section") fd)
    (C_is_from : Cal P w K mg base 2 (He.ga K "is_from") ["thing", "low", "high"] (spFrom K))
    (C_is_name : Cal P w K mg base 1 (He.ga K "is_name") ["thing"] (spName K)) : FnOk P w K mg base (L2.CX P w) 3 (He.ga K "is_section") fd ["thing", "names"] (spSection K) := by
  refine FunD.ok F sc_is_section (fun vs H Q E h => ?_) (fun cdv A outer s H vs Q E hr h => ?_)
  · obtain ⟨v, A0, d, n, ns, rfl, td, tx, sn, k⟩ := h
    rfl
  · obtain ⟨v, A0, d, n, ns, rfl, td, tx, sn, k⟩ := h
    refine ⟨_, (PSs.nox (pss_cons (ps_if (PW.pt (pw_or (pt_not (pt_val (pe_callB (call_isD (T := "tuple") (by decide)) (by rfl) T.f_isinstance (by decide +kernel) (pa_cons (pv 0) (pa_cons (pe_bltn (v := .ty "tuple") (by rfl) T.f_tuple (by decide +kernel) rfl) pa_nil))))) (pw_or (pt_cmpR op_ne (pe_callB call_len_seq (by rfl) T.f_len (by decide +kernel) (pa_cons (pv 0) pa_nil)) pe_int (nomark _)) (pw_or (pt_not (pt_val (pe_cal C_is_name (hr.mono (by decide)) (by rfl) T.g_is_name pL (pa_cons (pe_ix ix_tup (pv 0) pe_int (fun _ _ => rfl)) pa_nil)))) (pw_or1 (pt_not (pt_val (pe_cal C_is_name (hr.mono (by decide)) (by rfl) T.g_is_name pL (pa_cons (pe_ix ix_tup (pv 0) pe_int (fun _ _ => rfl)) pa_nil))))))))) (pss_one (ps_ret pe_bl)) pss_nil)
      (pss_cons (ps_if (PW.pt (pw_or (pt_cmpR op_eq (pe_ix ix_tup (pv 0) pe_int (fun _ _ => rfl)) (pe_ix ix_tup (pv 0) pe_int (fun _ _ => rfl)) (nomark _)) (pw_or (pt_cmpR op_notIn_seq (pe_ix ix_tup (pv 0) pe_int (fun _ _ => rfl)) (pv 1) (by with_unfolding_all rfl)) (pw_or1 (pt_cmpR op_notIn_seq (pe_ix ix_tup (pv 0) pe_int (fun _ _ => rfl)) (pv 1) (by with_unfolding_all rfl)))))) (pss_one (ps_ret pe_bl)) pss_nil)
      (pss_one (ps_ret (pe_cal C_is_from (hr.mono (by decide)) (by rfl) T.g_is_from pL (pa_cons (pe_ix ix_tup (pv 0) pe_int (fun _ _ => rfl)) (pa_cons pe_int (pa_cons (pe_gint (by rfl) T.c_MOST_MINUTES) pa_nil))))))))), ?_⟩
    try simp only [kx1, kx2, kx3, kx4, kx5]
    refine ⟨_, rfl, _, A0, d, rfl, td, _, rfl, ?_⟩
    have k0 := k H (.refl H)
    cases e : isT "tuple" d with
    | false =>
      have e2 : isSection ns d = false := by cases d with
        | tuple z => cases e
        | _ => rfl
      rw [e2] at k0
      exact iteT k0
    | true =>
      obtain ⟨ds, rfl⟩ := isT_tuple e
      cases td with
      | @tup a xs _ sq ta =>
        have hl := ta.len
        refine iteF ⟨_, rfl, a, xs, rfl, .inr sq, rfl, _, rfl, ?_⟩
        by_cases h3 : ds.length = 3
        · refine if_false_of (by simp [hl, h3]) ?_
          obtain ⟨d1, d2, d3, rfl⟩ : ∃ d1 d2 d3, ds = [d1, d2, d3] := by
            match ds, h3 with
            | [d1, d2, d3], _ => exact ⟨d1, d2, d3, rfl⟩
          cases ta with
          | @cons v1 _ _ _ t1 ta =>
            cases ta with
            | @cons v2 _ _ _ t2 ta =>
              cases ta with
              | @cons v3 _ _ _ t3 ta =>
                cases ta
                have tx1 : txD d1 = true := txDs_get (i := 0) (show txDs [d1, d2, d3] = true from tx) rfl
                have tx2 : txD d2 = true := txDs_get (i := 1) (show txDs [d1, d2, d3] = true from tx) rfl
                refine ⟨_, rfl, a, _, _, v1, rfl, rfl, sq, rfl, v1, A0, d1, rfl, t1, tx1, fun H1 st => ⟨_, rfl, ?_⟩⟩
                have k1 := k H1 st
                cases e1 : isName d1 with
                | false =>
                  rw [show isSection ns (.tuple [d1, d2, d3]) = false by
                    unfold isSection
                    split
                    · rename_i heq
                      simp only [PyData.tuple.injEq, List.cons.injEq] at heq
                      obtain ⟨rfl, _⟩ := heq
                      simp only [isName] at e1
                      simp [e1]
                    · rfl] at k1
                  exact iteT k1
                | true =>
                  obtain ⟨z1, rfl, nm1⟩ := isName_str e1
                  cases t1
                  have sq1 := st.sqT sq
                  refine iteF ⟨_, rfl, a, _, _, v2, rfl, rfl, sq1, rfl, v2, A0, d2, rfl, t2.mono st.of_nil, tx2, fun H2 st2 => ⟨_, rfl, ?_⟩⟩
                  have k2 := k H2 (st.trans st2)
                  cases e2 : isName d2 with
                  | false =>
                    rw [show isSection ns (.tuple [.str z1, d2, d3]) = false by
                      unfold isSection
                      split
                      · rename_i heq
                        simp only [PyData.tuple.injEq, List.cons.injEq] at heq
                        obtain ⟨_, rfl, _⟩ := heq
                        simp only [isName] at e2
                        simp [e2]
                      · rfl] at k2
                    exact iteT k2
                  | true =>
                    obtain ⟨z2, rfl, nm2⟩ := isName_str e2
                    cases t2
                    have sq2 := st2.sqT sq1
                    have sn2 := (st.trans st2).sqL sn (by simp)
                    refine iteF ⟨_, rfl, a, _, _, .str z1, rfl, rfl, sq2, rfl, _, rfl, a, _, _, .str z2, rfl, rfl, sq2, rfl, rfl, _, rfl, ?_⟩
                    have val : isSection ns (.tuple [.str z1, .str z2, d3]) = (!decide (z1 = z2) && (decide (z1 ∈ ns) && (decide (z2 ∈ ns) && isFrom d3 1 99))) := by simp [isSection, nm1, nm2]
                    rw [val] at k2
                    by_cases q1 : z1 = z2
                    · refine if_true_of (by simp [q1]) ?_
                      rw [decide_eq_true q1] at k2
                      exact k2
                    · refine if_false_of (by simp [q1]) ⟨_, rfl, a, _, _, .str z1, rfl, rfl, sq2, rfl, _, rfl, n, _, rfl, .inl sn2, rfl, flat_strs, _, rfl, ?_⟩
                      rw [decide_eq_false q1] at k2
                      simp only [inV_str, if_true]
                      by_cases q2 : z1 ∈ ns
                      · rw [decide_eq_true q2] at k2 ⊢
                        refine iteF ⟨_, rfl, a, _, _, .str z2, rfl, rfl, sq2, rfl, _, rfl, n, _, rfl, .inl sn2, rfl, flat_strs, _, rfl, ?_⟩
                        simp only [inV_str, if_true]
                        by_cases q3 : z2 ∈ ns
                        · rw [decide_eq_true q3] at k2 ⊢
                          exact iteF ⟨_, rfl, a, _, _, v3, rfl, rfl, sq2, rfl, v3, A0, d3, 1, 99, rfl, t3.mono (st.trans st2).of_nil, k2⟩
                        · rw [decide_eq_false q3] at k2 ⊢
                          exact iteT k2
                      · rw [decide_eq_false q2] at k2 ⊢
                        exact iteT k2
        · refine if_true_of (by simp [hl]; omega) ?_
          rw [show isSection ns (.tuple ds) = false by
            unfold isSection
            split
            · rename_i heq
              simp only [PyData.tuple.injEq] at heq
              rw [heq] at h3
              exact absurd rfl h3
            · rfl] at k0
          exact k0
theorem ok_are_sections {P : Program} {w : World} {K : PySem.W.Frag} {mg : Str → Option Value} {base : Heap} {fd : FuncData} (T : Txt K mg) (F : FunD K "are_sections" "are_sections" (defArgs s_are_sections) (defBody s_are_sections) (defScope s_are_sections) [] [] (He.ga K "are_sections") fd)
    (C_is_section : Cal P w K mg base 3 (He.ga K "is_section") ["thing", "names"] (spSection K)) : FnOk P w K mg base (L2.CX P w) 4 (He.ga K "are_sections") fd ["thing", "names"] (spSections K) := by
  refine FunD.ok F sc_are_sections (fun vs H Q E h => ?_) (fun cdv A outer s H vs Q E hr h => ?_)
  · obtain ⟨v, A0, d, n, ns, rfl, td, tx, sn, k⟩ := h
    rfl
  · obtain ⟨v, A0, d, n, ns, rfl, td, tx, sn, k⟩ := h
    refine ⟨_, (PSs.nox (pss_cons (ps_if (PW.pt (pw_or (pt_not (pt_val (pe_callB (call_isD (T := "list") (by decide)) (by rfl) T.f_isinstance (by decide +kernel) (pa_cons (pv 0) (pa_cons (pe_bltn (v := .ty "list") (by rfl) T.f_list (by decide +kernel) rfl) pa_nil))))) (pw_or1 (pt_cmpR op_gt (pe_callB call_len_seq (by rfl) T.f_len (by decide +kernel) (pa_cons (pv 0) pa_nil)) (pe_gint (by rfl) T.c_MOST_SECTIONS) (nomark _))))) (pss_one (ps_ret pe_bl)) pss_nil)
      (pss_one (ps_ret (pe_callB (cr_all rfl) (by rfl) T.f_all (by decide +kernel) (pa_cons (pe_lcD (own := [("one", 2)]) (by rfl) sc_are_sections.nd (pi_list (pv 0)) (blkOk_by (own := [("one", 2)]) (N := ["thing", "names", "one"]) (sc := defScope s_are_sections) (by decide +kernel)) (fun _ _ _ _ _ => (pg_name (i := 2) sc_are_sections.nd rfl (by first | exact Or.inl rfl | exact Or.inr rfl))) (fun _ _ _ _ _ => pts_nil) (fun _ _ _ _ _ => (pe_cal C_is_section (hr.mono (by decide)) (by rfl) T.g_is_section pL (pa_cons (pv 2) (pa_cons (pv 1) pa_nil))))) pa_nil)))))), ?_⟩
    try simp only [kx1, kx2, kx3, kx4, kx5]
    refine ⟨_, rfl, _, A0, d, rfl, td, _, rfl, ?_⟩
    have k0 := k H (.refl H)
    cases e : isT "list" d with
    | false =>
      have e2 : areSections ns d = false := by cases d with
        | list z => cases e
        | _ => rfl
      rw [e2] at k0
      exact iteT k0
    | true =>
      obtain ⟨ds, rfl⟩ := isT_list e
      cases td with
      | @lst a xs _ sq nA ta =>
        have hl := ta.len
        refine iteF ⟨_, rfl, a, xs, rfl, .inl sq, _, _, rfl, rfl, _, rfl, ?_⟩
        by_cases h2 : ds.length ≤ 12
        · refine if_false_of (decide_eq_false (by omega)) ?_
          refine ⟨_, rfl, a, rfl, ⟨xs, sq⟩, fun D hD => lcL (D := D) (a := a) (xs := xs) [] hD (by simp) (by rw [sizeLine_eq]; omega) (fun i acc H' => acc = ((ds.take i).map fun x => V.bl (isSection ns x))) (fun H' _ => rfl) (fun i acc H' _ st => st.sqL sq (by simp)) (fun i x acc H' Nx hx p st hDD pu sk => ?_) (fun acc H' p st hDD => ?_)⟩
          · obtain ⟨di, hdi, tdi⟩ := ta.get hx
            refine ⟨rfl, _, rfl, _, rfl, x, A0, di, n, ns, rfl, tdi.mono st.of_nil, txDs_get (show txDs ds = true from tx) hdi, st.sqL sn (by simp), fun H4 st4 => pu _ _ st4 fun H'' _ _ => ?_⟩
            rw [p, take_at hdi, List.map_append]; rfl
          · refine ⟨D, ds.map (isSection ns), rfl, SqL.of (by rw [hDD, p, hl, List.take_length, List.map_map]; rfl), ?_⟩
            have k1 := k H' st
            have ea : (ds.map (isSection ns)).all id = areSections ns (.list ds) := by
              simp only [areSections, List.all_map, h2, decide_true, Bool.true_and]; rfl
            rw [ea]
            exact k1
        · refine if_true_of (decide_eq_true (by omega)) ?_
          rw [show areSections ns (.list ds) = false by simp [areSections, h2]] at k0
          exact k0
theorem ok_Line_init {P : Program} {w : World} {K : PySem.W.Frag} {mg : Str → Option Value} {base : Heap} {fd : FuncData} (T : Txt K mg) (F : FunD K "__init__" "Line.__init__" (defArgs s_Line_init) (defBody s_Line_init) (defScope s_Line_init) [] [("gap", .int 1), ("stop", .int 1), ("away", .int 2)] (He.ma K (He.ga K "Line") "__init__") fd)
    (C_is_from : Cal P w K mg base 2 (He.ga K "is_from") ["thing", "low", "high"] (spFrom K))
    (C_NoLine_init : Cal P w K mg base 1 (He.ma K (He.ga K "NoLine") "__init__") ["self", "what"] (spErr (He.ga K "NoLine") "what"))
    (C_are_sections : Cal P w K mg base 4 (He.ga K "are_sections") ["thing", "names"] (spSections K))
    (C_are_places : Cal P w K mg base 4 (He.ga K "are_places") ["thing"] (spPlaces K)) : FnOk P w K mg base (L2.CX P w) 5 (He.ma K (He.ga K "Line") "__init__") fd ["self", "places", "sections", "gap", "stop", "away"] (spLineInit K) := by
  refine FunD.ok F sc_Line_init (fun vs H Q E h => ?_) (fun cdv A outer s H vs Q E hr h => ?_)
  · obtain ⟨x, dx, v1, v2, v3, v4, v5, A0, d1, d2, d3, d4, d5, rfl, hx, t1, t2, t3, t4, t5, x1, x2, kn, ke⟩ := h
    rfl
  · obtain ⟨x, dx, v1, v2, v3, v4, v5, A0, d1, d2, d3, d4, d5, rfl, hx, t1, t2, t3, t4, t5, x1, x2, kn, ke⟩ := h
    refine ⟨_, (pss_cons (ps_if (pt_not (pt_val (pe_cal C_are_places (hr.mono (by decide)) (by rfl) T.g_are_places (fun σ => passAt (takes_of rfl rfl rfl rfl) σ) (pa_cons (pv 1) pa_nil)))) (pss_one (ps_raise (by rfl) (takes_of rfl rfl rfl rfl) (pmk_err T.e_NoLine C_NoLine_init (hr.mono (by decide)) (by rfl) T.g_NoLine (pa_cons pe_str pa_nil)))) pss_nil)
      (pss_cons (ps_if (pt_not (pt_val (pe_cal C_are_sections (hr.mono (by decide)) (by rfl) T.g_are_sections (fun σ => passAt (takes_of rfl rfl rfl rfl) σ) (pa_cons (pv 2) (pa_cons (pe_lcD (own := [("name", 6), ("many", 7)]) (by rfl) sc_Line_init.nd (pi_list (pv 1)) (blkOk_by (own := [("name", 6), ("many", 7)]) (N := ["self", "places", "sections", "gap", "stop", "away", "name", "many"]) (sc := defScope s_Line_init) (by decide +kernel)) (fun _ _ _ _ _ => (pg_tup (n := 2) (by rfl) (pgs_cons (pg_name (i := 6) sc_Line_init.nd rfl (by first | exact Or.inl rfl | exact Or.inr rfl)) (pgs_cons (pg_name (i := 7) sc_Line_init.nd rfl (by first | exact Or.inl rfl | exact Or.inr rfl)) pgs_nil)))) (fun _ _ _ _ _ => pts_nil) (fun _ _ _ _ _ => (pv 6))) pa_nil))))) (pss_one (ps_raise (by rfl) (takes_of rfl rfl rfl rfl) (pmk_err T.e_NoLine C_NoLine_init (hr.mono (by decide)) (by rfl) T.g_NoLine (pa_cons pe_str pa_nil)))) pss_nil)
      (pss_cons (ps_if (pt_not (pt_val (pe_cal C_is_from (hr.mono (by decide)) (by rfl) T.g_is_from (fun σ => passAt (takes_of rfl rfl rfl rfl) σ) (pa_cons (pv 3) (pa_cons pe_int (pa_cons (pe_gint (by rfl) T.c_MOST_GAP) pa_nil)))))) (pss_one (ps_raise (by rfl) (takes_of rfl rfl rfl rfl) (pmk_err T.e_NoLine C_NoLine_init (hr.mono (by decide)) (by rfl) T.g_NoLine (pa_cons pe_str pa_nil)))) pss_nil)
      (pss_cons (ps_if (pt_not (pt_val (pe_cal C_is_from (hr.mono (by decide)) (by rfl) T.g_is_from (fun σ => passAt (takes_of rfl rfl rfl rfl) σ) (pa_cons (pv 4) (pa_cons pe_int (pa_cons (pe_gint (by rfl) T.c_MOST_GAP) pa_nil)))))) (pss_one (ps_raise (by rfl) (takes_of rfl rfl rfl rfl) (pmk_err T.e_NoLine C_NoLine_init (hr.mono (by decide)) (by rfl) T.g_NoLine (pa_cons pe_str pa_nil)))) pss_nil)
      (pss_cons (ps_if (pt_not (pt_val (pe_cal C_is_from (hr.mono (by decide)) (by rfl) T.g_is_from (fun σ => passAt (takes_of rfl rfl rfl rfl) σ) (pa_cons (pv 5) (pa_cons pe_int (pa_cons (pe_gint (by rfl) T.c_MOST_GAP) pa_nil)))))) (pss_one (ps_raise (by rfl) (takes_of rfl rfl rfl rfl) (pmk_err T.e_NoLine C_NoLine_init (hr.mono (by decide)) (by rfl) T.g_NoLine (pa_cons pe_str pa_nil)))) pss_nil)
      (pss_cons (ps_fld (pv 0) (pe_callTy call_tupleN (by rfl) T.f_tuple (by decide +kernel) (pa_cons (pv 1) pa_nil)) rfl)
      (pss_cons (ps_fld (pv 0) (pe_callTy call_tupleN (by rfl) T.f_tuple (by decide +kernel) (pa_cons (pv 2) pa_nil)) rfl)
      (pss_cons (ps_fld (pv 0) (pv 3) rfl)
      (pss_cons (ps_fld (pv 0) (pv 4) rfl)
      (pss_one (ps_fld (pv 0) (pv 5) rfl))))))))))), ?_⟩
    try simp only [kx1, kx2, kx3, kx4, kx5]
    refine ⟨_, rfl, v1, A0, d1, rfl, t1, x1, fun H1 st1 => ⟨_, rfl, ?_⟩⟩
    cases f1 : arePlaces d1 with
    | false => exact iteT ⟨_, rfl, fun d hd => ke _ (by simp [lineBad, f1]) _ d (st1.trans (.new hd)) (st1.f d hd) upd_same⟩
    | true =>
      obtain ⟨ps, rfl, hp⟩ := arePlaces_inv f1
      cases t1 with
      | @lst a xs _ sq nA ta =>
        have sq1 := st1.sqL sq (by simp)
        have ta1 := ta.mono (st1.of_nil (A := A0))
        have hl : xs.length = ps.length := by rw [ta.len]; simp [placesD]
        have l8 := hp.l8
        refine iteF ⟨_, rfl, _, rfl, a, rfl, ⟨xs, sq1⟩, fun D hD => lcL (D := D) (a := a) (xs := xs) [] hD (by simp) (by rw [sizeLine_eq]; omega) (fun i acc H' => acc = ((ps.take i).map fun p => V.str p.1)) (fun H' _ => rfl) (fun i acc H' _ st => st.sqL sq1 (by simp)) (fun i x acc H' Nx hx p st hDD pu sk => ?_) (fun acc H2 p st2 hDD => ?_)⟩
        · obtain ⟨pl, q, hpl, rfl, sqp⟩ := at_place (ta1.mono st.of_nil) hx
          refine ⟨q, _, rfl, sqp, rfl, _, _, rfl, _, _, rfl, rfl, rfl, _, rfl, pu _ _ (.refl _) fun H'' _ _ => ?_⟩
          rw [p, take_at hpl, List.map_append]; rfl
        have hns : H2 D = some (.lst ((ps.map (·.1)).map V.str)) := by rw [hDD, p, hl, List.take_length, List.map_map]; rfl
        refine ⟨v2, A0, d2, D, ps.map (·.1), rfl, t2.mono (st1.trans st2).of_nil, x2, SqL.of hns, fun H3 st3 => ⟨_, rfl, ?_⟩⟩
        have st13 : Stp [] H H3 := (st1.trans st2).trans st3
        cases f2 : areSections (ps.map (·.1)) d2 with
        | false => exact iteT ⟨_, rfl, fun d hd => ke _ (by unfold lineBad; rw [f1, names_places, f2]; rfl) _ d (st13.trans (.new hd)) (st13.f d hd) upd_same⟩
        | true =>
          obtain ⟨rs, rfl, hr2⟩ := areSections_inv f2
          refine iteF ⟨_, rfl, v3, A0, d3, 1, 9, rfl, t3.mono st13.of_nil, _, rfl, ?_⟩
          cases f3 : isFrom d3 1 9 with
          | false => exact iteT ⟨_, rfl, fun d hd => ke _ (by unfold lineBad; rw [f1, names_places, f2, f3]; rfl) _ d (st13.trans (.new hd)) (st13.f d hd) upd_same⟩
          | true =>
            refine iteF ⟨_, rfl, v4, A0, d4, 1, 9, rfl, t4.mono st13.of_nil, _, rfl, ?_⟩
            cases f4 : isFrom d4 1 9 with
            | false => exact iteT ⟨_, rfl, fun d hd => ke _ (by unfold lineBad; rw [f1, names_places, f2, f3, f4]; rfl) _ d (st13.trans (.new hd)) (st13.f d hd) upd_same⟩
            | true =>
              refine iteF ⟨_, rfl, v5, A0, d5, 0, 9, rfl, t5.mono st13.of_nil, _, rfl, ?_⟩
              cases f5 : isFrom d5 0 9 with
              | false => exact iteT ⟨_, rfl, fun d hd => ke _ (by unfold lineBad; rw [f1, names_places, f2, f3, f4, f5]; rfl) _ d (st13.trans (.new hd)) (st13.f d hd) upd_same⟩
              | true =>
                obtain ⟨g, rfl, hg⟩ := isFrom_int f3
                obtain ⟨s, rfl, hs⟩ := isFrom_int f4
                obtain ⟨w, rfl, hw⟩ := isFrom_int f5
                cases t3
                cases t4
                cases t5
                cases t2 with
                | @lst b ys _ sqb nB tb =>
                  have hx3 := st13.k x _ (by simp) hx
                  refine iteF ⟨_, rfl, a, xs, rfl, .inl (st13.sqL sq (by simp)), fun th H4 s4 sqt => ⟨_, rfl, x, _, dx, _, rfl, (s4 []).k x _ (by simp) hx3, T.cl_Line, T.n_Line_halts, by decide, ?_⟩⟩
                  have st14 : Stp [x] H H4 := (st13.trans (s4 [])).mono (by simp)
                  have w4 : Stp [x] H4 _ := .put (o' := .ins (He.ga K "Line") dx (putF "halts" (.ref th) [])) ((s4 []).k x _ (by simp) hx3)
                  refine ⟨_, rfl, b, ys, rfl, .inl ((st14.trans w4).sqLI hx sqb), fun tr H5 s5 sqr => ?_⟩
                  have st15 := (st14.trans w4).trans (s5 _)
                  have hx5 := (s5 []).k x _ (by simp) (upd_same (H := H4) (a := x) (o := .ins (He.ga K "Line") dx (putF "halts" (.ref th) [])))
                  refine ⟨_, rfl, x, _, dx, _, rfl, hx5, T.cl_Line, T.n_Line_rails, lenF (n := 999) (by decide), ?_⟩
                  refine ⟨_, rfl, _, rfl, x, _, dx, _, rfl, upd_same, T.cl_Line, T.n_Line_gap, lenF (n := 999) (lenF (n := 998) (by decide)), ?_⟩
                  refine ⟨_, rfl, _, rfl, x, _, dx, _, rfl, upd_same, T.cl_Line, T.n_Line_stop, lenF (n := 999) (lenF (n := 998) (lenF (n := 997) (by decide))), ?_⟩
                  refine ⟨_, rfl, _, rfl, x, _, dx, _, rfl, upd_same, T.cl_Line, T.n_Line_away, lenF (n := 999) (lenF (n := 998) (lenF (n := 997) (lenF (n := 996) (by decide)))), ?_⟩
                  have lo : LineOk ps rs g s w := ⟨hp, hr2, hg, hs, hw⟩
                  have fin : ∀ H6, Stp [x] H5 H6 → H6 x = some (.ins (He.ga K "Line") dx [("halts", .ref th), ("rails", .ref tr), ("gap", .int g), ("stop", .int s), ("away", .int w)]) → Q .non H6 := fun H6 w5 h6 =>
                    kn ps rs g s w rfl rfl rfl rfl rfl lo _ (st15.trans w5) ⟨⟨dx, th, tr, xs, ys, h6, (w4.trans ((s5 _).trans w5)).sqT sqt, (ta.any (flat_places _)).flatMono (flat_places _) (st15.trans w5), w5.sqT sqr, (tb.any (flat_rails _)).flatMono (flat_rails _) (st15.trans w5)⟩, lo⟩
                  exact fin _ ((((Stp.put hx5).trans (.put upd_same)).trans (.put upd_same)).trans (.put upd_same)) upd_same
theorem ok_Line_names {P : Program} {w : World} {K : PySem.W.Frag} {mg : Str → Option Value} {base : Heap} {fd : FuncData} (T : Txt K mg) (F : FunD K "names" "Line.names" (defArgs s_Line_names) (defBody s_Line_names) (defScope s_Line_names) [] [] (He.ma K (He.ga K "Line") "names") fd)
     : FnOk P w K mg base (L2.CX P w) 1 (He.ma K (He.ga K "Line") "names") fd ["self"] (spNames K) := by
  refine FunD.ok F sc_Line_names (fun vs H Q E h => ?_) (fun cdv A outer s H vs Q E hr h => ?_)
  · obtain ⟨x, ps, rs, g, s, a, rfl, ⟨⟨dx, th, tr, xs, ys, hx, s1, t1, s2, t2⟩, ok⟩, k⟩ := h
    rfl
  · obtain ⟨x, ps, rs, g, s, a, rfl, ⟨⟨dx, th, tr, xs, ys, hx, s1, t1, s2, t2⟩, ok⟩, k⟩ := h
    refine ⟨_, (PSs.nox (pss_one (ps_ret (pe_lcD (own := [("name", 1), ("many", 2)]) (by rfl) sc_Line_names.nd (pi_tup (pe_fld (pv 0) rfl)) (blkOk_by (own := [("name", 1), ("many", 2)]) (N := ["self", "name", "many"]) (sc := defScope s_Line_names) (by decide +kernel)) (fun _ _ _ _ _ => (pg_tup (n := 2) (by rfl) (pgs_cons (pg_name (i := 1) sc_Line_names.nd rfl (by first | exact Or.inl rfl | exact Or.inr rfl)) (pgs_cons (pg_name (i := 2) sc_Line_names.nd rfl (by first | exact Or.inl rfl | exact Or.inr rfl)) pgs_nil)))) (fun _ _ _ _ _ => pts_nil) (fun _ _ _ _ _ => (pv 1)))))), ?_⟩
    try simp only [kx1, kx2, kx3, kx4, kx5]
    have hl : xs.length = ps.length := by rw [t1.len]; simp [placesD]
    have l8 := ok.p.l8
    refine ⟨_, rfl, x, _, dx, _, _, rfl, hx, T.cl_Line, T.n_Line_halts, rfl, th, rfl, ⟨xs, s1⟩, fun D hD => lcT (D := D) (a := th) (xs := xs) [] hD (by simp) (by rw [sizeLine_eq]; omega) (fun i acc H' => acc = ((ps.take i).map fun p => V.str p.1)) (fun H' _ => rfl) s1 (fun i x acc H' Nx hx p st hDD pu sk => ?_) (fun acc H2 p st2 hDD => ?_)⟩
    · obtain ⟨pl, q, hpl, rfl, sqp⟩ := at_place (t1.mono st) hx
      refine ⟨q, _, rfl, sqp, rfl, _, _, rfl, _, _, rfl, rfl, rfl, _, rfl, pu _ _ (.refl _) fun H'' _ _ => ?_⟩
      rw [p, take_at hpl, List.map_append]; rfl
    exact k D H2 ⟨hD, fun _ => st2.of_nil, by rw [hDD, p, hl, List.take_length, List.map_map]; rfl⟩
theorem ok_Line_platforms {P : Program} {w : World} {K : PySem.W.Frag} {mg : Str → Option Value} {base : Heap} {fd : FuncData} (T : Txt K mg) (F : FunD K "platforms" "Line.platforms" (defArgs s_Line_platforms) (defBody s_Line_platforms) (defScope s_Line_platforms) [] [] (He.ma K (He.ga K "Line") "platforms") fd)
    (C_NoLine_init : Cal P w K mg base 1 (He.ma K (He.ga K "NoLine") "__init__") ["self", "what"] (spErr (He.ga K "NoLine") "what"))
    (C_is_name : Cal P w K mg base 1 (He.ga K "is_name") ["thing"] (spName K)) : FnOk P w K mg base (L2.CX P w) 3 (He.ma K (He.ga K "Line") "platforms") fd ["self", "place"] (spPlatforms K) := by
  refine FunD.ok F sc_Line_platforms (fun vs H Q E h => ?_) (fun cdv A outer s H vs Q E hr h => ?_)
  · obtain ⟨x, v, ps, rs, g, s, a, A0, d, rfl, ⟨⟨dx, th, tr, xs, ys, hx, s1, t1, s2, t2⟩, ok⟩, td, tx, kn, ke⟩ := h
    rfl
  · obtain ⟨x, v, ps, rs, g, s, a, A0, d, rfl, ⟨⟨dx, th, tr, xs, ys, hx, s1, t1, s2, t2⟩, ok⟩, td, tx, kn, ke⟩ := h
    refine ⟨_, (pss_cons (ps_for (passes_of rfl) (by rfl) (pi_tup (pe_fld (pv 0) rfl)) (pg_tup (n := 2) (by rfl) (pgs_cons (pg_name (i := 2) sc_Line_platforms.nd rfl (by first | exact Or.inl rfl | exact Or.inr rfl)) (pgs_cons (pg_name (i := 3) sc_Line_platforms.nd rfl (by first | exact Or.inl rfl | exact Or.inr rfl)) pgs_nil))) (pss_one (ps_if (PW.pt (pw_and (pt_val (pe_cal C_is_name (hr.mono (by decide)) (by rfl) T.g_is_name (fun σ => passAt (takes_of rfl rfl rfl rfl) σ) (pa_cons (pv 1) pa_nil))) (pw_and1 (pt_cmpR op_eq (pv 2) (pv 1) (nomark _))))) (pss_one (ps_ret (pv 3))) pss_nil)))
      (pss_one (ps_raise (by rfl) (takes_of rfl rfl rfl rfl) (pmk_err T.e_NoLine C_NoLine_init (hr.mono (by decide)) (by rfl) T.g_NoLine (pa_cons pe_str pa_nil))))), ?_⟩
    try simp only [kx1, kx2, kx3, kx4, kx5]
    have hl : xs.length = ps.length := by rw [t1.len]; simp [placesD]
    refine ⟨_, rfl, x, _, dx, _, _, rfl, hx, T.cl_Line, T.n_Line_halts, rfl, th, rfl, ⟨xs, s1⟩, for_tup (K := K) (a := th) (xs := xs) (fun i σ H' => ∃ r1 r2, σ = [some (.ref x), some v, r1, r2] ∧ Stp [] H H' ∧ platOf ps d = platOf (ps.drop i) d)
      ⟨none, none, rfl, .refl H, rfl⟩ (fun i σ H' _ ⟨_, _, _, st, _⟩ => st.sqT s1) ?_ ?_⟩
    · rintro i y σ H' hy ⟨r1, r2, rfl, st, hv⟩
      obtain ⟨pl, q, hpl, rfl, sqp⟩ := at_place (t1.mono st) hy
      rw [drop_at hpl] at hv
      refine ⟨q, _, rfl, sqp, rfl, _, _, rfl, _, _, rfl, rfl, ?_⟩
      refine ⟨_, rfl, v, A0, d, rfl, td.mono st.of_nil, tx, fun H1 st1 => ⟨_, rfl, ?_⟩⟩
      cases e : isName d with
      | false =>
        refine iteF ⟨_, _, rfl, st.trans st1, ?_⟩
        have h0 : ∀ p ∈ ps, isNm p.1 = true := fun p hp => (ok.p.nm p hp).1
        rw [platOf_none e h0, platOf_none e fun p hp => h0 p (List.mem_of_mem_drop hp)]
      | true =>
        obtain ⟨z, rfl, nm⟩ := isName_str e
        cases td
        refine iteT ⟨_, rfl, _, rfl, rfl, _, rfl, ?_⟩
        by_cases hz : pl.1 = z
        · refine if_true_of (by simp [hz]) ⟨_, rfl, kn pl.2 (by rw [hv]; simp [platOf, hz]) _ (st.trans st1)⟩
        · refine if_false_of (by simp [hz]) ⟨_, _, rfl, st.trans st1, ?_⟩
          rw [hv]; simp [platOf, hz]
    · rintro σ H' ⟨r1, r2, rfl, st, hv⟩
      rw [hl, List.drop_length] at hv
      have hn : platOf ps d = none := by rw [hv]; cases d <;> rfl
      exact ⟨_, rfl, fun e he => ke hn _ e (st.trans (.new he)) (st.f e he) upd_same⟩
theorem ok_Line_tracks {P : Program} {w : World} {K : PySem.W.Frag} {mg : Str → Option Value} {base : Heap} {fd : FuncData} (T : Txt K mg) (F : FunD K "tracks" "Line.tracks" (defArgs s_Line_tracks) (defBody s_Line_tracks) (defScope s_Line_tracks) [] [] (He.ma K (He.ga K "Line") "tracks") fd)
     : FnOk P w K mg base (L2.CX P w) 1 (He.ma K (He.ga K "Line") "tracks") fd ["self"] (spTracks K) := by
  refine FunD.ok F sc_Line_tracks (fun vs H Q E h => ?_) (fun cdv A outer s H vs Q E hr h => ?_)
  · obtain ⟨x, ps, rs, g, s, a, rfl, ⟨⟨dx, th, tr, xs, ys, hx, s1, t1, s2, t2⟩, ok⟩, k⟩ := h
    rfl
  · obtain ⟨x, ps, rs, g, s, a, rfl, ⟨⟨dx, th, tr, xs, ys, hx, s1, t1, s2, t2⟩, ok⟩, k⟩ := h
    refine ⟨_, (PSs.nox (pss_one (ps_ret (pe_callB call_len_seq (by rfl) T.f_len (by decide +kernel) (pa_cons (pe_fld (pv 0) rfl) pa_nil))))), ?_⟩
    try simp only [kx1, kx2, kx3, kx4, kx5]
    have hl : ys.length = rs.length := by rw [t2.len]; simp [railsD]
    rw [← hl] at k
    exact ⟨_, rfl, x, _, dx, _, _, rfl, hx, T.cl_Line, T.n_Line_rails, rfl, tr, ys, rfl, .inr s2, k⟩
theorem ok_Linedd_lendd {P : Program} {w : World} {K : PySem.W.Frag} {mg : Str → Option Value} {base : Heap} {fd : FuncData} (T : Txt K mg) (F : FunD K "__len__" "Line.__len__" (defArgs s_Linedd_lendd) (defBody s_Linedd_lendd) (defScope s_Linedd_lendd) [] [] (He.ma K (He.ga K "Line") "__len__") fd)
     : FnOk P w K mg base (L2.CX P w) 1 (He.ma K (He.ga K "Line") "__len__") fd ["self"] (spLineLen K) := by
  refine FunD.ok F sc_Linedd_lendd (fun vs H Q E h => ?_) (fun cdv A outer s H vs Q E hr h => ?_)
  · obtain ⟨x, ps, rs, g, s, a, rfl, ⟨⟨dx, th, tr, xs, ys, hx, s1, t1, s2, t2⟩, ok⟩, k⟩ := h
    rfl
  · obtain ⟨x, ps, rs, g, s, a, rfl, ⟨⟨dx, th, tr, xs, ys, hx, s1, t1, s2, t2⟩, ok⟩, k⟩ := h
    refine ⟨_, (PSs.nox (pss_one (ps_ret (pe_callB call_len_seq (by rfl) T.f_len (by decide +kernel) (pa_cons (pe_fld (pv 0) rfl) pa_nil))))), ?_⟩
    try simp only [kx1, kx2, kx3, kx4, kx5]
    have hl : xs.length = ps.length := by rw [t1.len]; simp [placesD]
    rw [← hl] at k
    exact ⟨_, rfl, x, _, dx, _, _, rfl, hx, T.cl_Line, T.n_Line_halts, rfl, th, xs, rfl, .inr s1, k⟩
theorem ok_Linedd_strdd {P : Program} {w : World} {K : PySem.W.Frag} {mg : Str → Option Value} {base : Heap} {fd : FuncData} (T : Txt K mg) (F : FunD K "__str__" "Line.__str__" (defArgs s_Linedd_strdd) (defBody s_Linedd_strdd) (defScope s_Linedd_strdd) [] [] (He.ma K (He.ga K "Line") "__str__") fd)
     : FnOk P w K mg base (L2.CX P w) 1 (He.ma K (He.ga K "Line") "__str__") fd ["self"] (spLineStr K) := by
  refine FunD.ok F sc_Linedd_strdd (fun vs H Q E h => ?_) (fun cdv A outer s H vs Q E hr h => ?_)
  · obtain ⟨x, ps, rs, g, s, a, rfl, ⟨⟨dx, th, tr, xs, ys, hx, s1, t1, s2, t2⟩, ok⟩, k⟩ := h
    rfl
  · obtain ⟨x, ps, rs, g, s, a, rfl, ⟨⟨dx, th, tr, xs, ys, hx, s1, t1, s2, t2⟩, ok⟩, k⟩ := h
    refine ⟨_, (PSs.nox (pss_one (ps_ret (pe_joined (PJ.cons (pe_fmt (pe_callB call_len_seq (by rfl) T.f_len (by decide +kernel) (pa_cons (pe_fld (pv 0) rfl) pa_nil))) (PJ.cons pe_str (PJ.cons (pe_fmt (pe_callB call_len_seq (by rfl) T.f_len (by decide +kernel) (pa_cons (pe_fld (pv 0) rfl) pa_nil))) (PJ.cons pe_str PJ.nil)))))))), ?_⟩
    try simp only [kx1, kx2, kx3, kx4, kx5]
    have hl1 : xs.length = ps.length := by rw [t1.len]; simp [placesD]
    have hl2 : ys.length = rs.length := by rw [t2.len]; simp [railsD]
    have l8 := ok.p.l8
    have l12 := ok.r.l
    have n1 := num_le (show xs.length ≤ 12 by omega)
    have n2 := num_le (show ys.length ≤ 12 by omega)
    have c1 : (" places, " : Str).length = 9 := by decide +kernel
    have c2 : (" sections" : Str).length = 9 := by decide +kernel
    refine ⟨_, rfl, x, _, dx, _, _, rfl, hx, T.cl_Line, T.n_Line_halts, rfl, th, xs, rfl, .inr s1, .inr ⟨_, rfl, n1.2, _, rfl, ?_, _, rfl, ?_, ?_⟩⟩
    · rw [str_empty, sizeLine_eq]; omega
    · rw [str_empty, str_app, sizeLine_eq]; omega
    refine ⟨_, rfl, x, _, dx, _, _, rfl, hx, T.cl_Line, T.n_Line_rails, rfl, tr, ys, rfl, .inr s2, .inr ⟨_, rfl, n2.2, _, rfl, ?_, _, rfl, ?_, ?_⟩⟩
    · rw [str_empty, str_app, str_app, sizeLine_eq]; omega
    · rw [str_empty, str_app, str_app, str_app, sizeLine_eq]; omega
    rw [str_empty, hl1, hl2]
    exact k
theorem ok__law_mixed {P : Program} {w : World} {K : PySem.W.Frag} {mg : Str → Option Value} {base : Heap} {fd : FuncData} (T : Txt K mg) (F : FunD K "_law_mixed" "_law_mixed" (defArgs s__law_mixed) (defBody s__law_mixed) (defScope s__law_mixed) [] [] (He.ga K "_law_mixed") fd)
     : FnOk P w K mg base (L2.CX P w) 1 (He.ga K "_law_mixed") fd ["_law_cell", "_law_k"] (spMixed) := by
  refine FunD.ok F sc__law_mixed (fun vs H Q E h => ?_) (fun cdv A outer s H vs Q E hr h => ?_)
  · obtain ⟨c, k, rfl, kk⟩ := h
    rfl
  · obtain ⟨c, k, rfl, kk⟩ := h
    refine ⟨_, (PSs.nox (pss_cons (ps_set (i := 2) sc__law_mixed.nd rfl (by first | exact Or.inl rfl | exact Or.inr rfl) (pe_op op_mod (pe_op op_mul (pe_op op_add (pe_op op_mod (pv 0) pe_int) pe_int) (pe_op op_add (pe_op op_mul (pv 1) pe_int) pe_int)) pe_int))
      (pss_cons (ps_set (i := 2) sc__law_mixed.nd rfl (by first | exact Or.inl rfl | exact Or.inr rfl) (pe_op op_mod (pe_op op_mul (pe_op op_add (pv 2) (pe_op op_mul (pe_op op_mod (pe_op op_fdivW (pv 0) pe_int) pe_int) (pe_op op_add (pv 1) pe_int))) pe_int) pe_int))
      (pss_cons (ps_set (i := 2) sc__law_mixed.nd rfl (by first | exact Or.inl rfl | exact Or.inr rfl) (pe_op op_mod (pe_op op_mul (pv 2) (pe_op op_add (pe_op op_add (pe_op op_fdivW (pv 2) pe_int) pe_int) (pv 1))) pe_int))
      (pss_one (ps_ret (pe_op op_mod (pe_op op_mul (pv 2) (pe_op op_add (pe_op op_fdivW (pv 2) pe_int) pe_int)) pe_int))))))), ?_⟩
    try simp only [kx1, kx2, kx3, kx4, kx5]
    refine ⟨_, rfl, _, _, rfl, rfl, (by show (0 : Int) < 2147483646; decide), _, _, rfl, rfl, _, rfl, _, _, rfl, rfl, .inr (by decide), _, _, rfl, rfl, _, _, rfl, rfl, .inl (by omega), _, _, rfl, rfl, (by show (0 : Int) < 2147483647; decide), ?_⟩
    have h1 := Int.emod_nonneg ((c % 2147483646 + 1) * (k * 7919 + 104729)) (show (2147483647 : Int) ≠ 0 by decide)
    have h2 := Int.emod_lt_of_pos ((c % 2147483646 + 1) * (k * 7919 + 104729)) (show (0 : Int) < 2147483647 by decide)
    generalize ((c % 2147483646 + 1) * (k * 7919 + 104729)) % 2147483647 = n1 at h1 h2 ⊢
    refine ⟨_, rfl, _, rfl, _, _, rfl, rfl, wide_div (b := 40) (by decide) (by decide) (by decide) (by decide), _, _, rfl, rfl, (by show (0 : Int) < 1000003; decide), _, rfl, _, _, rfl, rfl, _, _, rfl, rfl, .inl (by omega), _, _, rfl, rfl, _, _, rfl, rfl, .inr (by decide), _, _, rfl, rfl, (by show (0 : Int) < 2147483629; decide), ?_⟩
    have h3 := Int.emod_nonneg ((n1 + c / 2147483646 % 1000003 * (k + 31)) * 48271) (show (2147483629 : Int) ≠ 0 by decide)
    have h4 := Int.emod_lt_of_pos ((n1 + c / 2147483646 % 1000003 * (k + 31)) * 48271) (show (0 : Int) < 2147483629 by decide)
    generalize ((n1 + c / 2147483646 % 1000003 * (k + 31)) * 48271) % 2147483629 = n2 at h3 h4 ⊢
    refine ⟨_, rfl, _, rfl, _, _, rfl, rfl, wide_div (b := 40) (by decide) (by decide) (by decide) (by decide), _, _, rfl, rfl, _, rfl, _, _, rfl, rfl, _, _, rfl, rfl, .inl (by omega), _, _, rfl, rfl, (by show (0 : Int) < 2147483587; decide), ?_⟩
    have h5 := Int.emod_nonneg (n2 * (n2 / 1013 + 69621 + k)) (show (2147483587 : Int) ≠ 0 by decide)
    have h6 := Int.emod_lt_of_pos (n2 * (n2 / 1013 + 69621 + k)) (show (0 : Int) < 2147483587 by decide)
    generalize (n2 * (n2 / 1013 + 69621 + k)) % 2147483587 = n3 at h5 h6 ⊢
    exact ⟨_, rfl, _, rfl, _, _, rfl, rfl, wide_div (b := 40) (by decide) (by decide) (by decide) (by decide), _, _, rfl, rfl, _, _, rfl, rfl, .inl (by omega), _, _, rfl, rfl, (by show (0 : Int) < 2147483563; decide), kk _⟩
theorem ok__law_source {P : Program} {w : World} {K : PySem.W.Frag} {mg : Str → Option Value} {base : Heap} {fd : FuncData} (T : Txt K mg) (F : FunD K "_law_source" "_law_source" (defArgs s__law_source) (defBody s__law_source) (defScope s__law_source) [] [] (He.ga K "_law_source") fd)
     : FnOk P w K mg base (L2.CX P w) 1 (He.ga K "_law_source") fd ["_law_cell"] (spSource) := by
  refine FunD.ok F sc__law_source (fun vs H Q E h => ?_) (fun cdv A outer s H vs Q E hr h => ?_)
  · obtain ⟨c, rfl, kk⟩ := h
    rfl
  · obtain ⟨c, rfl, kk⟩ := h
    refine ⟨_, (PSs.nox (pss_one (ps_ret (pe_lst (pa_cons (pv 0) (pa_cons (pv 0) (pa_cons pe_int pa_nil))))))), ?_⟩
    try simp only [kx1, kx2, kx3, kx4, kx5]
    exact ⟨_, rfl, _, rfl, (by show 3 ≤ sizeLine; decide), fun p hp => kk p hp⟩
theorem ok__law_take {P : Program} {w : World} {K : PySem.W.Frag} {mg : Str → Option Value} {base : Heap} {fd : FuncData} (T : Txt K mg) (F : FunD K "_law_take" "_law_take" (defArgs s__law_take) (defBody s__law_take) (defScope s__law_take) [] [] (He.ga K "_law_take") fd)
    (C__law_mixed : Cal P w K mg base 1 (He.ga K "_law_mixed") ["_law_cell", "_law_k"] (spMixed)) : FnOk P w K mg base (L2.CX P w) 2 (He.ga K "_law_take") fd ["_law_source_here", "_law_many"] (spTake) := by
  refine FunD.ok F sc__law_take (fun vs H Q E h => ?_) (fun cdv A outer s H vs Q E hr h => ?_)
  · obtain ⟨a, m, rfl, m0, m1, ⟨x, c, k, ha⟩, kk⟩ := h
    rfl
  · obtain ⟨a, m, rfl, m0, m1, ⟨x, c, k, ha⟩, kk⟩ := h
    refine ⟨_, (PSs.nox (pss_cons (ps_if (pt_cmpR op_ge (pe_ix ix_list (pv 0) pe_int (fun _ _ => rfl)) (pe_op op_pow pe_int pe_int) (nomark _)) (pss_cons (ps_set (i := 2) sc__law_take.nd rfl (by first | exact Or.inl rfl | exact Or.inr rfl) (pe_op op_mod (pe_ix ix_list (pv 0) pe_int (fun _ _ => rfl)) (pv 1)))
      (pss_cons (ps_asg (pe_op op_fdivW (pe_ix ix_list (pv 0) pe_int (fun _ _ => rfl)) (pv 1)) (pg_sub (pv 0) pe_int set_list))
      (pss_one (ps_ret (pv 2))))) pss_nil)
      (pss_cons (ps_asg (pe_op op_add (pe_ix ix_list (pv 0) pe_int (fun _ _ => rfl)) pe_int) (pg_sub (pv 0) pe_int set_list))
      (pss_one (ps_ret (pe_op op_mod (pe_cal C__law_mixed (hr.mono (by decide)) (by rfl) T.g__law_mixed pL (pa_cons (pe_ix ix_list (pv 0) pe_int (fun _ _ => rfl)) (pa_cons (pe_ix ix_list (pv 0) pe_int (fun _ _ => rfl)) pa_nil))) (pv 1))))))), ?_⟩
    try simp only [kx1, kx2, kx3, kx4, kx5]
    refine ⟨_, rfl, a, _, _, _, rfl, rfl, SqL.of ha, rfl, _, _, rfl, rfl, (show CPow 10 18 from ⟨by decide, by decide, by decide⟩), _, _, rfl, rfl, _, rfl, ?_⟩
    have dv : CDivW x m := wide_div (b := 62) m0 (by omega) (by decide) (by decide)
    by_cases hx : (10 : Int) ^ (18 : Int).toNat ≤ x
    · refine if_true_of (decide_eq_true hx) ?_
      refine ⟨_, rfl, a, _, _, _, rfl, rfl, SqL.of ha, rfl, _, rfl, _, _, rfl, rfl, m0, ?_⟩
      refine ⟨_, rfl, a, _, _, _, rfl, rfl, SqL.of ha, rfl, _, rfl, _, _, rfl, rfl, dv, ?_⟩
      refine ⟨_, rfl, a, _, _, 0, rfl, rfl, ha, rfl, ?_⟩
      refine ⟨_, rfl, ?_⟩
      exact kk _ _ (Int.emod_nonneg _ (by omega)) (Int.emod_lt_of_pos _ m0) ⟨_, _, _, upd_same⟩ (.put ha)
    · refine if_false_of (decide_eq_false hx) ?_
      refine ⟨_, rfl, a, _, _, _, rfl, rfl, SqL.of ha, rfl, _, _, rfl, rfl, ?_⟩
      refine ⟨_, rfl, a, _, _, 2, rfl, rfl, ha, rfl, ?_⟩
      refine ⟨_, rfl, a, _, _, _, rfl, rfl, SqL.of upd_same, rfl, _, rfl, a, _, _, _, rfl, rfl, SqL.of upd_same, rfl, c, k + 1, rfl, fun r => ?_⟩
      refine ⟨_, rfl, _, _, rfl, rfl, m0, ?_⟩
      exact kk _ _ (Int.emod_nonneg _ (by omega)) (Int.emod_lt_of_pos _ m0) ⟨_, _, _, upd_same⟩ (.put ha)
theorem ok__law_names {P : Program} {w : World} {K : PySem.W.Frag} {mg : Str → Option Value} {base : Heap} {fd : FuncData} (T : Txt K mg) (F : FunD K "_law_names" "_law_names" (defArgs s__law_names) (defBody s__law_names) (defScope s__law_names) [] [] (He.ga K "_law_names") fd)
    (C__law_take : Cal P w K mg base 2 (He.ga K "_law_take") ["_law_source_here", "_law_many"] (spTake)) : FnOk P w K mg base (L2.CX P w) 3 (He.ga K "_law_names") fd ["_law_source_here", "_law_many"] (spDrawNames K) := by
  refine FunD.ok F sc__law_names (fun vs H Q E h => ?_) (fun cdv A outer s H vs Q E hr h => ?_)
  · obtain ⟨a, m, rfl, m0, m26, sr, k⟩ := h
    rfl
  · obtain ⟨a, m, rfl, m0, m26, sr, k⟩ := h
    refine ⟨_, (PSs.nox (pss_cons (ps_set (i := 2) sc__law_names.nd rfl (by first | exact Or.inl rfl | exact Or.inr rfl) pe_str)
      (pss_cons (ps_set (i := 3) sc__law_names.nd rfl (by first | exact Or.inl rfl | exact Or.inr rfl) (pe_cal C__law_take (hr.mono (by decide)) (by rfl) T.g__law_take pL (pa_cons (pv 0) (pa_cons pe_int pa_nil))))
      (pss_cons (ps_set (i := 4) sc__law_names.nd rfl (by first | exact Or.inl rfl | exact Or.inr rfl) (pe_join pe_str (pe_lcD (own := [("_law_k", 5)]) (by rfl) sc__law_names.nd (pi_range1 (by rfl) T.f_range (pa_cons pe_int pa_nil)) (blkOk_by (own := [("_law_k", 5)]) (N := ["_law_source_here", "_law_many", "_law_letters", "_law_start", "_law_stem", "_law_k", "_law_at", "_law_names_here", "_law_word"]) (sc := defScope s__law_names) (by decide +kernel)) (fun _ _ _ _ _ => (pg_name (i := 5) sc__law_names.nd rfl (by first | exact Or.inl rfl | exact Or.inr rfl))) (fun _ _ _ _ _ => pts_nil) (fun _ _ _ _ _ => (pe_ix ix_str (pv 2) (pe_cal C__law_take (hr.mono (by decide)) (by rfl) T.g__law_take pL (pa_cons (pv 0) (pa_cons pe_int pa_nil))) (fun _ _ => rfl))))))
      (pss_cons (ps_set (i := 6) sc__law_names.nd rfl (by first | exact Or.inl rfl | exact Or.inr rfl) (pe_cal C__law_take (hr.mono (by decide)) (by rfl) T.g__law_take pL (pa_cons (pv 0) (pa_cons pe_int pa_nil))))
      (pss_cons (ps_set (i := 7) sc__law_names.nd rfl (by first | exact Or.inl rfl | exact Or.inr rfl) (pe_lstN pa_nil))
      (pss_cons (ps_for PassesOwn.never (by rfl) (pi_range1 (by rfl) T.f_range (pa_cons (pv 1) pa_nil)) (pg_name (i := 5) sc__law_names.nd rfl (by first | exact Or.inl rfl | exact Or.inr rfl)) (pss_cons (ps_set (i := 8) sc__law_names.nd rfl (by first | exact Or.inl rfl | exact Or.inr rfl) (pe_op op_add_str (pe_slice sl_str (pv 4) po_none (po_some (pv 6))) (pe_ix ix_str (pv 2) (pe_op op_mod (pe_op op_add (pv 3) (pe_op op_mul pe_int (pv 5))) pe_int) (fun _ _ => rfl))))
      (pss_one (ps_expr (pe_bm PySem.F.plainAttrs_list PySem.F.slot_list_append PySem.F.type_list_append mt_append (pv 7) (pa_cons (pe_op op_add_str (pv 8) (pe_slice sl_str (pv 4) (po_some (pv 6)) (po_some (pe_op op_add (pv 6) (pe_cal C__law_take (hr.mono (by decide)) (by rfl) T.g__law_take pL (pa_cons (pv 0) (pa_cons pe_int pa_nil))))))) pa_nil))))))
      (pss_one (ps_ret (pv 7)))))))))), ?_⟩
    try simp only [kx1, kx2, kx3, kx4, kx5]
    refine ⟨_, rfl, a, 26, rfl, by decide, by decide, sr, fun r1 H1 r10 r11 sr1 st1 => ?_⟩
    refine ⟨⟨_, rfl⟩, 8, rfl, by decide, by decide, fun D hD => ?_⟩
    have nD : D ≠ a := sr1.ne hD
    refine lcR (D := D) (lo := 0) (n := 8) [a] hD (fun b hb => by have e : b = a := by simpa using hb
                                                                  subst e; obtain ⟨_, _, _, z⟩ := sr1; rw [z]; simp) (by decide) (fun i acc H' => Src H' a ∧ ∃ cs : List Nat, acc = cs.map (fun c => V.str ⟨#[c]⟩) ∧ cs.length = i ∧ ∀ c ∈ cs, c ∈ lets.cps.toList)
      (fun H' nw => ⟨sr1.nw nw, [], rfl, rfl, by simp⟩) (fun i acc H' Nx hi p st hDD pu sk => ?_) (fun acc H2 p st2 hDD => ?_)
    · obtain ⟨srx, cs, rfl, hcl, hcs⟩ := p
      refine ⟨rfl, _, rfl, _, rfl, a, 26, rfl, by decide, by decide, srx, fun r Hx r0 r1 srx2 stx => ⟨_, r, _, rfl, rfl, lets_small2, letter_at r0 r1, pu _ _ stx fun H'' s1 _ => ⟨srx2.keep s1 (by simpa using nD.symm), cs ++ [letter r.toNat], by simp, by simp [hcl], fun c hc => ?_⟩⟩⟩
      rcases List.mem_append.mp hc with z | z
      · exact hcs c z
      · have e : c = letter r.toNat := by simpa using z
        rw [e]; exact letter_in (by omega)
    obtain ⟨sr2, cs, rfl, hcl, hcs⟩ := p
    refine ⟨_, D, cs.map (fun c => (⟨#[c]⟩ : Str)), rfl, rfl, .inl (SqL.of (by rw [hDD, List.map_map]; rfl)), ?_, ?_⟩
    · have e : ((cs.map (fun c => (⟨#[c]⟩ : Str))).map (·.length)).sum = cs.length := by
        clear hcs hcl hDD
        induction cs with
        | nil => rfl
        | cons c r ih => rw [List.map_cons, List.map_cons, List.sum_cons, ih, List.length_cons, Nat.add_comm]; rfl
      have e2 : ("" : Str).length = 0 := by decide +kernel
      rw [e, hcl, e2, Nat.mul_zero]; decide
    rw [join_signs]
    refine ⟨_, rfl, a, 4, rfl, by decide, by decide, sr2, fun at' H3 at0 at1 sr3 st3 => ?_⟩
    refine ⟨by show 0 ≤ sizeLine; decide, fun L H4 n4 => ?_⟩
    have sr4 := sr3.nw n4
    have nL : L ∉ [a] := sr3.out n4
    have s3 : Stp [a] H H3 := (st1.trans st2).trans st3
    have L0 : H L = none := s3.f _ n4.n
    have s4 : Stp [a] H H4 := s3.trans (n4.s _)
    have csm : (sOf cs).length ≤ sizeLine := by rw [sOf_len, hcl]; decide
    refine ⟨_, rfl, m, rfl, by omega, by omega, for_range (lo := 0) (n := m.toNat) (fun i σ H' => ∃ (ns : List Str) (r5 r8 : Option V), σ = [some (.ref a), some (.int m), some (.str lets), some (.int r1), some (.str (sOf cs)), r5, some (.int at'), some (.ref L), r8] ∧ Stp [a] H H' ∧ Src H' a ∧ H' L = some (.lst (ns.map V.str)) ∧ ns.length = i ∧
        (∀ n ∈ ns, isNm n = true ∧ ∃ j, j < i ∧ n.cps.toList[at'.toNat]? = some (letter ((r1 + 7 * (j : Nat)) % 26).toNat)) ∧ ns.Nodup)
      ⟨[], none, none, rfl, s4, sr4, n4.a, rfl, by simp, .nil⟩ ?_ ?_⟩
    · rintro i σ H' hi ⟨ns, r5, r8, rfl, st, srx, hL, hln, hns, hnd⟩
      have q0 : 0 ≤ (r1 + 7 * (0 + (i : Int))) % 26 := Int.emod_nonneg _ (by decide)
      have q1 : (r1 + 7 * (0 + (i : Int))) % 26 < 26 := Int.emod_lt_of_pos _ (by decide)
      have hcut : cutS (sOf cs) none (some at') = sOf (cs.take at'.toNat) := cutS_to at0
      refine ⟨_, rfl, _, rfl, _, rfl, sOf cs, rfl, csm, _, rfl, _, rfl, _, rfl, _, _, rfl, rfl, .inl (by decide), _, _, rfl, rfl, _, _, rfl, rfl, (by show (0 : Int) < 26; decide), _, _, _, rfl, rfl, lets_small2, letter_at q0 q1, _, _, rfl, rfl, ?_, ?_⟩
      · rw [hcut, sOf_len]
        show (cs.take at'.toNat).length + 1 ≤ sizeLine
        rw [List.length_take, sizeLine_eq]; omega
      rw [hcut]
      have e1 : sOf (cs.take at'.toNat) ++ (⟨#[letter ((r1 + 7 * (0 + (i : Int))) % 26).toNat]⟩ : Str) = sOf (cs.take at'.toNat ++ [letter ((r1 + 7 * (0 + (i : Int))) % 26).toNat]) := sOf_app _ [_]
      rw [e1]
      refine ⟨_, rfl, .inl ⟨rfl, _, SqL.of hL⟩, _, rfl, _, rfl, _, rfl, _, rfl, _, rfl, _, rfl, a, 5, rfl, by decide, by decide, srx, fun t Hx t0 t1 srx2 stx => ⟨_, _, rfl, rfl, _, rfl, sOf cs, rfl, csm, ?_⟩⟩
      have hcut2 : cutS (sOf cs) (some at') (some (at' + t)) = sOf ((cs.drop at'.toNat).take ((at' + t).toNat - at'.toNat)) := cutS_at at0 (by omega) (by rw [hcl]; omega)
      rw [hcut2]
      have hLx := stx.k _ _ nL hL
      refine ⟨_, _, rfl, rfl, ?_, L, _, _, rfl, rfl, hLx, ?_, ?_⟩
      · rw [sOf_len, sOf_len, List.length_append, List.length_take, List.length_take, List.length_drop, sizeLine_eq, List.length_singleton]; omega
      · rw [List.length_map, hln, sizeLine_eq]; omega
      rw [sOf_app]
      have hw : isNm (sOf (cs.take at'.toNat ++ [letter ((r1 + 7 * (0 + (i : Int))) % 26).toNat] ++ (cs.drop at'.toNat).take ((at' + t).toNat - at'.toNat))) = true := by
        refine isNm_of ?_ ?_ fun c hc => ?_
        · simp only [List.length_append, List.length_singleton]; omega
        · simp only [List.length_append, List.length_singleton, List.length_take, List.length_drop]; omega
        · rcases List.mem_append.mp hc with hc | hc
          · rcases List.mem_append.mp hc with hc | hc
            · exact hcs c (List.mem_of_mem_take hc)
            · have e : c = letter ((r1 + 7 * (0 + (i : Int))) % 26).toNat := by simpa using hc
              rw [e]; exact letter_in (by omega)
          · exact hcs c (List.mem_of_mem_drop (List.mem_of_mem_take hc))
      have hs : (sOf (cs.take at'.toNat ++ [letter ((r1 + 7 * (0 + (i : Int))) % 26).toNat] ++ (cs.drop at'.toNat).take ((at' + t).toNat - at'.toNat))).cps.toList[at'.toNat]? = some (letter ((r1 + 7 * (i : Nat)) % 26).toNat) := by
        rw [sOf_list, List.append_assoc, List.getElem?_append_right (by rw [List.length_take]; omega)]
        have e : at'.toNat - (cs.take at'.toNat).length = 0 := by rw [List.length_take]; omega
        rw [e, Int.zero_add]; rfl
      generalize sOf (cs.take at'.toNat ++ [letter ((r1 + 7 * (0 + (i : Int))) % 26).toNat] ++ (cs.drop at'.toNat).take ((at' + t).toNat - at'.toNat)) = wd at hw hs ⊢
      refine ⟨ns ++ [wd], _, _, rfl, (st.trans stx).putNew hLx L0, srx2.put (by simpa using nL), by rw [upd_same, List.map_append]; rfl, by simp [hln], fun n hn => ?_, ?_⟩
      · rcases List.mem_append.mp hn with z | z
        · obtain ⟨h1, j, h2, h3⟩ := hns n z
          exact ⟨h1, j, by omega, h3⟩
        · have e : n = wd := by simpa using z
          rw [e]
          exact ⟨hw, i, by omega, hs⟩
      · rw [List.nodup_append]
        refine ⟨hnd, by simp, fun x hx y hy e => ?_⟩
        have ey : y = wd := by simpa using hy
        subst e ey
        obtain ⟨_, j, h2, h3⟩ := hns x hx
        rw [hs] at h3
        injection h3 with h3
        have h4 := letter_inj (by omega) (by omega) h3
        omega
    · rintro σ H' ⟨ns, r5, r8, rfl, st, srx, hL, hln, hns, hnd⟩
      exact ⟨_, rfl, k H' L ns st srx L0 hL hln (fun n hn => (hns n hn).1) hnd⟩
theorem ok__law_line_of {P : Program} {w : World} {K : PySem.W.Frag} {mg : Str → Option Value} {base : Heap} {fd : FuncData} (T : Txt K mg) (F : FunD K "_law_line_of" "_law_line_of" (defArgs s__law_line_of) (defBody s__law_line_of) (defScope s__law_line_of) [] [] (He.ga K "_law_line_of") fd)
    (C__law_take : Cal P w K mg base 2 (He.ga K "_law_take") ["_law_source_here", "_law_many"] (spTake))
    (C__law_names : Cal P w K mg base 3 (He.ga K "_law_names") ["_law_source_here", "_law_many"] (spDrawNames K)) : FnOk P w K mg base (L2.CX P w) 4 (He.ga K "_law_line_of") fd ["_law_source_here"] (spDrawLine K) := by
  refine FunD.ok F sc__law_line_of (fun vs H Q E h => ?_) (fun cdv A outer s H vs Q E hr h => ?_)
  · obtain ⟨a, rfl, sr, k⟩ := h
    rfl
  · obtain ⟨a, rfl, sr, k⟩ := h
    refine ⟨_, (PSs.nox (pss_cons (ps_set (i := 1) sc__law_line_of.nd rfl (by first | exact Or.inl rfl | exact Or.inr rfl) (pe_cal C__law_names (hr.mono (by decide)) (by rfl) T.g__law_names pL (pa_cons (pv 0) (pa_cons (pe_op op_add pe_int (pe_cal C__law_take (hr.mono (by decide)) (by rfl) T.g__law_take pL (pa_cons (pv 0) (pa_cons pe_int pa_nil)))) pa_nil))))
      (pss_cons (ps_setLcD (i := 2) (own := [("_law_name", 3)]) (by rfl) sc__law_line_of.nd rfl rfl (sw_true rfl rfl rfl (by decide +kernel)) (pi_list (pv 1)) (blkOk_by (own := [("_law_name", 3)]) (N := ["_law_source_here", "_law_names_here", "_law_halts", "_law_name", "_law_rails", "_law_k", "_law_one", "_law_far", "_law_minutes", "_law_found"]) (sc := defScope s__law_line_of) (by decide +kernel)) (fun _ _ _ _ _ => (pg_name (i := 3) sc__law_line_of.nd rfl (by first | exact Or.inl rfl | exact Or.inr rfl))) (fun _ _ _ _ _ => pts_nil) (fun _ _ _ _ _ => (pe_tupN (pa_cons (pv 3) (pa_cons (pe_op op_add pe_int (pe_cal C__law_take (hr.mono (by decide)) (by rfl) T.g__law_take pL (pa_cons (pv 0) (pa_cons pe_int pa_nil)))) pa_nil)))))
      (pss_cons (ps_set (i := 4) sc__law_line_of.nd rfl (by first | exact Or.inl rfl | exact Or.inr rfl) (pe_lstN pa_nil))
      (pss_cons (ps_for PassesOwn.never (by rfl) (pi_range1 (by rfl) T.f_range (pa_cons (pe_op op_mul (pe_cal C__law_take (hr.mono (by decide)) (by rfl) T.g__law_take pL (pa_cons (pv 0) (pa_cons pe_int pa_nil))) (pe_callTy call_int1 (by rfl) T.f_int (by decide +kernel) (pa_cons (pe_cmpR op_gt (pe_callB call_len_seq (by rfl) T.f_len (by decide +kernel) (pa_cons (pv 1) pa_nil)) pe_int (nomark _)) pa_nil))) pa_nil)) (pg_name (i := 5) sc__law_line_of.nd rfl (by first | exact Or.inl rfl | exact Or.inr rfl)) (pss_cons (ps_set (i := 6) sc__law_line_of.nd rfl (by first | exact Or.inl rfl | exact Or.inr rfl) (pe_cal C__law_take (hr.mono (by decide)) (by rfl) T.g__law_take pL (pa_cons (pv 0) (pa_cons (pe_callB call_len_seq (by rfl) T.f_len (by decide +kernel) (pa_cons (pv 1) pa_nil)) pa_nil))))
      (pss_cons (ps_set (i := 7) sc__law_line_of.nd rfl (by first | exact Or.inl rfl | exact Or.inr rfl) (pe_op op_mod (pe_op op_add (pe_op op_add (pv 6) pe_int) (pe_cal C__law_take (hr.mono (by decide)) (by rfl) T.g__law_take pL (pa_cons (pv 0) (pa_cons (pe_op op_sub (pe_callB call_len_seq (by rfl) T.f_len (by decide +kernel) (pa_cons (pv 1) pa_nil)) pe_int) pa_nil)))) (pe_callB call_len_seq (by rfl) T.f_len (by decide +kernel) (pa_cons (pv 1) pa_nil))))
      (pss_cons (ps_set (i := 8) sc__law_line_of.nd rfl (by first | exact Or.inl rfl | exact Or.inr rfl) (pe_ix ix_list (pe_lstN (pa_cons (pe_op op_add pe_int (pe_cal C__law_take (hr.mono (by decide)) (by rfl) T.g__law_take pL (pa_cons (pv 0) (pa_cons pe_int pa_nil)))) (pa_cons (pe_op op_add pe_int (pe_cal C__law_take (hr.mono (by decide)) (by rfl) T.g__law_take pL (pa_cons (pv 0) (pa_cons pe_int pa_nil)))) (pa_cons pe_int pa_nil)))) (pe_cal C__law_take (hr.mono (by decide)) (by rfl) T.g__law_take pL (pa_cons (pv 0) (pa_cons pe_int pa_nil))) (fun _ _ => rfl)))
      (pss_one (ps_expr (pe_bm PySem.F.plainAttrs_list PySem.F.slot_list_append PySem.F.type_list_append mt_append (pv 4) (pa_cons (pe_tupN (pa_cons (pe_ix ix_list (pv 1) (pv 6) (fun _ _ => rfl)) (pa_cons (pe_ix ix_list (pv 1) (pv 7) (fun _ _ => rfl)) (pa_cons (pv 8) pa_nil)))) pa_nil))))))))
      (pss_cons (ps_set (i := 9) sc__law_line_of.nd rfl (by first | exact Or.inl rfl | exact Or.inr rfl) (pe_disp (pps_cons pe_str (pv 2) (pps_cons pe_str (pv 4) pps_nil)) (by rfl) (by rfl) (fun z => by cases z) (by decide)))
      (pss_cons (ps_dput (hu_of hr) (pv 9) pe_str (pe_op op_add pe_int (pe_cal C__law_take (hr.mono (by decide)) (by rfl) T.g__law_take pL (pa_cons (pv 0) (pa_cons pe_int pa_nil)))) rfl)
      (pss_cons (ps_dput (hu_of hr) (pv 9) pe_str (pe_op op_add pe_int (pe_cal C__law_take (hr.mono (by decide)) (by rfl) T.g__law_take pL (pa_cons (pv 0) (pa_cons pe_int pa_nil)))) rfl)
      (pss_cons (ps_dput (hu_of hr) (pv 9) pe_str (pe_cal C__law_take (hr.mono (by decide)) (by rfl) T.g__law_take pL (pa_cons (pv 0) (pa_cons pe_int pa_nil))) rfl)
      (pss_one (ps_ret (pv 9)))))))))))), ?_⟩
    try simp only [kx1, kx2, kx3, kx4, kx5]
    refine ⟨_, rfl, _, rfl, a, 8, rfl, by decide, by decide, sr, fun r1 H1 r10 r11 sr1 st1 => ⟨_, _, rfl, rfl, a, 1 + r1, rfl, by omega, by omega, sr1, fun H2 N ns st2 sr2 hN0 hN nl nnm nnd => ?_⟩⟩
    have nN : N ≠ a := sr1.ne hN0
    refine ⟨_, rfl, N, rfl, ⟨_, SqL.of hN⟩, fun D hD => ?_⟩
    have nD : D ≠ a := sr2.ne hD
    refine lcL (K := K) (D := D) (a := N) (xs := ns.map V.str) [a] hD sr2.has (by rw [List.length_map, sizeLine_eq]; omega) (fun i acc H' => Src H' a ∧ ∃ qs : List (Str × Int), TdAll K [] H' acc (placesD qs) ∧ qs.map (·.1) = ns.take i ∧ ∀ q ∈ qs, 1 ≤ q.2 ∧ q.2 ≤ 3)
      (fun H' nw => ⟨sr2.nw nw, [], .nil, rfl, by simp⟩) (fun i acc H' _ st => SqL.of (st.k _ _ (by simpa using nN) hN)) (fun i x acc H' Nx hx p st hDD pu sk => ?_) (fun acc H3 p st3 hDD => ?_)
    · obtain ⟨srx, qs, tq, hq, hb⟩ := p
      rw [List.getElem?_map] at hx
      obtain ⟨nm, hnm, rfl⟩ := Option.map_eq_some_iff.mp hx
      refine ⟨rfl, _, rfl, _, rfl, a, 3, rfl, by decide, by decide, srx, fun r Hx r0 r1 srx2 stx => ⟨_, _, rfl, rfl, by show 2 ≤ sizeLine; decide, fun q Hq nq => pu _ _ (stx.trans (nq.s _)) fun H'' s1 _ => ?_⟩⟩
      refine ⟨(srx2.nw nq).keep s1 (by simpa using nD.symm), qs ++ [(nm, 1 + r)], ?_, by rw [List.map_append, hq, take_at hnm]; rfl, fun z hz => ?_⟩
      · exact ((tq.flatMono (flat_places _) stx).plc nq).flatMono (flat_places _) s1
      · rcases List.mem_append.mp hz with z1 | z1
        · exact hb z z1
        · have e : z = (nm, 1 + r) := by simpa using z1
          rw [e]; constructor <;> simp only <;> omega
    obtain ⟨sr3, ps, tps, hps, hpb⟩ := p
    rw [List.length_map, List.take_length] at hps
    have hpl : Places ps := ⟨by have := congrArg List.length hps; rw [List.length_map] at this; omega, by have := congrArg List.length hps; rw [List.length_map] at this; omega, fun p hp => ⟨nnm _ (by rw [← hps]; exact List.mem_map.mpr ⟨p, hp, rfl⟩), hpb p hp⟩, by rw [hps]; exact nnd⟩
    refine ⟨by show 0 ≤ sizeLine; decide, fun R H4 n4 => ?_⟩
    have sr4 := sr3.nw n4
    have nR : R ∉ [a] := sr3.out n4
    have N4 : Stp [a] H2 H4 := st3.trans (n4.s _)
    refine ⟨_, rfl, a, 13, rfl, by decide, by decide, sr4, fun r3 H5 r30 r31 sr5 st5 => ?_⟩
    have hN5 := (N4.trans st5).k _ _ (show N ∉ [a] by simpa using nN) hN
    refine ⟨_, rfl, N, _, rfl, .inl (SqL.of hN5), _, _, rfl, rfl, ?_⟩
    refine .inr ⟨_, rfl, _, _, rfl, rfl, .inl (by omega), _, rfl, ?_⟩
    have hlen : ((ns.map V.str).length : Int) = ns.length := by rw [List.length_map]
    obtain ⟨bb, hbb⟩ : ∃ bb : Bool, bb = decide (((ns.map V.str).length : Int) > 1) := ⟨_, rfl⟩
    rw [← hbb]
    obtain ⟨cnt, hcnt⟩ : ∃ cnt : Int, cnt = r3 * (if bb = true then 1 else 0) := ⟨_, rfl⟩
    rw [← hcnt]
    have c0 : 0 ≤ cnt ∧ cnt ≤ 12 ∧ (0 < cnt → 2 ≤ ns.length) := by
      cases bb with
      | false => rw [hcnt]; simp
      | true =>
        have h1 : ((ns.map V.str).length : Int) > 1 := of_decide_eq_true hbb.symm
        rw [hcnt]; simp; omega
    have s5 : Stp [a] H H5 := (((st1.trans st2).trans st3).trans (n4.s _)).trans st5
    have R0 : H R = none := (((st1.trans st2).trans st3)).f _ n4.n
    have D0 : H D = none := ((st1.trans st2)).f _ hD
    have hR5 := st5.k _ _ nR n4.a
    have hN3 := st3.k _ _ (show N ∉ [a] by simpa using nN) hN
    have nNR : N ∉ [a, R] := by
      have e : N ≠ R := ne_of_none hN3 n4.n
      simpa using ⟨nN, e⟩
    have nDR : D ∉ [a, R] := by
      have e : D ≠ R := ne_of_none hDD n4.n
      simpa using ⟨nD, e⟩
    have hD5 := ((n4.s _).trans st5).k _ _ (show D ∉ [a] by simpa using nD) hDD
    refine ⟨by omega, by omega, for_range (lo := 0) (n := cnt.toNat) (fun i σ H' => ∃ (rs : List (Str × Str × Int)) (ys : List V) (r3 r5 r6 r7 r8 r9 : Option V), σ = [some (.ref a), some (.ref N), some (.ref D), r3, some (.ref R), r5, r6, r7, r8, r9] ∧ Stp [a] H H' ∧ Stp [a, R] H5 H' ∧ Src H' a ∧ H' R = some (.lst ys) ∧ TdAll K [] H' ys (railsD rs) ∧ rs.length = i ∧ ∀ r ∈ rs, Rail ns r)
      ⟨[], [], none, none, none, none, none, none, rfl, s5, .refl _, sr5, hR5, .nil, rfl, by simp⟩ ?_ ?_⟩
    · rintro i σ H' hi ⟨rs, ys, r3, r5, r6, r7, r8, r9, rfl, st, sth, srx, hR, ty, hrl, hrr⟩
      have l2 : 2 ≤ ns.length := c0.2.2 (by omega)
      have hNx := sth.k _ _ nNR hN5
      have up : ∀ {X Y : Hp}, Stp [a] X Y → Stp [a, R] X Y := fun s => s.mono (by simp)
      refine ⟨_, rfl, _, rfl, N, _, rfl, .inl (SqL.of hNx), a, _, rfl, by rw [hlen]; omega, by rw [hlen]; omega, srx, fun o Ha o0 o1 sra sta => ?_⟩
      rw [hlen] at o1
      have hNa := sta.k _ _ (show N ∉ [a] by simpa using nN) hNx
      refine ⟨_, rfl, _, _, rfl, rfl, _, rfl, _, rfl, N, _, rfl, .inl (SqL.of hNa), _, _, rfl, rfl, a, _, rfl, by rw [hlen]; omega, by rw [hlen]; omega, sra, fun f Hb f0 f1 srb stb => ?_⟩
      rw [hlen] at f1
      have hNb := stb.k _ _ (show N ∉ [a] by simpa using nN) hNa
      refine ⟨_, _, rfl, rfl, _, rfl, N, _, rfl, .inl (SqL.of hNb), _, _, rfl, rfl, by rw [hlen]; omega, ?_⟩
      rw [hlen]
      have q0 := Int.emod_nonneg (o + 1 + f) (show (ns.length : Int) ≠ 0 by omega)
      have q1 := Int.emod_lt_of_pos (o + 1 + f) (show (0 : Int) < ns.length by omega)
      have qne : (o + 1 + f) % (ns.length : Int) ≠ o := by
        intro e
        by_cases hc : o + 1 + f < ns.length
        · rw [Int.emod_eq_of_lt (by omega) hc] at e; omega
        · have e2 : (o + 1 + f) % (ns.length : Int) = (o + 1 + f - ns.length) % ns.length := by rw [Int.sub_emod_right]
          rw [e2, Int.emod_eq_of_lt (by omega) (by omega)] at e; omega
      obtain ⟨fa, hfa⟩ : ∃ fa, (o + 1 + f) % (ns.length : Int) = fa := ⟨_, rfl⟩
      rw [hfa] at q0 q1 qne
      refine ⟨_, rfl, a, 99, rfl, by decide, by decide, srb, fun m1 Hc m10 m11 src stc => ⟨_, _, rfl, rfl, _, rfl, a, 9, rfl, by decide, by decide, src, fun m2 Hd m20 m21 srd std => ⟨_, _, rfl, rfl, by show 3 ≤ sizeLine; decide, fun q He ne => ⟨_, rfl, a, 3, rfl, by decide, by decide, srd.nw ne, fun c Hf cc0 cc1 srf stf => ?_⟩⟩⟩⟩
      obtain ⟨mi, hmi, mi0, mi1⟩ : ∃ mi, atI [V.int (1 + m1), .int (1 + m2), .int 99] c = some (.int mi) ∧ 1 ≤ mi ∧ mi ≤ 99 := by
        have : c = 0 ∨ c = 1 ∨ c = 2 := by omega
        rcases this with rfl | rfl | rfl
        · exact ⟨_, rfl, by omega, by omega⟩
        · exact ⟨_, rfl, by omega, by omega⟩
        · exact ⟨99, rfl, by decide, by decide⟩
      have nq := srd.out ne
      refine ⟨q, _, _, _, rfl, rfl, SqL.of (stf.k _ _ nq ne.a), hmi, ?_⟩
      have sHf : Stp [a] H' Hf := ((((sta.trans stb).trans stc).trans std).trans (ne.s _)).trans stf
      have hRf := sHf.k _ _ nR hR
      have hNf := sHf.k _ _ (show N ∉ [a] by simpa using nN) hNx
      obtain ⟨z1, hz1⟩ : ∃ z, ns[o.toNat]? = some z := ⟨_, List.getElem?_eq_getElem (by omega)⟩
      obtain ⟨z2, hz2⟩ : ∃ z, ns[fa.toNat]? = some z := ⟨_, List.getElem?_eq_getElem (by omega)⟩
      refine ⟨_, rfl, .inl ⟨rfl, _, SqL.of hRf⟩, _, rfl, _, rfl, N, _, _, _, rfl, rfl, SqL.of hNf, atI_int o0 (strs_at hz1), _, rfl, _, rfl, N, _, _, _, rfl, rfl, SqL.of hNf, atI_int (by rw [hfa]; exact q0) (by rw [hfa]; exact strs_at hz2), _, rfl, by show 3 ≤ sizeLine; decide, fun t Hg ng => ?_⟩
      have hRg := (ng.s []).k _ _ (by simp) hRf
      have hyl : ys.length = i := by rw [ty.len]; simp [railsD, hrl]
      refine ⟨R, _, _, rfl, rfl, hRg, by rw [hyl, sizeLine_eq]; omega, ?_⟩
      have wR : Stp [R] Hg (upd Hg R (.lst (ys ++ [.ref t]))) := .put hRg
      refine ⟨rs ++ [(z1, z2, mi)], _, _, _, _, _, _, _, rfl, (st.trans (sHf.trans (ng.s _))).putNew hRg R0, sth.trans ((up (sHf.trans (ng.s _))).trans (wR.mono (by simp))), (srf.nw ng).keep wR (by simpa using (show a ≠ R from fun e => nR (by simp [e]))), upd_same, ?_, by simp [hrl], fun r hr => ?_⟩
      · exact ((ty.flatMono (flat_rails _) sHf).ral ng).flatMono (flat_rails _) wR
      · rcases List.mem_append.mp hr with z | z
        · exact hrr r z
        · have e : r = (z1, z2, mi) := by simpa using z
          rw [e]
          refine ⟨nnm _ (List.mem_of_getElem? hz1), nnm _ (List.mem_of_getElem? hz2), fun e2 => qne ?_, List.mem_of_getElem? hz1, List.mem_of_getElem? hz2, mi0, mi1⟩
          have e3 : z1 = z2 := e2
          subst e3
          obtain ⟨a1, b1⟩ := List.getElem?_eq_some_iff.mp hz1
          obtain ⟨a2, b2⟩ := List.getElem?_eq_some_iff.mp hz2
          have := (List.getElem_inj (h₀ := a1) (h₁ := a2) nnd).mp (b1.trans b2.symm)
          omega
    · rintro σ H' ⟨rs, ys, r3, r5, r6, r7, r8, r9, rfl, st, sth, srx, hR, ty, hrl, hrr⟩
      refine fun p hp => ⟨_, rfl, _, rfl, upd_same, [(.inr "places", .ref D), (.inr "sections", .ref R)], rfl, by show 2 ≤ 15; decide, ?_⟩
      have np : Nw H' (upd (upd H' p (.dK [])) p (.dK (mergeK [] [(.inr "places", .ref D), (.inr "sections", .ref R)]))) p (.dK (mergeK [] [(.inr "places", .ref D), (.inr "sections", .ref R)])) := nw2 hp
      generalize upd (upd H' p (.dK [])) p (.dK (mergeK [] [(.inr "places", .ref D), (.inr "sections", .ref R)])) = J1 at np ⊢
      have nap : p ≠ a := srx.ne hp
      have srJ := srx.nw np
      refine ⟨_, rfl, a, 9, rfl, by decide, by decide, srJ, fun g J2 g0 g1 sr2' st2' => ⟨_, _, rfl, rfl, _, rfl, p, _, rfl, DPut.k (k := .inr "gap") (st2'.k _ _ (by simpa using nap) np.a) (by show 2 < sizeLine; decide), ?_⟩⟩
      have h2 : J2 p = some (.dK [(.inr "places", .ref D), (.inr "sections", .ref R)]) := st2'.k _ _ (by simpa using nap) np.a
      have w2 : Wr J2 (upd J2 p (.dK (putK (mergeK [] [(.inr "places", .ref D), (.inr "sections", .ref R)]) (.inr "gap") (.int (1 + g))))) p (.dK [(.inr "places", .ref D), (.inr "sections", .ref R), (.inr "gap", .int (1 + g))]) := .mk' h2
      have sr3' := sr2'.put (o := .dK (putK (mergeK [] [(.inr "places", .ref D), (.inr "sections", .ref R)]) (.inr "gap") (.int (1 + g)))) nap
      generalize upd J2 p (.dK (putK (mergeK [] [(.inr "places", .ref D), (.inr "sections", .ref R)]) (.inr "gap") (.int (1 + g)))) = J3 at w2 sr3' ⊢
      refine ⟨_, rfl, a, 9, rfl, by decide, by decide, sr3', fun s J4 s0 s1 sr4' st4' => ⟨_, _, rfl, rfl, _, rfl, p, _, rfl, DPut.k (k := .inr "stop") (st4'.k _ _ (by simpa using nap) w2.a) (by show 3 < sizeLine; decide), ?_⟩⟩
      have h4 := st4'.k _ _ (show p ∉ [a] by simpa using nap) w2.a
      have w4 : Wr J4 (upd J4 p (.dK (putK [(.inr "places", .ref D), (.inr "sections", .ref R), (.inr "gap", .int (1 + g))] (.inr "stop") (.int (1 + s))))) p (.dK [(.inr "places", .ref D), (.inr "sections", .ref R), (.inr "gap", .int (1 + g)), (.inr "stop", .int (1 + s))]) := .mk' h4
      have sr5' := sr4'.put (o := .dK (putK [(.inr "places", .ref D), (.inr "sections", .ref R), (.inr "gap", .int (1 + g))] (.inr "stop") (.int (1 + s)))) nap
      generalize upd J4 p (.dK (putK [(.inr "places", .ref D), (.inr "sections", .ref R), (.inr "gap", .int (1 + g))] (.inr "stop") (.int (1 + s)))) = J5 at w4 sr5' ⊢
      refine ⟨_, rfl, a, 10, rfl, by decide, by decide, sr5', fun w J6 w0 w1 sr6' st6' => ⟨_, rfl, p, _, rfl, DPut.k (k := .inr "away") (st6'.k _ _ (by simpa using nap) w4.a) (by show 4 < sizeLine; decide), ?_⟩⟩
      have h6 := st6'.k _ _ (show p ∉ [a] by simpa using nap) w4.a
      have w6 : Wr J6 (upd J6 p (.dK (putK [(.inr "places", .ref D), (.inr "sections", .ref R), (.inr "gap", .int (1 + g)), (.inr "stop", .int (1 + s))] (.inr "away") (.int w)))) p (.dK [(.inr "places", .ref D), (.inr "sections", .ref R), (.inr "gap", .int (1 + g)), (.inr "stop", .int (1 + s)), (.inr "away", .int w)]) := .mk' h6
      have sr7' := sr6'.put (o := .dK (putK [(.inr "places", .ref D), (.inr "sections", .ref R), (.inr "gap", .int (1 + g)), (.inr "stop", .int (1 + s))] (.inr "away") (.int w))) nap
      generalize upd J6 p (.dK (putK [(.inr "places", .ref D), (.inr "sections", .ref R), (.inr "gap", .int (1 + g)), (.inr "stop", .int (1 + s))] (.inr "away") (.int w))) = J7 at w6 sr7' ⊢
      have sJ : Stp [a, p] H' J7 := (((((np.s _).trans (st2'.mono (by simp))).trans (w2.s.mono (by simp))).trans (st4'.mono (by simp))).trans (w4.s.mono (by simp))).trans ((st6'.mono (by simp)).trans (w6.s.mono (by simp)))
      have nn : ∀ {b : Addr} {o : HO}, b ≠ a → H' b = some o → b ∉ [a, p] := fun {b o} h1 h2 => by
        have h3 : b ≠ p := ne_of_none h2 hp
        simpa using ⟨h1, h3⟩
      have hDx := sth.k _ _ nDR hD5
      have sF : Stp [a] H J7 := ⟨fun b o hb h => sJ.k b o (nn (by simpa using hb) (st.k b o hb h)) (st.k b o hb h), fun b xs h => sJ.t b xs (st.t b xs h), fun b o u h => sJ.z b o u (st.z b o u h), fun b h => st.f b (sJ.f b h)⟩
      refine ⟨_, rfl, k J7 p D R ps rs (1 + g) (1 + s) w sF sr7' (st.f p hp) D0 R0 ⟨w6.a, ⟨acc, ys, sJ.k _ _ (nn nD hDx) hDx, ?_, sJ.k _ _ (nn (by simpa using nR) hR) hR, ty.flatMono (flat_rails _) sJ⟩, ⟨hpl, ⟨by omega, fun r hr => by rw [hps]; exact hrr r hr⟩, by omega, by omega, by omega⟩⟩⟩
      exact (((tps.flatMono (flat_places _) ((n4.s _).trans st5)).flatMono (flat_places _) sth).flatMono (flat_places _) sJ)
theorem ok__law_whole {P : Program} {w : World} {K : PySem.W.Frag} {mg : Str → Option Value} {base : Heap} {fd : FuncData} (T : Txt K mg) (F : FunD K "_law_whole" "_law_whole" (defArgs s__law_whole) (defBody s__law_whole) (defScope s__law_whole) [] [] (He.ga K "_law_whole") fd)
     : FnOk P w K mg base (L2.CX P w) 1 (He.ga K "_law_whole") fd ["_law_found"] (spWhole K) := by
  refine FunD.ok F sc__law_whole (fun vs H Q E h => ?_) (fun cdv A outer s H vs Q E hr h => ?_)
  · obtain ⟨v, A0, d, rfl, td, k⟩ := h
    rfl
  · obtain ⟨v, A0, d, rfl, td, k⟩ := h
    refine ⟨_, (PSs.nox (pss_one (ps_ret (pe_and (pe_callB (call_isD (T := "int") (by decide)) (by rfl) T.f_isinstance (by decide +kernel) (pa_cons (pv 0) (pa_cons (pe_bltn (v := .ty "int") (by rfl) T.f_int (by decide +kernel) rfl) pa_nil))) (pe_one (pe_not (pe_callB (call_isD (T := "bool") (by decide)) (by rfl) T.f_isinstance (by decide +kernel) (pa_cons (pv 0) (pa_cons (pe_bltn (v := .ty "bool") (by rfl) T.f_bool (by decide +kernel) rfl) pa_nil))))))))), ?_⟩
    try simp only [kx1, kx2, kx3, kx4, kx5]
    refine ⟨_, rfl, _, A0, d, rfl, td, _, rfl, ?_⟩
    cases d with
    | int i => exact iteT ⟨_, rfl, _, A0, _, rfl, td, _, rfl, k⟩
    | bool b => exact iteT ⟨_, rfl, _, A0, _, rfl, td, _, rfl, k⟩
    | _ => exact iteF k
def spRight (K : PySem.W.Frag) : Sp := fun vs H Q _ => ∃ x p pa ra ps rs g s w, vs = [.ref x, .ref p] ∧ LineAt K H x ps rs g s w ∧ Drawn K H p pa ra ps rs g s w ∧ ∀ H', Stp [] H H' → Q (.bl true) H'
theorem ok__law_right {P : Program} {w : World} {K : PySem.W.Frag} {mg : Str → Option Value} {base : Heap} {fd : FuncData} (T : Txt K mg) (F : FunD K "_law_right" "_law_right" (defArgs s__law_right) (defBody s__law_right) (defScope s__law_right) [] [] (He.ga K "_law_right") fd)
    (C_Linedd_strdd : Cal P w K mg base 1 (He.ma K (He.ga K "Line") "__str__") ["self"] (spLineStr K))
    (C_Linedd_lendd : Cal P w K mg base 1 (He.ma K (He.ga K "Line") "__len__") ["self"] (spLineLen K))
    (C__law_whole : Cal P w K mg base 1 (He.ga K "_law_whole") ["_law_found"] (spWhole K))
    (C_Line_tracks : Cal P w K mg base 1 (He.ma K (He.ga K "Line") "tracks") ["self"] (spTracks K))
    (K_Line_platforms_0_place : CalK P w K mg base 3 (He.ma K (He.ga K "Line") "platforms") ["self", "place"] (spPlatforms K) 1 ["place"] (fun us ws => (us.drop 0).take 1 ++ ((ws.drop 0).take 1)))
    (C_Line_platforms : Cal P w K mg base 3 (He.ma K (He.ga K "Line") "platforms") ["self", "place"] (spPlatforms K))
    (C_Line_names : Cal P w K mg base 1 (He.ma K (He.ga K "Line") "names") ["self"] (spNames K)) : FnOk P w K mg base (L2.CX P w) 4 (He.ga K "_law_right") fd ["_law_line", "_law_drawn"] (spRight K) := by
  refine FunD.ok F sc__law_right (fun vs H Q E h => ?_) (fun cdv A outer s H vs Q E hr h => ?_)
  · obtain ⟨x, p, pa, ra, ps, rs, g, s, w, rfl, la, dr, k⟩ := h
    rfl
  · obtain ⟨x, p, pa, ra, ps, rs, g, s, w, rfl, la, dr, k⟩ := h
    refine ⟨_, (PSs.nox (pss_cons (ps_setLcD (i := 2) (own := [("_law_name", 3), ("_law_many", 4)]) (by rfl) sc__law_right.nd rfl rfl (sw_true rfl rfl rfl (by decide +kernel)) (pi_list (pe_dget (hu_of hr) (pv 1) pe_str (fun _ _ => rfl))) (blkOk_by (own := [("_law_name", 3), ("_law_many", 4)]) (N := ["_law_line", "_law_drawn", "_law_names_here", "_law_name", "_law_many", "_law_told", "_law_fields", "_law_field", "_law_words"]) (sc := defScope s__law_right) (by decide +kernel)) (fun _ _ _ _ _ => (pg_tup (n := 2) (by rfl) (pgs_cons (pg_name (i := 3) sc__law_right.nd rfl (by first | exact Or.inl rfl | exact Or.inr rfl)) (pgs_cons (pg_name (i := 4) sc__law_right.nd rfl (by first | exact Or.inl rfl | exact Or.inr rfl)) pgs_nil)))) (fun _ _ _ _ _ => pts_nil) (fun _ _ _ _ _ => (pv 3)))
      (pss_cons (ps_set (i := 5) sc__law_right.nd rfl (by first | exact Or.inl rfl | exact Or.inr rfl) (pe_met0 (pv 0) T.cl_Line T.m_Line_names C_Line_names (hr.mono (by decide)) pL))
      (pss_cons (ps_if (PW.pt (pw_or (pt_not (pt_val (pe_callB (call_isD (T := "list") (by decide)) (by rfl) T.f_isinstance (by decide +kernel) (pa_cons (pv 5) (pa_cons (pe_bltn (v := .ty "list") (by rfl) T.f_list (by decide +kernel) rfl) pa_nil))))) (pw_or1 (pt_cmpR (op_neD hr.units) (pv 5) (pv 2) (nomark _))))) (pss_one (ps_ret pe_bl)) pss_nil)
      (pss_cons (ps_expr (pe_bm PySem.F.plainAttrs_list PySem.F.slot_list_append PySem.F.type_list_append mt_append (pv 5) (pa_cons pe_str pa_nil)))
      (pss_cons (ps_expr (pe_bm0 PySem.F.plainAttrs_list PySem.F.slot_list_reverse PySem.F.type_list_reverse mt_reverse (pv 5)))
      (pss_cons (ps_for PassesOwn.never (by rfl) (pi_list (pe_dget (hu_of hr) (pv 1) pe_str (fun _ _ => rfl))) (pg_tup (n := 2) (by rfl) (pgs_cons (pg_name (i := 3) sc__law_right.nd rfl (by first | exact Or.inl rfl | exact Or.inr rfl)) (pgs_cons (pg_name (i := 4) sc__law_right.nd rfl (by first | exact Or.inl rfl | exact Or.inr rfl)) pgs_nil))) (pss_one (ps_if (PW.pt (pw_or (pt_not (pt_val (pe_cal C__law_whole (hr.mono (by decide)) (by rfl) T.g__law_whole pL (pa_cons (pe_met (pv 0) T.cl_Line T.m_Line_platforms C_Line_platforms (hr.mono (by decide)) pL (pa_cons (pv 3) pa_nil)) pa_nil)))) (pw_or1 (pt_cmpR op_ne (pe_metK0 (pv 0) T.cl_Line T.m_Line_platforms K_Line_platforms_0_place (hr.mono (by decide)) pL (pk_cons (pv 3) pk_nil)) (pv 4) (nomark _))))) (pss_one (ps_ret pe_bl)) pss_nil)))
      (pss_cons (ps_if (PW.pt (pw_or (pt_not (pt_val (pe_cal C__law_whole (hr.mono (by decide)) (by rfl) T.g__law_whole pL (pa_cons (pe_met0 (pv 0) T.cl_Line T.m_Line_tracks C_Line_tracks (hr.mono (by decide)) pL) pa_nil)))) (pw_or1 (pt_cmpR op_ne (pe_met0 (pv 0) T.cl_Line T.m_Line_tracks C_Line_tracks (hr.mono (by decide)) pL) (pe_callB call_len_seq (by rfl) T.f_len (by decide +kernel) (pa_cons (pe_dget (hu_of hr) (pv 1) pe_str (fun _ _ => rfl)) pa_nil)) (nomark _))))) (pss_one (ps_ret pe_bl)) pss_nil)
      (pss_cons (ps_set (i := 6) sc__law_right.nd rfl (by first | exact Or.inl rfl | exact Or.inr rfl) (pe_lstN (pa_cons (pe_fld (pv 0) rfl) (pa_cons (pe_fld (pv 0) rfl) (pa_cons (pe_fld (pv 0) rfl) pa_nil)))))
      (pss_cons (ps_if (PW.pt (pw_or (pt_not (pt_val (pe_callB (cr_all rfl) (by rfl) T.f_all (by decide +kernel) (pa_cons (pe_lcD (own := [("_law_field", 7)]) (by rfl) sc__law_right.nd (pi_list (pv 6)) (blkOk_by (own := [("_law_field", 7)]) (N := ["_law_line", "_law_drawn", "_law_names_here", "_law_name", "_law_many", "_law_told", "_law_fields", "_law_field", "_law_words"]) (sc := defScope s__law_right) (by decide +kernel)) (fun _ _ _ _ _ => (pg_name (i := 7) sc__law_right.nd rfl (by first | exact Or.inl rfl | exact Or.inr rfl))) (fun _ _ _ _ _ => pts_nil) (fun _ _ _ _ _ => (pe_cal C__law_whole (hr.mono (by decide)) (by rfl) T.g__law_whole pL (pa_cons (pv 7) pa_nil)))) pa_nil)))) (pw_or1 (pt_cmpR (op_neD hr.units) (pv 6) (pe_lstN (pa_cons (pe_dget (hu_of hr) (pv 1) pe_str (fun _ _ => rfl)) (pa_cons (pe_dget (hu_of hr) (pv 1) pe_str (fun _ _ => rfl)) (pa_cons (pe_dget (hu_of hr) (pv 1) pe_str (fun _ _ => rfl)) pa_nil)))) (nomark _))))) (pss_one (ps_ret pe_bl)) pss_nil)
      (pss_cons (ps_set (i := 8) sc__law_right.nd rfl (by first | exact Or.inl rfl | exact Or.inr rfl) (pe_op op_add_str (pe_op op_add_str (pe_op op_add_str (pe_callTy call_str_int (by rfl) T.f_str (by decide +kernel) (pa_cons (pe_callB call_len_seq (by rfl) T.f_len (by decide +kernel) (pa_cons (pv 2) pa_nil)) pa_nil)) pe_str) (pe_callTy call_str_int (by rfl) T.f_str (by decide +kernel) (pa_cons (pe_callB call_len_seq (by rfl) T.f_len (by decide +kernel) (pa_cons (pe_dget (hu_of hr) (pv 1) pe_str (fun _ _ => rfl)) pa_nil)) pa_nil))) pe_str))
      (pss_one (ps_ret (pe_and (pe_cmpR op_eq (pe_callB (call_lenO T.m_Line___len__ C_Linedd_lendd (hr.mono (by decide))) (by rfl) T.f_len (by decide +kernel) (pa_cons (pv 0) pa_nil)) (pe_callB call_len_seq (by rfl) T.f_len (by decide +kernel) (pa_cons (pv 2) pa_nil)) (nomark _)) (pe_one (pe_cmpR op_eq (pe_callTy (call_strO T.m_Line___str__ C_Linedd_strdd (hr.mono (by decide))) (by rfl) T.f_str (by decide +kernel) (pa_cons (pv 0) pa_nil)) (pv 8) (nomark _))))))))))))))))), ?_⟩
    try simp only [kx1, kx2, kx3, kx4, kx5]
    obtain ⟨dd, ⟨xs, ys, hpa, tp, hra, tr⟩, ok⟩ := id dr
    have hl : xs.length = ps.length := by rw [tp.len]; simp [placesD]
    have hl2 : ys.length = rs.length := by rw [tr.len]; simp [railsD]
    have l8 := ok.p.l8
    have l12 := ok.r.l
    refine ⟨_, rfl, p, .ref pa, rfl, DGet.k (k := .inr "places") dd, pa, rfl, ⟨xs, SqL.of hpa⟩, fun D hD => ?_⟩
    refine lcL (K := K) (D := D) (a := pa) (xs := xs) [] hD (by simp) (by rw [sizeLine_eq]; omega) (fun i acc H' => acc = ((ps.take i).map fun p => V.str p.1)) (fun H' _ => rfl) (fun i acc H' _ st => SqL.of (st.k _ _ (by simp) hpa)) (fun i x acc H' Nx hx p st hDD pu sk => ?_) (fun acc H1 pp st1 hDD => ?_)
    · obtain ⟨pl, q, hpl, rfl, sqp⟩ := at_place (tp.mono st) hx
      refine ⟨q, _, rfl, sqp, rfl, _, _, rfl, _, _, rfl, rfl, rfl, _, rfl, pu _ _ (.refl _) fun H'' _ _ => ?_⟩
      rw [p, take_at hpl, List.map_append]; rfl
    have hns : H1 D = some (.lst ((ps.map (·.1)).map V.str)) := by rw [hDD, pp, hl, List.take_length, List.map_map]; rfl
    have la1 := la.st st1
    obtain ⟨dx, th, tl, hx⟩ := la1.ins
    refine ⟨_, rfl, x, dx, _, rfl, hx, rfl, x, ps, rs, g, s, w, rfl, la1, fun L H2 n2 => ?_⟩
    have la2 := la1.st (n2.s [])
    have tdL : Td K [] H2 (.ref L) (.list (strsD (ps.map (·.1)))) := .lst (SqL.of n2.a) (by simp) (td_strs _)
    have tdD : Td K [] H2 (.ref D) (.list (strsD (ps.map (·.1)))) := .lst (SqL.of ((n2.s []).k _ _ (by simp) hns)) (by simp) (td_strs _)
    have shn := sh_strs ok.p.names
    refine ⟨_, rfl, _, [], _, rfl, tdL, _, rfl, iteF ⟨_, rfl, _, rfl, _, _, tdL.dp (show nodic (.list (strsD _)) = true from nodic_strs _), tdD.dp (show nodic (.list (strsD _)) = true from nodic_strs _), sh_ok shn (by decide), sh_ok shn (by decide), _, rfl, ?_⟩⟩
    refine if_false_of (by rw [eqv_self shn]; rfl) ?_
    refine ⟨_, rfl, .inl ⟨rfl, _, SqL.of n2.a⟩, L, _, _, rfl, rfl, n2.a, by rw [List.length_map, List.length_map, sizeLine_eq]; omega, ?_⟩
    refine ⟨_, rfl, .inl ⟨rfl, _, SqL.of upd_same⟩, L, _, rfl, rfl, upd_same, ?_⟩
    have L0 : H L = none := st1.f _ n2.n
    have w3 : Stp [L] H2 (upd (upd H2 L (.lst ((ps.map Prod.fst).map V.str ++ [V.str "z"]))) L (.lst ((ps.map Prod.fst).map V.str ++ [V.str "z"]).reverse)) := (Stp.put n2.a).trans (.put upd_same)
    have s3 : Stp [] H (upd (upd H2 L (.lst ((ps.map Prod.fst).map V.str ++ [V.str "z"]))) L (.lst ((ps.map Prod.fst).map V.str ++ [V.str "z"]).reverse)) := ((st1.trans (n2.s _)).putNew n2.a L0).putNew upd_same L0
    generalize upd (upd H2 L (.lst ((ps.map Prod.fst).map V.str ++ [V.str "z"]))) L (.lst ((ps.map Prod.fst).map V.str ++ [V.str "z"]).reverse) = H3 at w3 s3 ⊢
    have nDL : D ∉ [L] := by simpa using (show D ≠ L from ne_of_none hns n2.n)
    have hD3 := w3.k _ _ nDL ((n2.s []).k _ _ (by simp) hns)
    have la3 := la.st s3
    have dr3 := dr.st s3
    clear la1 la2 hx tdL tdD
    obtain ⟨dd3, ⟨xs3, ys3, hpa3, tp3, hra3, tr3⟩, _⟩ := id dr3
    have hl3 : xs3.length = ps.length := by rw [tp3.len]; simp [placesD]
    have hl4 : ys3.length = rs.length := by rw [tr3.len]; simp [railsD]
    obtain ⟨dx, th, tl, hx⟩ := la3.ins
    refine ⟨_, rfl, p, .ref pa, rfl, DGet.k (k := .inr "places") dd3, pa, rfl, ⟨xs3, SqL.of hpa3⟩, for_list (K := K) (a := pa) (xs := xs3) (fun i σ H' => Stp [] H3 H' ∧ ∃ r3 r4, σ = [some (.ref x), some (.ref p), some (.ref D), r3, r4, some (.ref L), none, none, none])
      ⟨.refl _, none, none, rfl⟩ (fun i σ H' _ ⟨st, _⟩ => SqL.of (st.k _ _ (by simp) hpa3)) ?_ ?_⟩
    · rintro i y σ H' hy ⟨st, r3, r4, rfl⟩
      obtain ⟨pl, q, hpl, rfl, sqp⟩ := at_place (tp3.mono st) hy
      have po := platOf_at ok.p.nd hpl
      have tx : txD (.str pl.1) = true := decide_eq_true (nm_small (ok.p.nm pl (List.mem_of_getElem? hpl)).1)
      refine ⟨q, _, rfl, sqp, rfl, _, _, rfl, _, _, rfl, rfl, ?_⟩
      refine ⟨_, rfl, x, dx, _, rfl, st.k _ _ (by simp) hx, rfl, _, rfl, x, .str pl.1, ps, rs, g, s, w, [], .str pl.1, rfl, la3.st st, .str _, tx, fun m hm H4 st4 => ?_, fun hn => by rw [po] at hn; cases hn⟩
      refine ⟨.int m, [], .int m, rfl, .int m, _, rfl, iteF ?_⟩
      have st' := st.trans st4
      refine ⟨_, rfl, x, dx, _, rfl, st'.k _ _ (by simp) hx, rfl, _, rfl, rfl, rfl, x, .str pl.1, ps, rs, g, s, w, [], .str pl.1, rfl, la3.st st', .str _, tx, fun m' hm' H5 st5 => ?_, fun hn => by rw [po] at hn; cases hn⟩
      rw [po] at hm'
      injection hm' with hm'
      refine ⟨_, rfl, rfl, _, rfl, if_false_of (by simp [hm']) ⟨st'.trans st5, _, _, rfl⟩⟩
    rintro σ H4 ⟨st4, r3, r4, rfl⟩
    have la4 := la3.st st4
    have hx4 := st4.k _ _ (by simp) hx
    have dd4 := st4.k _ _ (by simp) dd3
    have hra4 := st4.k _ _ (by simp) hra3
    have hD4 := st4.k _ _ (by simp) hD3
    -- tracks
    refine ⟨_, rfl, x, dx, _, rfl, hx4, rfl, x, ps, rs, g, s, w, rfl, la4, _, [], .int _, rfl, .int _, _, rfl, iteF ⟨_, rfl, x, dx, _, rfl, hx4, rfl, x, ps, rs, g, s, w, rfl, la4, _, rfl, p, .ref ra, rfl, DGet.k (k := .inr "sections") dd4, ra, ys3, rfl, .inl (SqL.of hra4), rfl, _, rfl, if_false_of (by simp [hl4]) ?_⟩⟩
    -- the fields
    refine ⟨_, rfl, x, _, dx, _, _, rfl, hx4, T.cl_Line, T.n_Line_gap, rfl, _, rfl, x, _, dx, _, _, rfl, hx4, T.cl_Line, T.n_Line_stop, rfl, _, rfl, x, _, dx, _, _, rfl, hx4, T.cl_Line, T.n_Line_away, rfl, by show 3 ≤ sizeLine; decide, fun B H5 n5 => ?_⟩
    refine ⟨_, rfl, B, rfl, ⟨_, SqL.of n5.a⟩, fun G hG => ?_⟩
    refine lcL (K := K) (D := G) (a := B) (xs := [.int g, .int s, .int w]) [] hG (by simp) (by show 3 ≤ sizeLine; decide) (fun i acc H' => acc = (List.replicate i true).map V.bl) (fun H' _ => rfl) (fun i acc H' _ st => SqL.of (st.k _ _ (by simp) n5.a)) (fun i y acc H' Nx hy pq st hDD pu sk => ?_) (fun acc H6 pq st6 hGG => ?_)
    · obtain ⟨n, rfl⟩ : ∃ n, y = V.int n := by
        have := List.mem_of_getElem? hy
        simp only [List.mem_cons, List.not_mem_nil, or_false] at this
        rcases this with rfl | rfl | rfl <;> exact ⟨_, rfl⟩
      refine ⟨rfl, _, rfl, _, [], .int n, rfl, .int n, pu _ _ (.refl _) fun H'' _ _ => ?_⟩
      rw [pq, List.replicate_succ', List.map_append]; rfl
    refine ⟨G, List.replicate 3 true, rfl, SqL.of (by rw [hGG, pq]; rfl), _, rfl, iteF ?_⟩
    have st6' : Stp [] H4 H6 := (n5.s _).trans st6
    have dd6 := st6'.k _ _ (by simp) dd4
    refine ⟨_, rfl, _, rfl, p, .int g, rfl, DGet.k (k := .inr "gap") dd6, _, rfl, p, .int s, rfl, DGet.k (k := .inr "stop") dd6, _, rfl, p, .int w, rfl, DGet.k (k := .inr "away") dd6, by show 3 ≤ sizeLine; decide, fun B2 H7 n7 => ?_⟩
    have shi : Sh 2 (.list [.int g, .int s, .int w]) := sh_list fun d hd => by
      simp only [List.mem_cons, List.not_mem_nil, or_false] at hd
      rcases hd with rfl | rfl | rfl <;> exact sh_int _
    refine ⟨_, _, .lst (SqL.of ((st6.trans (n7.s _)).k _ _ (by simp) n5.a)) (.cons (.int _) (.cons (.int _) (.cons (.int _) .nil))), .lst (SqL.of n7.a) (.cons (.int _) (.cons (.int _) (.cons (.int _) .nil))), sh_ok shi (by decide), sh_ok shi (by decide), _, rfl, if_false_of (by rw [eqv_self shi]; rfl) ?_⟩
    have st7 : Stp [] H4 H7 := st6'.trans (n7.s _)
    have la7 := la4.st st7
    have hx7 := st7.k _ _ (by simp) hx4
    have dd7 := st7.k _ _ (by simp) dd4
    have hra7 := st7.k _ _ (by simp) hra4
    have hD7 := st7.k _ _ (by simp) hD4
    have el : ((ps.map (·.1)).map V.str).length = ps.length := by rw [List.length_map, List.length_map]
    have n1 := num_le (show ((ps.map (·.1)).map V.str).length ≤ 12 by omega)
    have n2 := num_le (show ys3.length ≤ 12 by omega)
    have c1 : (" places, " : Str).length = 9 := by decide +kernel
    have c2 : (" sections" : Str).length = 9 := by decide +kernel
    refine ⟨_, rfl, D, _, rfl, .inl (SqL.of hD7), _, rfl, n1.2, _, _, rfl, rfl, ?_, _, rfl, p, .ref ra, rfl, DGet.k (k := .inr "sections") dd7, ra, ys3, rfl, .inl (SqL.of hra7), _, rfl, n2.2, _, _, rfl, rfl, ?_, _, _, rfl, rfl, ?_, ?_⟩
    · rw [c1, sizeLine_eq]; omega
    · rw [str_app, c1, sizeLine_eq]; omega
    · rw [str_app, str_app, c1, c2, sizeLine_eq]; omega
    refine ⟨_, rfl, x, dx, _, rfl, hx7, x, ps, rs, g, s, w, rfl, la7, _, rfl, by omega, by omega, _, rfl, D, _, rfl, .inl (SqL.of hD7), rfl, _, rfl, if_true_of (by simp [el]) ?_⟩
    refine ⟨_, rfl, x, dx, _, rfl, hx7, x, ps, rs, g, s, w, rfl, la7, _, rfl, _, rfl, rfl, ?_⟩
    have fin := k H7 ((s3.trans st4).trans st7)
    have et : decide (V.str (lineText (ps.length : Nat) (rs.length : Nat)) = V.str (Str.ofString (toString (((ps.map (·.1)).map V.str).length : Int)) ++ (" places, " : Str) ++ Str.ofString (toString (ys3.length : Int)) ++ (" sections" : Str))) = true := by
      rw [el, hl4]
      exact decide_eq_true rfl
    rw [← et] at fin
    exact fin
def spMade (K : PySem.W.Frag) : Sp := fun vs H Q _ => ∃ way p ha hr xs ys pa ra ps rs g s w, vs = [.int way, .ref p, .ref ha, .ref hr] ∧ Drawn K H p pa ra ps rs g s w ∧ H ha = some (.lst xs) ∧ TdAll K [] H xs (placesD ps) ∧ H hr = some (.lst ys) ∧ TdAll K [] H ys (railsD rs) ∧
  ∀ H' x g' s' w', Stp [p] H H' → H x = none → Drawn K H' p pa ra ps rs g' s' w' → LineAt K H' x ps rs g' s' w' → Q (.ref x) H'
theorem ok__law_made {P : Program} {w : World} {K : PySem.W.Frag} {mg : Str → Option Value} {base : Heap} {fd : FuncData} (T : Txt K mg) (F : FunD K "_law_made" "_law_made" (defArgs s__law_made) (defBody s__law_made) (defScope s__law_made) [] [] (He.ga K "_law_made") fd)
    (K_Line_init_2_gap_stop_away : CalK P w K mg base 5 (He.ma K (He.ga K "Line") "__init__") ["self", "places", "sections", "gap", "stop", "away"] (spLineInit K) 3 ["gap", "stop", "away"] (fun us ws => (us.drop 0).take 1 ++ ((us.drop 1).take 1 ++ ((us.drop 2).take 1 ++ ((ws.drop 0).take 1 ++ ((ws.drop 1).take 1 ++ ((ws.drop 2).take 1)))))))
    (K_Line_init_0_away_sections_stop_places_gap : CalK P w K mg base 5 (He.ma K (He.ga K "Line") "__init__") ["self", "places", "sections", "gap", "stop", "away"] (spLineInit K) 1 ["away", "sections", "stop", "places", "gap"] (fun us ws => (us.drop 0).take 1 ++ ((ws.drop 3).take 1 ++ ((ws.drop 1).take 1 ++ ((ws.drop 4).take 1 ++ ((ws.drop 2).take 1 ++ ((ws.drop 0).take 1)))))))
    (K_Line_init_2_ : CalK P w K mg base 5 (He.ma K (He.ga K "Line") "__init__") ["self", "places", "sections", "gap", "stop", "away"] (spLineInit K) 3 [] (fun us ws => (us.drop 0).take 1 ++ ((us.drop 1).take 1 ++ ((us.drop 2).take 1 ++ ((([.int 1, .int 1, .int 2] : List V).drop 0).take 1 ++ ((([.int 1, .int 1, .int 2] : List V).drop 1).take 1 ++ ((([.int 1, .int 1, .int 2] : List V).drop 2).take 1))))))) : FnOk P w K mg base (L2.CX P w) 7 (He.ga K "_law_made") fd ["_law_way", "_law_drawn", "_law_halts", "_law_rails"] (spMade K) := by
  refine FunD.ok F sc__law_made (fun vs H Q E h => ?_) (fun cdv A outer s H vs Q E hr h => ?_)
  · obtain ⟨way, p, ha, hrr, xs, ys, pa, ra, ps, rs, g, s, w, rfl, dr, hh, th, hq, tq, k⟩ := h
    rfl
  · obtain ⟨way, p, ha, hrr, xs, ys, pa, ra, ps, rs, g, s, w, rfl, dr, hh, th, hq, tq, k⟩ := h
    refine ⟨_, (PSs.nox (pss_cons (ps_if (pt_cmpR op_eq (pv 0) pe_int (nomark _)) (pss_cons (ps_asg (pe_tupN (pa_cons pe_int (pa_cons pe_int (pa_cons pe_int pa_nil)))) (pg_tup (n := 3) (by rfl) (pgs_cons (pg_sub (pv 1) pe_str (set_dict (hu_of hr))) (pgs_cons (pg_sub (pv 1) pe_str (set_dict (hu_of hr))) (pgs_cons (pg_sub (pv 1) pe_str (set_dict (hu_of hr))) pgs_nil)))))
      (pss_one (ps_ret (pe_mk T.mk_Line K_Line_init_2_ (hr.mono (by decide)) (by rfl) T.g_Line pL (pa_cons (pv 2) (pa_cons (pv 3) pa_nil)) pk_nil)))) pss_nil)
      (pss_cons (ps_par3 (i := 4) (j := 5) (l := 6) (by rfl) sc__law_made.nd rfl rfl rfl (by decide) (by decide) (by decide) rfl rfl rfl (pa_cons (pe_dget (hu_of hr) (pv 1) pe_str (fun _ _ => rfl)) (pa_cons (pe_dget (hu_of hr) (pv 1) pe_str (fun _ _ => rfl)) (pa_cons (pe_dget (hu_of hr) (pv 1) pe_str (fun _ _ => rfl)) pa_nil))) (by rfl))
      (pss_cons (ps_if (pt_cmpR op_eq (pv 0) pe_int (nomark _)) (pss_one (ps_ret (pe_mk0 T.mk_Line K_Line_init_0_away_sections_stop_places_gap (hr.mono (by decide)) (by rfl) T.g_Line pL (pk_cons (pv 6) (pk_cons (pv 3) (pk_cons (pv 5) (pk_cons (pv 2) (pk_cons (pv 4) pk_nil)))))))) pss_nil)
      (pss_one (ps_ret (pe_mk T.mk_Line K_Line_init_2_gap_stop_away (hr.mono (by decide)) (by rfl) T.g_Line pL (pa_cons (pv 2) (pa_cons (pv 3) pa_nil)) (pk_cons (pv 4) (pk_cons (pv 5) (pk_cons (pv 6) pk_nil)))))))))), ?_⟩
    try simp only [kx1, kx2, kx3, kx4, kx5]
    have dd := dr.d
    have ok := dr.ok
    refine ⟨_, rfl, rfl, _, rfl, ?_⟩
    by_cases h0 : way = 0
    · refine if_true_of (by simp [h0]) ⟨by show 3 ≤ sizeLine; decide, fun t H1 n1 => ?_⟩
      refine ⟨t, _, rfl, SqT.of n1.a, rfl, _, _, rfl, ?_⟩
      have d1 := (n1.s []).k _ _ (by simp) dd
      refine ⟨_, rfl, p, _, rfl, DPut.k (k := .inr "gap") d1 (by show 5 < sizeLine; decide), _, _, rfl, _, rfl, p, _, rfl, DPut.k (k := .inr "stop") upd_same (by show 5 < sizeLine; decide), _, _, rfl, _, rfl, p, _, rfl, DPut.k (k := .inr "away") upd_same (by show 5 < sizeLine; decide), rfl, ?_⟩
      have fin : ∀ H2, Stp [p] H1 H2 → H2 p = some (.dK [(.inr "places", .ref pa), (.inr "sections", .ref ra), (.inr "gap", .int 1), (.inr "stop", .int 1), (.inr "away", .int 2)]) → ∀ x dx, H2 x = none → H2 dx = none → dx ≠ x → spLineInit K [.ref x, .ref ha, .ref hrr, .int 1, .int 1, .int 2] (upd (upd H2 dx (.own x)) x (.ins (He.ga K "Line") dx [])) (fun v H2 => v = .non ∧ Q (.ref x) H2) E0 := fun H2 st2 d2 => by
        have s2 : Stp [p] H H2 := (n1.s _).trans st2
        have ne : ∀ {b : Addr} {l : List V}, H b = some (.lst l) → b ∉ [p] := fun {b l} hb z => by
          have e : b = p := by simpa using z
          rw [e, dd] at hb; cases hb
        have ok2 : LineOk ps rs 1 1 2 := ⟨ok.p, ok.r, by decide, by decide, by decide⟩
        obtain ⟨_, ⟨xs1, ys1, e1, e2, e3, e4⟩, _⟩ := id dr
        have dr2 : Drawn K H2 p pa ra ps rs 1 1 2 := ⟨d2, ⟨xs1, ys1, s2.k _ _ (ne e1) e1, e2.flatMono (flat_places _) s2, s2.k _ _ (ne e3) e3, e4.flatMono (flat_rails _) s2⟩, ok2⟩
        exact lineMade (s2.k _ _ (ne hh) hh) (th.flatMono (flat_places _) s2) (s2.k _ _ (ne hq) hq) (tq.flatMono (flat_rails _) s2) ok2 fun H' x st nx la => k H' x 1 1 2 (s2.trans st.of_nil) (s2.f _ nx) (dr2.st st) la
      exact ⟨_, rfl, _, rfl, rfl, rfl, fin _ (((Stp.put d1).trans (.put upd_same)).trans (.put upd_same)) upd_same⟩
    · refine if_false_of (by simp [h0]) ?_
      refine ⟨_, rfl, p, .int g, rfl, DGet.k (k := .inr "gap") dd, _, rfl, p, .int s, rfl, DGet.k (k := .inr "stop") dd, _, rfl, p, .int w, rfl, DGet.k (k := .inr "away") dd, _, _, _, rfl, ?_⟩
      refine ⟨_, rfl, rfl, _, rfl, ?_⟩
      have fin : ∀ H' x, Stp [] H H' → H x = none → LineAt K H' x ps rs g s w → Q (.ref x) H' := fun H' x st nx la => k H' x g s w st.of_nil nx (dr.st st) la
      by_cases h1 : way = 1
      · refine if_true_of (by simp [h1]) ?_
        exact ⟨_, rfl, _, rfl, _, rfl, _, rfl, _, rfl, rfl, rfl, lineMade hh th hq tq ok fin⟩
      · refine if_false_of (by simp [h1]) ?_
        exact ⟨_, rfl, _, rfl, _, rfl, _, rfl, _, rfl, rfl, rfl, lineMade hh th hq tq ok fin⟩
/-- what is known of the lines told so far -/
def Known (K : PySem.W.Frag) (L : Addr) (H : Hp) (v : V) : Prop := ∃ t x p pa ra ps rs g s w, v = .ref t ∧ SqT K H t [.ref x, .ref p] ∧ LineAt K H x ps rs g s w ∧ Drawn K H p pa ra ps rs g s w ∧ pa ≠ L ∧ ra ≠ L
theorem Known.keep {K : PySem.W.Frag} {L : Addr} {A : List Addr} {H H' : Hp} {v : V} {l : List V} (h : Known K L H v) (st : Stp A H H') (hA : ∀ b ∈ A, b = L) (hL : H L = some (.lst l)) : Known K L H' v := by
  obtain ⟨t, x, p, pa, ra, ps, rs, g, s, w, rfl, sq, la, dr, n1, n2⟩ := h
  obtain ⟨dx, th, tr, hx⟩ := la.ins
  refine ⟨t, x, p, pa, ra, ps, rs, g, s, w, rfl, st.sqT sq, la.keep st ?_, dr.keep st ?_ (fun z => n1 (hA _ z)) (fun z => n2 (hA _ z)), n1, n2⟩
  · intro z
    rw [hA _ z, hL] at hx; cases hx
  · intro z
    have := dr.d
    rw [hA _ z, hL] at this; cases this
theorem ok_law {P : Program} {w : World} {K : PySem.W.Frag} {mg : Str → Option Value} {base : Heap} {fd : FuncData} (T : Txt K mg) (F : FunD K "law" "law" (defArgs s_law) (defBody s_law) (defScope s_law) [] [] (He.ga K "law") fd)
    (C__law_right : Cal P w K mg base 4 (He.ga K "_law_right") ["_law_line", "_law_drawn"] (spRight K))
    (C__law_made : Cal P w K mg base 7 (He.ga K "_law_made") ["_law_way", "_law_drawn", "_law_halts", "_law_rails"] (spMade K))
    (C__law_line_of : Cal P w K mg base 4 (He.ga K "_law_line_of") ["_law_source_here"] (spDrawLine K))
    (C__law_take : Cal P w K mg base 2 (He.ga K "_law_take") ["_law_source_here", "_law_many"] (spTake))
    (C__law_source : Cal P w K mg base 1 (He.ga K "_law_source") ["_law_cell"] (spSource)) : FnOk P w K mg base (L2.CX P w) 8 (He.ga K "law") fd ["_law_script"] (spLaw K) := by
  refine FunD.ok F sc_law (fun vs H Q E h => ?_) (fun cdv A outer s H vs Q E hr h => ?_)
  · obtain ⟨a, ns, rfl, hS, hlen, kk⟩ := h
    rfl
  · obtain ⟨a, ns, rfl, hS, hlen, kk⟩ := h
    refine ⟨_, (PSs.nox (pss_cons (ps_set (i := 1) sc_law.nd rfl (by first | exact Or.inl rfl | exact Or.inr rfl) (pe_lstN pa_nil))
      (pss_cons (ps_for PassesOwn.never (by rfl) (pi_list (pe_op op_catN (pe_slice sl_listN (pv 0) po_none (po_some pe_int)) (pe_lstN (pa_cons pe_int (pa_cons pe_int pa_nil))))) (pg_name (i := 2) sc_law.nd rfl (by first | exact Or.inl rfl | exact Or.inr rfl)) (pss_cons (ps_set (i := 3) sc_law.nd rfl (by first | exact Or.inl rfl | exact Or.inr rfl) (pe_cal C__law_source (hr.mono (by decide)) (by rfl) T.g__law_source pL (pa_cons (pv 2) pa_nil)))
      (pss_cons (ps_set (i := 4) sc_law.nd rfl (by first | exact Or.inl rfl | exact Or.inr rfl) (pe_cal C__law_take (hr.mono (by decide)) (by rfl) T.g__law_take pL (pa_cons (pv 3) (pa_cons pe_int pa_nil))))
      (pss_cons (ps_set (i := 5) sc_law.nd rfl (by first | exact Or.inl rfl | exact Or.inr rfl) (pe_cal C__law_line_of (hr.mono (by decide)) (by rfl) T.g__law_line_of pL (pa_cons (pv 3) pa_nil)))
      (pss_cons (ps_set (i := 6) sc_law.nd rfl (by first | exact Or.inl rfl | exact Or.inr rfl) (pe_lstN (pa_cons (pe_callTy call_listN (by rfl) T.f_list (by decide +kernel) (pa_cons (pe_dget (hu_of hr) (pv 5) pe_str (fun _ _ => rfl)) pa_nil)) (pa_cons (pe_callTy call_listN (by rfl) T.f_list (by decide +kernel) (pa_cons (pe_dget (hu_of hr) (pv 5) pe_str (fun _ _ => rfl)) pa_nil)) pa_nil))))
      (pss_cons (ps_set (i := 7) sc_law.nd rfl (by first | exact Or.inl rfl | exact Or.inr rfl) (pe_cal C__law_made (hr.mono (by decide)) (by rfl) T.g__law_made pL (pa_cons (pv 4) (pa_cons (pv 5) (pa_cons (pe_ix ix_list (pv 6) pe_int (fun _ _ => rfl)) (pa_cons (pe_ix ix_list (pv 6) pe_int (fun _ _ => rfl)) pa_nil))))))
      (pss_cons (ps_if (pt_cmpR (op_neD hr.units) (pv 6) (pe_lstN (pa_cons (pe_dget (hu_of hr) (pv 5) pe_str (fun _ _ => rfl)) (pa_cons (pe_dget (hu_of hr) (pv 5) pe_str (fun _ _ => rfl)) pa_nil))) (nomark _)) (pss_one (ps_ret pe_bl)) pss_nil)
      (pss_cons (ps_expr (pe_bm0 PySem.F.plainAttrs_list PySem.F.slot_list_clear PySem.F.type_list_clear mt_clear (pe_ix ix_list (pv 6) pe_int (fun _ _ => rfl))))
      (pss_cons (ps_expr (pe_bm PySem.F.plainAttrs_list PySem.F.slot_list_append PySem.F.type_list_append mt_append (pe_ix ix_list (pv 6) pe_int (fun _ _ => rfl)) (pa_cons (pe_tupN (pa_cons pe_str (pa_cons pe_str (pa_cons pe_int pa_nil)))) pa_nil)))
      (pss_cons (ps_expr (pe_bm PySem.F.plainAttrs_list PySem.F.slot_list_append PySem.F.type_list_append mt_append (pv 1) (pa_cons (pe_tupN (pa_cons (pv 7) (pa_cons (pv 5) pa_nil))) pa_nil)))
      (pss_one (ps_for PassesOwn.never (by rfl) (pi_list (pe_op op_catN (pe_slice sl_listN (pv 1) (po_some (pe_un un_neg pe_int)) po_none) (pe_slice sl_listN (pv 1) (po_some (pe_un un_neg pe_int)) po_none))) (pg_tup (n := 2) (by rfl) (pgs_cons (pg_name (i := 8) sc_law.nd rfl (by first | exact Or.inl rfl | exact Or.inr rfl)) (pgs_cons (pg_name (i := 9) sc_law.nd rfl (by first | exact Or.inl rfl | exact Or.inr rfl)) pgs_nil))) (pss_one (ps_if (pt_not (pt_val (pe_cal C__law_right (hr.mono (by decide)) (by rfl) T.g__law_right pL (pa_cons (pv 8) (pa_cons (pv 9) pa_nil))))) (pss_one (ps_ret pe_bl)) pss_nil))))))))))))))
      (pss_one (ps_ret pe_bl))))), ?_⟩
    try simp only [kx1, kx2, kx3, kx4, kx5]
    refine ⟨by show 0 ≤ sizeLine; decide, fun L G0 n0 => ?_⟩
    refine ⟨_, rfl, _, rfl, a, _, rfl, (n0.s []).sqL hS (by simp), fun z1 G1 n1 => ⟨by show 2 ≤ sizeLine; decide, fun z2 G2 n2 => ⟨z1, z2, _, _, rfl, rfl, SqL.of ((n2.s []).k _ _ (by simp) n1.a), SqL.of n2.a, ?_, fun C G3 n3 => ?_⟩⟩⟩
    · have := cutV_len (xs := ns.map V.int) (lo := none) (hi := some 8)
      rw [List.length_map] at this
      rw [sizeLine_eq]; simp only [List.length_cons, List.length_nil]; omega
    have hcells : ∃ cs : List Int, cutV (ns.map V.int) none (some 8) ++ [V.int 0, .int 1] = cs.map V.int ∧ cs.length ≤ 10 := by
      refine ⟨ns.take 8 ++ [0, 1], ?_, ?_⟩
      · rw [cutV_to (by decide), List.map_append, List.map_take]; rfl
      · rw [List.length_append, List.length_take]; simp only [List.length_cons, List.length_nil]; omega
    obtain ⟨cs, hcs, hcl⟩ := hcells
    rw [hcs] at n3
    have hL3 := (((n1.s []).trans (n2.s [])).trans (n3.s [])).k _ _ (by simp) n0.a
    have hL2 := ((n1.s []).trans (n2.s [])).k _ _ (by simp) n0.a
    have nC : C ∉ [L] := by simpa using (show C ≠ L from fun e => by rw [e] at n3; have := n3.n; rw [hL2] at this; cases this)
    refine ⟨C, rfl, ⟨_, SqL.of n3.a⟩, for_list (K := K) (a := C) (xs := cs.map V.int) (fun i σ H' => Stp [L] G3 H' ∧ (∃ vs, H' L = some (.lst vs) ∧ vs.length = i ∧ ∀ v ∈ vs, Known K L H' v) ∧ ∃ q2 q3 q4 q5 q6 q7 q8 q9, σ = [some (.ref a), some (.ref L), q2, q3, q4, q5, q6, q7, q8, q9])
      ⟨.refl _, ⟨[], hL3, rfl, by simp⟩, _, _, _, _, _, _, _, _, rfl⟩ (fun i σ H' _ ⟨st, _⟩ => SqL.of (st.k _ _ nC n3.a)) ?_ (fun σ H' _ => kk H')⟩
    rintro i y σ H0 hy ⟨st0, ⟨vs, hL0, hvl, hvs⟩, q2, q3, q4, q5, q6, q7, q8, q9, rfl⟩
    have hi : i < cs.length := by
      have := (List.getElem?_eq_some_iff.mp hy).1
      rwa [List.length_map] at this
    obtain ⟨c, _, rfl⟩ := List.mem_map.mp (List.mem_of_getElem? hy)
    clear hy
    refine ⟨_, rfl, c, rfl, fun S hS0 => ?_⟩
    have w1 : Nw H0 (upd H0 S (.lst [.int c, .int c, .int 0])) S (.lst [.int c, .int c, .int 0]) := .mk' hS0
    have sr1 : Src (upd H0 S (.lst [.int c, .int c, .int 0])) S := ⟨_, _, _, w1.a⟩
    have b1 : Stp [] H0 (upd H0 S (.lst [.int c, .int c, .int 0])) := w1.s _
    generalize upd H0 S (.lst [.int c, .int c, .int 0]) = H1 at sr1 b1 ⊢
    clear w1
    have fS : ∀ b ∈ [S], H0 b = none := fun b hb => by
      have e : b = S := by simpa using hb
      rw [e]; exact hS0
    refine ⟨_, rfl, S, 3, rfl, by decide, by decide, sr1, fun way H2 w0 w1 sr2 st2 => ?_⟩
    have b2 : Stp [] H0 H2 := b1.fresh st2 fS
    refine ⟨_, rfl, S, rfl, sr2, fun H3 p pa ra ps rs g s w st3 sr3 p0 pa0 ra0 dr => ?_⟩
    have b3 : Stp [] H0 H3 := b2.fresh st3 fS
    obtain ⟨dd, ⟨xs, ys, hpa, tp, hra, tr⟩, ok⟩ := id dr
    refine ⟨_, rfl, p, .ref pa, rfl, DGet.k (k := .inr "places") dd, pa, xs, rfl, .inl (SqL.of hpa), fun ha H4 n4 => ?_⟩
    refine ⟨_, rfl, p, .ref ra, rfl, DGet.k (k := .inr "sections") ((n4.s []).k _ _ (by simp) dd), ra, ys, rfl, .inl (SqL.of ((n4.s []).k _ _ (by simp) hra)), fun hr' H5 n5 => ?_⟩
    refine ⟨by show 2 ≤ sizeLine; decide, fun B H6 n6 => ?_⟩
    have b36 : Stp [] H3 H6 := ((n4.s _).trans (n5.s _)).trans (n6.s _)
    have dr6 := dr.st b36
    have hh6 := ((n5.s []).trans (n6.s _)).k _ _ (by simp) n4.a
    have hq6 := (n6.s []).k _ _ (by simp) n5.a
    refine ⟨_, rfl, _, rfl, _, rfl, B, _, _, _, rfl, rfl, SqL.of n6.a, rfl, _, rfl, B, _, _, _, rfl, rfl, SqL.of n6.a, rfl, way, p, ha, hr', xs, ys, pa, ra, ps, rs, g, s, w, rfl, dr6, hh6, tp.mono b36, hq6, tr.mono b36, fun H7 x g' s' w' st7 x0 dr7 la7 => ?_⟩
    have b6 : Stp [] H0 H6 := b3.trans b36
    have p00 : H0 p = none := b2.f _ p0
    have ha0 : H0 ha = none := b3.f _ n4.n
    have hr0 : H0 hr' = none := (b3.trans (n4.s _)).f _ n5.n
    have b7 : Stp [] H0 H7 := b6.fresh st7 fun b hb => by
      have e : b = p := by simpa using hb
      rw [e]; exact p00
    have hB7 := st7.k _ _ (by simpa using (dr6.ne n6.a).symm) n6.a
    have hh7 := st7.k _ _ (by simpa using (dr6.ne hh6).symm) hh6
    have hq7 := st7.k _ _ (by simpa using (dr6.ne hq6).symm) hq6
    have th7 := (tp.mono b36).flatMono (flat_places _) st7
    have tq7 := (tr.mono b36).flatMono (flat_rails _) st7
    obtain ⟨dd7, ⟨xs7, ys7, hpa7, tp7, hra7, tr7⟩, ok7⟩ := id dr7
    refine ⟨_, rfl, _, rfl, p, .ref pa, rfl, DGet.k (k := .inr "places") dd7, _, rfl, p, .ref ra, rfl, DGet.k (k := .inr "sections") dd7, by show 2 ≤ sizeLine; decide, fun B2 H8 n8 => ?_⟩
    have sh3 : Sh 3 (.list [.list (placesD ps), .list (railsD rs)]) := sh_list fun d hd => by
      simp only [List.mem_cons, List.not_mem_nil, or_false] at hd
      rcases hd with rfl | rfl
      · exact sh_list (sh_places fun p hp => (ok.p.nm p hp).1)
      · exact sh_list (sh_rails ok.r.r)
    have mk : ∀ {b u v : Addr} {us zs : List V}, H8 b = some (.lst [.ref u, .ref v]) → H7 u = some (.lst us) → TdAll K [] H7 us (placesD ps) → H7 v = some (.lst zs) → TdAll K [] H7 zs (railsD rs) → Dp K H8 (.ref b) (.list [.list (placesD ps), .list (railsD rs)]) := fun {b u v us zs} h1 h2 h3 h4 h5 =>
      .lst (SqL.of h1) (.cons (.lst (SqL.of ((n8.s []).k _ _ (by simp) h2)) ((h3.mono (n8.s _)).dp (nodic_places _))) (.cons (.lst (SqL.of ((n8.s []).k _ _ (by simp) h4)) ((h5.mono (n8.s _)).dp (nodic_rails _))) .nil))
    have hB8 := (n8.s []).k _ _ (by simp) hB7
    have hh8 := (n8.s []).k _ _ (by simp) hh7
    have hq8 := (n8.s []).k _ _ (by simp) hq7
    refine ⟨_, _, mk hB8 hh7 th7 hq7 tq7, mk n8.a hpa7 tp7 hra7 tr7, sh_ok sh3 (by decide), sh_ok sh3 (by decide), _, rfl, if_false_of (by rw [eqv_self sh3]; rfl) ?_⟩
    refine ⟨_, rfl, B, _, _, _, rfl, rfl, SqL.of hB8, rfl, .inl ⟨rfl, _, SqL.of hh8⟩, ha, _, rfl, rfl, hh8, ?_⟩
    have b8 : Stp [] H0 H8 := b7.trans (n8.s _)
    have c9 : Stp [ha] H8 (upd H8 ha (.lst [])) := .put hh8
    have b9 : Stp [] H0 (upd H8 ha (.lst [])) := b8.putNew hh8 ha0
    generalize upd H8 ha (.lst []) = H9 at c9 b9 ⊢
    have hh6n : H5 B = none := n6.n
    have nBh : B ∉ [ha] := by simpa using (show B ≠ ha from fun e => by have := (n5.s []).k _ _ (by simp) n4.a; rw [← e, n6.n] at this; cases this)
    have nqh : hr' ∉ [ha] := by simpa using (show hr' ≠ ha from fun e => by have := n4.a; rw [← e, n5.n] at this; cases this)
    have hB9 := c9.k _ _ nBh hB8
    have hq9 := c9.k _ _ nqh hq8
    refine ⟨_, rfl, B, _, _, _, rfl, rfl, SqL.of hB9, rfl, .inl ⟨rfl, _, SqL.of hq9⟩, by show 3 ≤ sizeLine; decide, fun t H10 n10 => ?_⟩
    have hq10 := (n10.s []).k _ _ (by simp) hq9
    have hyl : ys.length ≤ 12 := by rw [tr.len]; simpa [railsD] using ok.r.l
    refine ⟨hr', _, _, rfl, rfl, hq10, by rw [sizeLine_eq]; omega, ?_⟩
    have c11 : Stp [hr'] H10 (upd H10 hr' (.lst (ys ++ [.ref t]))) := .put hq10
    have b11 : Stp [] H0 (upd H10 hr' (.lst (ys ++ [.ref t]))) := (b9.trans (n10.s _)).putNew hq10 hr0
    generalize upd H10 hr' (.lst (ys ++ [.ref t])) = H11 at c11 b11 ⊢
    have c8 : Stp [ha, hr'] H8 H11 := (c9.mono (by simp)).trans ((n10.s _).trans (c11.mono (by simp)))
    have la8 := la7.st (n8.s [])
    have dr8 := dr7.st (n8.s [])
    have two : ∀ {b : Addr}, b ≠ ha → b ≠ hr' → b ∉ [ha, hr'] := fun h1 h2 => by simpa using ⟨h1, h2⟩
    have npa : ∀ {b : Addr} {l : List V}, H3 b = some (.lst l) → b ∉ [ha, hr'] := fun {b l} hb => two (ne_of_none hb n4.n) (ne_of_none ((n4.s []).k _ _ (by simp) hb) n5.n)
    have la11 := la8.keep c8 (two (la8.ne hh8) (la8.ne hq8))
    have dr11 := dr8.keep c8 (two (dr8.ne hh8) (dr8.ne hq8)) (npa hpa) (npa hra)
    have hL11 := b11.k _ _ (by simp) hL0
    refine ⟨_, rfl, .inl ⟨rfl, _, SqL.of hL11⟩, _, rfl, _, rfl, by show 2 ≤ sizeLine; decide, fun t2 H12 n12 => ?_⟩
    have hL12 := (n12.s []).k _ _ (by simp) hL11
    refine ⟨L, _, _, rfl, rfl, hL12, by rw [sizeLine_eq]; omega, ?_⟩
    have b12 : Stp [] H0 H12 := b11.trans (n12.s _)
    have c13 : Stp [L] H12 (upd H12 L (.lst (vs ++ [.ref t2]))) := .put hL12
    have hL13 : upd H12 L (.lst (vs ++ [.ref t2])) L = some (.lst (vs ++ [.ref t2])) := upd_same
    generalize upd H12 L (.lst (vs ++ [.ref t2])) = H13 at c13 hL13 ⊢
    have b13 : Stp [L] H0 H13 := b12.of_nil.trans c13
    have kn : ∀ v ∈ vs ++ [V.ref t2], Known K L H13 v := fun v hv => by
      rcases List.mem_append.mp hv with z | z
      · exact (hvs v z).keep b13 (by simp) hL0
      · have e : v = .ref t2 := by simpa using z
        have k12 : Known K L H12 v := ⟨t2, x, p, pa, ra, ps, rs, g', s', w', e, SqT.of n12.a, la11.st (n12.s []), dr11.st (n12.s []), fun e => ?_, fun e => ?_⟩
        · exact k12.keep c13 (by simp) hL12
        · have := b2.k _ _ (by simp) hL0
          rw [← e, pa0] at this; cases this
        · have := b2.k _ _ (by simp) hL0
          rw [← e, ra0] at this; cases this
    refine ⟨_, rfl, _, rfl, _, rfl, L, _, rfl, SqL.of hL13, fun z3 I1 m1 => ⟨_, rfl, _, rfl, _, rfl, L, _, rfl, SqL.of ((m1.s []).k _ _ (by simp) hL13), fun z4 I2 m2 => ⟨z3, z4, _, _, rfl, rfl, SqL.of ((m2.s []).k _ _ (by simp) m1.a), SqL.of m2.a, ?_, fun Z I3 m3 => ?_⟩⟩⟩
    · have e1 := cutV_len (xs := vs ++ [V.ref t2]) (lo := some (-2)) (hi := none)
      rw [List.length_append, List.length_singleton] at e1
      rw [sizeLine_eq]
      omega
    have sI : Stp [] H13 I3 := ((m1.s _).trans (m2.s _)).trans (m3.s _)
    refine ⟨Z, rfl, ⟨_, SqL.of m3.a⟩, for_list (K := K) (a := Z) (xs := _) (fun j σ H' => Stp [] I3 H' ∧ ∃ q8 q9, σ = [some (.ref a), some (.ref L), some (.int c), some (.ref S), some (.int way), some (.ref p), some (.ref B), some (.ref x), q8, q9])
      ⟨.refl _, _, _, rfl⟩ (fun i σ H' _ ⟨st, _⟩ => SqL.of (st.k _ _ (by simp) m3.a)) ?_ ?_⟩
    · rintro j y σ H' hy ⟨st, r8, r9, rfl⟩
      have hy2 : y ∈ vs ++ [V.ref t2] := by
        rcases List.mem_append.mp (List.mem_of_getElem? hy) with z | z <;> exact cutV_mem z
      obtain ⟨t', x', p', pa', ra', ps', rs', g1, s1, w1, rfl, sq, la, dr', _, _⟩ := (kn y hy2).keep (sI.trans st) (by simp) hL13
      refine ⟨t', _, rfl, sq, rfl, _, _, rfl, _, _, rfl, rfl, _, rfl, _, rfl, x', p', pa', ra', ps', rs', g1, s1, w1, rfl, la, dr', fun H'' st'' => ⟨_, rfl, iteF ⟨st.trans st'', _, _, rfl⟩⟩⟩
    · rintro σ H' ⟨st, r8, r9, rfl⟩
      have sF := sI.trans st
      exact ⟨st0.trans (b13.trans sF.of_nil), ⟨_, sF.k _ _ (by simp) hL13, by simp [hvl], fun v hv => (kn v hv).keep sF (by simp) hL13⟩, _, _, _, _, _, _, _, _, rfl⟩
theorem kb_Line_platforms_0_place {K : PySem.W.Frag} {fd : FuncData} (F : FunD K "platforms" "Line.platforms" (defArgs s_Line_platforms) (defBody s_Line_platforms) (defScope s_Line_platforms) [] [] (He.ma K (He.ga K "Line") "platforms") fd) : ∃ g, KBn K fd ["self", "place"] 1 ["place"] g (fun us ws => (us.drop 0).take 1 ++ ((ws.drop 0).take 1)) := by
  obtain ⟨oc, od, dV, kV, doc, pm, an, cdv, ct, osl, rfl, lk, hcd, hD, hK⟩ := F.ex
  rcases hD with ⟨_, rfl⟩ | ⟨e, _⟩
  · exact ⟨fun us ws => (us.drop 0).take 1 ++ ((ws.drop 0).take 1), ⟨fun s us ws X l1 l2 => .of_eq (match us, ws, l1, l2 with | [_], [_], _, _ => rfl), fun rus rws => (((rus.drop 0).take 1).append ((rws.drop 0).take 1))⟩⟩
  · exact absurd rfl e
theorem kb_Line_init_2_gap_stop_away {K : PySem.W.Frag} {fd : FuncData} (F : FunD K "__init__" "Line.__init__" (defArgs s_Line_init) (defBody s_Line_init) (defScope s_Line_init) [] [("gap", .int 1), ("stop", .int 1), ("away", .int 2)] (He.ma K (He.ga K "Line") "__init__") fd) : ∃ g, KBn K fd ["self", "places", "sections", "gap", "stop", "away"] 3 ["gap", "stop", "away"] g (fun us ws => (us.drop 0).take 1 ++ ((us.drop 1).take 1 ++ ((us.drop 2).take 1 ++ ((ws.drop 0).take 1 ++ ((ws.drop 1).take 1 ++ ((ws.drop 2).take 1)))))) := by
  obtain ⟨mv, h⟩ := FunD.kbinds0 (ps := ["self", "places", "sections", "gap", "stop", "away"]) F 3 ["gap", "stop", "away"] [] (fun us mv ws => (us.drop 0).take 1 ++ ((us.drop 1).take 1 ++ ((us.drop 2).take 1 ++ ((ws.drop 0).take 1 ++ ((ws.drop 1).take 1 ++ ((ws.drop 2).take 1)))))) (by simp) (by intro q hq; cases hq) (fun rus rmv rws => (((rus.drop 0).take 1).append (((rus.drop 1).take 1).append (((rus.drop 2).take 1).append (((rws.drop 0).take 1).append (((rws.drop 1).take 1).append ((rws.drop 2).take 1)))))))
    (fun D doc pm an cdv ct us mv ws l1 l2 l3 => match us, mv, ws, l1, l2, l3 with | [_, _, _], [], [_, _, _], _, _, _ => rfl)
  exact ⟨_, h⟩
theorem kb_Line_init_0_away_sections_stop_places_gap {K : PySem.W.Frag} {fd : FuncData} (F : FunD K "__init__" "Line.__init__" (defArgs s_Line_init) (defBody s_Line_init) (defScope s_Line_init) [] [("gap", .int 1), ("stop", .int 1), ("away", .int 2)] (He.ma K (He.ga K "Line") "__init__") fd) : ∃ g, KBn K fd ["self", "places", "sections", "gap", "stop", "away"] 1 ["away", "sections", "stop", "places", "gap"] g (fun us ws => (us.drop 0).take 1 ++ ((ws.drop 3).take 1 ++ ((ws.drop 1).take 1 ++ ((ws.drop 4).take 1 ++ ((ws.drop 2).take 1 ++ ((ws.drop 0).take 1)))))) := by
  obtain ⟨mv, h⟩ := FunD.kbinds0 (ps := ["self", "places", "sections", "gap", "stop", "away"]) F 1 ["away", "sections", "stop", "places", "gap"] [] (fun us mv ws => (us.drop 0).take 1 ++ ((ws.drop 3).take 1 ++ ((ws.drop 1).take 1 ++ ((ws.drop 4).take 1 ++ ((ws.drop 2).take 1 ++ ((ws.drop 0).take 1)))))) (by simp) (by intro q hq; cases hq) (fun rus rmv rws => (((rus.drop 0).take 1).append (((rws.drop 3).take 1).append (((rws.drop 1).take 1).append (((rws.drop 4).take 1).append (((rws.drop 2).take 1).append ((rws.drop 0).take 1)))))))
    (fun D doc pm an cdv ct us mv ws l1 l2 l3 => match us, mv, ws, l1, l2, l3 with | [_], [], [_, _, _, _, _], _, _, _ => rfl)
  exact ⟨_, h⟩
theorem kb_Line_init_2_ {K : PySem.W.Frag} {fd : FuncData} (F : FunD K "__init__" "Line.__init__" (defArgs s_Line_init) (defBody s_Line_init) (defScope s_Line_init) [] [("gap", .int 1), ("stop", .int 1), ("away", .int 2)] (He.ma K (He.ga K "Line") "__init__") fd) : ∃ g, KBn K fd ["self", "places", "sections", "gap", "stop", "away"] 3 [] g (fun us ws => (us.drop 0).take 1 ++ ((us.drop 1).take 1 ++ ((us.drop 2).take 1 ++ ((([.int 1, .int 1, .int 2] : List V).drop 0).take 1 ++ ((([.int 1, .int 1, .int 2] : List V).drop 1).take 1 ++ ((([.int 1, .int 1, .int 2] : List V).drop 2).take 1)))))) := by
  obtain ⟨mv, h⟩ := FunD.kbinds0 (ps := ["self", "places", "sections", "gap", "stop", "away"]) F 3 [] [("gap", .int 1), ("stop", .int 1), ("away", .int 2)] (fun us mv ws => (us.drop 0).take 1 ++ ((us.drop 1).take 1 ++ ((us.drop 2).take 1 ++ ((mv.drop 0).take 1 ++ ((mv.drop 1).take 1 ++ ((mv.drop 2).take 1)))))) (by simp) (by intro q hq; simp only [List.mem_cons, List.not_mem_nil, or_false] at hq ⊢; rcases hq with rfl | rfl | rfl <;> simp [*]) (fun rus rmv rws => (((rus.drop 0).take 1).append (((rus.drop 1).take 1).append (((rus.drop 2).take 1).append (((rmv.drop 0).take 1).append (((rmv.drop 1).take 1).append ((rmv.drop 2).take 1)))))))
    (fun D doc pm an cdv ct us mv ws l1 l2 l3 => match us, mv, ws, l1, l2, l3 with | [_, _, _], [_, _, _], [], _, _, _ => ⟨_, _, _, _, _, _, rfl, rfl, ⟨_, _, _, _, _, _, rfl, rfl, ⟨_, _, _, _, _, _, rfl, rfl, rfl⟩⟩⟩)
  exact ⟨_, h⟩
def d_NoLine_init : He.DefD := ⟨("NoLine", some "__init__"), "__init__", "NoLine.__init__", defArgs s_NoLine_init, defBody s_NoLine_init, defScope s_NoLine_init, [], []⟩
def d_is_whole : He.DefD := ⟨("is_whole", none), "is_whole", "is_whole", defArgs s_is_whole, defBody s_is_whole, defScope s_is_whole, [], []⟩
def d_is_from : He.DefD := ⟨("is_from", none), "is_from", "is_from", defArgs s_is_from, defBody s_is_from, defScope s_is_from, [], []⟩
def d_is_name : He.DefD := ⟨("is_name", none), "is_name", "is_name", defArgs s_is_name, defBody s_is_name, defScope s_is_name, [], []⟩
def d_is_place : He.DefD := ⟨("is_place", none), "is_place", "is_place", defArgs s_is_place, defBody s_is_place, defScope s_is_place, [], []⟩
def d_are_places : He.DefD := ⟨("are_places", none), "are_places", "are_places", defArgs s_are_places, defBody s_are_places, defScope s_are_places, [], []⟩
def d_is_section : He.DefD := ⟨("is_section", none), "is_section", "is_section", defArgs s_is_section, defBody s_is_section, defScope s_is_section, [], []⟩
def d_are_sections : He.DefD := ⟨("are_sections", none), "are_sections", "are_sections", defArgs s_are_sections, defBody s_are_sections, defScope s_are_sections, [], []⟩
def d_Line_init : He.DefD := ⟨("Line", some "__init__"), "__init__", "Line.__init__", defArgs s_Line_init, defBody s_Line_init, defScope s_Line_init, [], [("gap", .int 1), ("stop", .int 1), ("away", .int 2)]⟩
def d_Linedd_lendd : He.DefD := ⟨("Line", some "__len__"), "__len__", "Line.__len__", defArgs s_Linedd_lendd, defBody s_Linedd_lendd, defScope s_Linedd_lendd, [], []⟩
def d_Linedd_strdd : He.DefD := ⟨("Line", some "__str__"), "__str__", "Line.__str__", defArgs s_Linedd_strdd, defBody s_Linedd_strdd, defScope s_Linedd_strdd, [], []⟩
def d_Line_names : He.DefD := ⟨("Line", some "names"), "names", "Line.names", defArgs s_Line_names, defBody s_Line_names, defScope s_Line_names, [], []⟩
def d_Line_platforms : He.DefD := ⟨("Line", some "platforms"), "platforms", "Line.platforms", defArgs s_Line_platforms, defBody s_Line_platforms, defScope s_Line_platforms, [], []⟩
def d_Line_tracks : He.DefD := ⟨("Line", some "tracks"), "tracks", "Line.tracks", defArgs s_Line_tracks, defBody s_Line_tracks, defScope s_Line_tracks, [], []⟩
def d__law_mixed : He.DefD := ⟨("_law_mixed", none), "_law_mixed", "_law_mixed", defArgs s__law_mixed, defBody s__law_mixed, defScope s__law_mixed, [], []⟩
def d__law_source : He.DefD := ⟨("_law_source", none), "_law_source", "_law_source", defArgs s__law_source, defBody s__law_source, defScope s__law_source, [], []⟩
def d__law_take : He.DefD := ⟨("_law_take", none), "_law_take", "_law_take", defArgs s__law_take, defBody s__law_take, defScope s__law_take, [], []⟩
def d__law_names : He.DefD := ⟨("_law_names", none), "_law_names", "_law_names", defArgs s__law_names, defBody s__law_names, defScope s__law_names, [], []⟩
def d__law_line_of : He.DefD := ⟨("_law_line_of", none), "_law_line_of", "_law_line_of", defArgs s__law_line_of, defBody s__law_line_of, defScope s__law_line_of, [], []⟩
def d__law_whole : He.DefD := ⟨("_law_whole", none), "_law_whole", "_law_whole", defArgs s__law_whole, defBody s__law_whole, defScope s__law_whole, [], []⟩
def d__law_right : He.DefD := ⟨("_law_right", none), "_law_right", "_law_right", defArgs s__law_right, defBody s__law_right, defScope s__law_right, [], []⟩
def d__law_made : He.DefD := ⟨("_law_made", none), "_law_made", "_law_made", defArgs s__law_made, defBody s__law_made, defScope s__law_made, [], []⟩
def d_law : He.DefD := ⟨("law", none), "law", "law", defArgs s_law, defBody s_law, defScope s_law, [], []⟩
def fnL : List He.DefD := [d_NoLine_init, d_is_whole, d_is_from, d_is_name, d_is_place, d_are_places, d_is_section, d_are_sections, d_Line_init, d_Linedd_lendd, d_Linedd_strdd, d_Line_names, d_Line_platforms, d_Line_tracks, d__law_mixed, d__law_source, d__law_take, d__law_names, d__law_line_of, d__law_whole, d__law_right, d__law_made, d_law]
def fa0 : List He.Fa := [.glo "_wall", .glo "HaltError", .glo "NoLine", .glo "is_whole", .glo "is_from", .glo "is_name", .glo "is_place", .glo "are_places", .glo "is_section", .glo "are_sections", .glo "far_end", .glo "Line", .glo "_law_mixed", .glo "_law_source", .glo "_law_take", .glo "_law_names", .glo "_law_line_of", .glo "_law_whole", .glo "_law_right", .glo "_law_made", .glo "law", .free "all", .free "bool", .free "int", .free "isinstance", .free "len", .free "list", .free "range", .free "str", .free "tuple"]
def fa1 : List He.Fa := [.str "LETTERS" "abcdefghijklmnopqrstuvwxyz", .int "MOST_LETTERS" 8, .int "MOST_PLACES" 8, .int "MOST_PLATFORMS" 3, .int "MOST_SECTIONS" 12, .int "MOST_MINUTES" 99, .int "MOST_GAP" 9, .cls "Line", .mkr "Line", .meth "Line" "__len__", .meth "Line" "__str__", .meth "Line" "__eq__", .meth "Line" "names", .meth "Line" "platforms", .meth "Line" "tracks", .meth "Line" "section", .meth "Line" "between", .meth "Line" "pieces", .meth "Line" "ways_from", .meth "Line" "least", .noat "Line" "away", .noat "Line" "gap", .noat "Line" "halts", .noat "Line" "rails", .noat "Line" "stop"]
def faL : List He.Fa := fa0 ++ fa1
def exL (K : PySem.W.Frag) : Bool := baseErrB K "HaltError" && (errB K "NoLine" "what" && (true))
abbrev rowR : PySem.W.OpenRow := PySem.W.OpenLaw.row PySem.Challenge.rw_haltday_k01_a_line_told
abbrev hkL : PySem.W.Hook := hookN 7 faL fnL exL
def obL (s : PySem.W.SharedT) : He.AlD × Bool := obsN 7 faL fnL exL (HandSHeadRun.getT s)
theorem obL_eq (s : PySem.W.SharedT) : obL s = hkL.obs s.abs := obsN_eq (HandSHeadRun.getT_eq s)
def loose0 : List Str := ["_wall", "HaltError", "NoLine", "LETTERS", "MOST_LETTERS", "is_whole", "is_from", "is_name", "MOST_PLACES", "MOST_PLATFORMS", "MOST_SECTIONS", "MOST_MINUTES", "MOST_GAP", "is_place", "are_places", "is_section", "are_sections", "far_end", "Line", "_law_mixed", "_law_source", "_law_take", "_law_names", "_law_line_of", "_law_whole", "_law_right", "_law_made"]
def looseL : List Str := loose0
theorem runL (w : World) : HandSHeadRun.RunEq rowR (PySem.W.view rowR.prog [31]) hkL obL 3000 looseL w := by
  intro os
  kernel_rfl
theorem txt_of {K : PySem.W.Frag} {h : Heap} {mg : Str → Option Value} (X : K.In h) (G : h.Ns mainGlobals mg) (c : He.SaysD faL fnL K ∧ exL K = true) : Txt K mg := by
  have m := c.2
  unfold exL at m
  obtain ⟨m0, m⟩ := He.ba m
  obtain ⟨m1, m⟩ := He.ba m
  exact {
    g__wall := He.glo_ok X G (c.1.fact 0 (f := .glo "_wall") rfl),
    g_HaltError := He.glo_ok X G (c.1.fact 1 (f := .glo "HaltError") rfl),
    g_NoLine := He.glo_ok X G (c.1.fact 2 (f := .glo "NoLine") rfl),
    g_is_whole := He.glo_ok X G (c.1.fact 3 (f := .glo "is_whole") rfl),
    g_is_from := He.glo_ok X G (c.1.fact 4 (f := .glo "is_from") rfl),
    g_is_name := He.glo_ok X G (c.1.fact 5 (f := .glo "is_name") rfl),
    g_is_place := He.glo_ok X G (c.1.fact 6 (f := .glo "is_place") rfl),
    g_are_places := He.glo_ok X G (c.1.fact 7 (f := .glo "are_places") rfl),
    g_is_section := He.glo_ok X G (c.1.fact 8 (f := .glo "is_section") rfl),
    g_are_sections := He.glo_ok X G (c.1.fact 9 (f := .glo "are_sections") rfl),
    g_far_end := He.glo_ok X G (c.1.fact 10 (f := .glo "far_end") rfl),
    g_Line := He.glo_ok X G (c.1.fact 11 (f := .glo "Line") rfl),
    g__law_mixed := He.glo_ok X G (c.1.fact 12 (f := .glo "_law_mixed") rfl),
    g__law_source := He.glo_ok X G (c.1.fact 13 (f := .glo "_law_source") rfl),
    g__law_take := He.glo_ok X G (c.1.fact 14 (f := .glo "_law_take") rfl),
    g__law_names := He.glo_ok X G (c.1.fact 15 (f := .glo "_law_names") rfl),
    g__law_line_of := He.glo_ok X G (c.1.fact 16 (f := .glo "_law_line_of") rfl),
    g__law_whole := He.glo_ok X G (c.1.fact 17 (f := .glo "_law_whole") rfl),
    g__law_right := He.glo_ok X G (c.1.fact 18 (f := .glo "_law_right") rfl),
    g__law_made := He.glo_ok X G (c.1.fact 19 (f := .glo "_law_made") rfl),
    g_law := He.glo_ok X G (c.1.fact 20 (f := .glo "law") rfl),
    f_all := He.free_ok X G (c.1.fact 21 (f := .free "all") rfl),
    f_bool := He.free_ok X G (c.1.fact 22 (f := .free "bool") rfl),
    f_int := He.free_ok X G (c.1.fact 23 (f := .free "int") rfl),
    f_isinstance := He.free_ok X G (c.1.fact 24 (f := .free "isinstance") rfl),
    f_len := He.free_ok X G (c.1.fact 25 (f := .free "len") rfl),
    f_list := He.free_ok X G (c.1.fact 26 (f := .free "list") rfl),
    f_range := He.free_ok X G (c.1.fact 27 (f := .free "range") rfl),
    f_str := He.free_ok X G (c.1.fact 28 (f := .free "str") rfl),
    f_tuple := He.free_ok X G (c.1.fact 29 (f := .free "tuple") rfl),
    c_LETTERS := He.str_ok X G (c.1.fact 30 (f := .str "LETTERS" "abcdefghijklmnopqrstuvwxyz") rfl),
    c_MOST_LETTERS := He.int_ok X G (c.1.fact 31 (f := .int "MOST_LETTERS" 8) rfl),
    c_MOST_PLACES := He.int_ok X G (c.1.fact 32 (f := .int "MOST_PLACES" 8) rfl),
    c_MOST_PLATFORMS := He.int_ok X G (c.1.fact 33 (f := .int "MOST_PLATFORMS" 3) rfl),
    c_MOST_SECTIONS := He.int_ok X G (c.1.fact 34 (f := .int "MOST_SECTIONS" 12) rfl),
    c_MOST_MINUTES := He.int_ok X G (c.1.fact 35 (f := .int "MOST_MINUTES" 99) rfl),
    c_MOST_GAP := He.int_ok X G (c.1.fact 36 (f := .int "MOST_GAP" 9) rfl),
    cl_Line := He.cls_ok (c.1.fact 37 (f := .cls "Line") rfl),
    mk_Line := He.mkr_ok (c.1.fact 38 (f := .mkr "Line") rfl),
    m_Line___len__ := He.meth_ok (c.1.fact 39 (f := .meth "Line" "__len__") rfl),
    m_Line___str__ := He.meth_ok (c.1.fact 40 (f := .meth "Line" "__str__") rfl),
    m_Line___eq__ := He.meth_ok (c.1.fact 41 (f := .meth "Line" "__eq__") rfl),
    m_Line_names := He.meth_ok (c.1.fact 42 (f := .meth "Line" "names") rfl),
    m_Line_platforms := He.meth_ok (c.1.fact 43 (f := .meth "Line" "platforms") rfl),
    m_Line_tracks := He.meth_ok (c.1.fact 44 (f := .meth "Line" "tracks") rfl),
    m_Line_section := He.meth_ok (c.1.fact 45 (f := .meth "Line" "section") rfl),
    m_Line_between := He.meth_ok (c.1.fact 46 (f := .meth "Line" "between") rfl),
    m_Line_pieces := He.meth_ok (c.1.fact 47 (f := .meth "Line" "pieces") rfl),
    m_Line_ways_from := He.meth_ok (c.1.fact 48 (f := .meth "Line" "ways_from") rfl),
    m_Line_least := He.meth_ok (c.1.fact 49 (f := .meth "Line" "least") rfl),
    n_Line_away := He.noat_ok (c.1.fact 50 (f := .noat "Line" "away") rfl),
    n_Line_gap := He.noat_ok (c.1.fact 51 (f := .noat "Line" "gap") rfl),
    n_Line_halts := He.noat_ok (c.1.fact 52 (f := .noat "Line" "halts") rfl),
    n_Line_rails := He.noat_ok (c.1.fact 53 (f := .noat "Line" "rails") rfl),
    n_Line_stop := He.noat_ok (c.1.fact 54 (f := .noat "Line" "stop") rfl),
    be_HaltError := baseErrB_ok m0,
    e_NoLine := errB_ok m1 }
theorem all_of {w : World} {K : PySem.W.Frag} {h : Heap} {mg : Str → Option Value} {f : Addr} (X : K.In h) (G : h.Ns mainGlobals mg) (hfa : mg ("law" : Str) = some (.ref f)) (c : He.SaysD faL fnL K ∧ exL K = true) :
    ∃ fd : FuncData, (∀ (s : Shared) (v : Value), BindsTo s fd ⟨[v], []⟩ [("_law_script", v)]) ∧ ∀ base : Heap, K.In base → base.Ns mainGlobals mg → FnOk PySem.Challenge.pw_haltday_k01_a_line_told w K mg base (L2.CX PySem.Challenge.pw_haltday_k01_a_line_told w) 8 f fd ["_law_script"] (spLaw K) := by
  have T := txt_of X G c
  have e := hfa.symm.trans T.g_law
  cases e
  obtain ⟨fd_NoLine_init, F_NoLine_init⟩ := c.1.def_ 0 (d := d_NoLine_init) rfl
  obtain ⟨fd_is_whole, F_is_whole⟩ := c.1.def_ 1 (d := d_is_whole) rfl
  obtain ⟨fd_is_from, F_is_from⟩ := c.1.def_ 2 (d := d_is_from) rfl
  obtain ⟨fd_is_name, F_is_name⟩ := c.1.def_ 3 (d := d_is_name) rfl
  obtain ⟨fd_is_place, F_is_place⟩ := c.1.def_ 4 (d := d_is_place) rfl
  obtain ⟨fd_are_places, F_are_places⟩ := c.1.def_ 5 (d := d_are_places) rfl
  obtain ⟨fd_is_section, F_is_section⟩ := c.1.def_ 6 (d := d_is_section) rfl
  obtain ⟨fd_are_sections, F_are_sections⟩ := c.1.def_ 7 (d := d_are_sections) rfl
  obtain ⟨fd_Line_init, F_Line_init⟩ := c.1.def_ 8 (d := d_Line_init) rfl
  obtain ⟨fd_Linedd_lendd, F_Linedd_lendd⟩ := c.1.def_ 9 (d := d_Linedd_lendd) rfl
  obtain ⟨fd_Linedd_strdd, F_Linedd_strdd⟩ := c.1.def_ 10 (d := d_Linedd_strdd) rfl
  obtain ⟨fd_Line_names, F_Line_names⟩ := c.1.def_ 11 (d := d_Line_names) rfl
  obtain ⟨fd_Line_platforms, F_Line_platforms⟩ := c.1.def_ 12 (d := d_Line_platforms) rfl
  obtain ⟨fd_Line_tracks, F_Line_tracks⟩ := c.1.def_ 13 (d := d_Line_tracks) rfl
  obtain ⟨fd__law_mixed, F__law_mixed⟩ := c.1.def_ 14 (d := d__law_mixed) rfl
  obtain ⟨fd__law_source, F__law_source⟩ := c.1.def_ 15 (d := d__law_source) rfl
  obtain ⟨fd__law_take, F__law_take⟩ := c.1.def_ 16 (d := d__law_take) rfl
  obtain ⟨fd__law_names, F__law_names⟩ := c.1.def_ 17 (d := d__law_names) rfl
  obtain ⟨fd__law_line_of, F__law_line_of⟩ := c.1.def_ 18 (d := d__law_line_of) rfl
  obtain ⟨fd__law_whole, F__law_whole⟩ := c.1.def_ 19 (d := d__law_whole) rfl
  obtain ⟨fd__law_right, F__law_right⟩ := c.1.def_ 20 (d := d__law_right) rfl
  obtain ⟨fd__law_made, F__law_made⟩ := c.1.def_ 21 (d := d__law_made) rfl
  obtain ⟨fd_law, F_law⟩ := c.1.def_ 22 (d := d_law) rfl
  refine ⟨fd_law, fun s v => FunD.bindsA (ps := ["_law_script"]) F_law (fun _ _ _ _ _ _ us hl => match us, hl with | [_], _ => rfl) s [v] rfl, fun base _ _ => ?_⟩
  have O_Linedd_strdd : FnOk PySem.Challenge.pw_haltday_k01_a_line_told w K mg base (L2.CX PySem.Challenge.pw_haltday_k01_a_line_told w) 1 (He.ma K (He.ga K "Line") "__str__") fd_Linedd_strdd ["self"] (spLineStr K) := ok_Linedd_strdd T F_Linedd_strdd 
  have C_Linedd_strdd : Cal PySem.Challenge.pw_haltday_k01_a_line_told w K mg base 1 (He.ma K (He.ga K "Line") "__str__") ["self"] (spLineStr K) := ⟨⟨_, O_Linedd_strdd, F_Linedd_strdd.bindsN fun _ _ _ _ _ _ us hl => match us, hl with | [_], _ => rfl⟩, F_Linedd_strdd.kp⟩
  have O_Linedd_lendd : FnOk PySem.Challenge.pw_haltday_k01_a_line_told w K mg base (L2.CX PySem.Challenge.pw_haltday_k01_a_line_told w) 1 (He.ma K (He.ga K "Line") "__len__") fd_Linedd_lendd ["self"] (spLineLen K) := ok_Linedd_lendd T F_Linedd_lendd 
  have C_Linedd_lendd : Cal PySem.Challenge.pw_haltday_k01_a_line_told w K mg base 1 (He.ma K (He.ga K "Line") "__len__") ["self"] (spLineLen K) := ⟨⟨_, O_Linedd_lendd, F_Linedd_lendd.bindsN fun _ _ _ _ _ _ us hl => match us, hl with | [_], _ => rfl⟩, F_Linedd_lendd.kp⟩
  have O__law_whole : FnOk PySem.Challenge.pw_haltday_k01_a_line_told w K mg base (L2.CX PySem.Challenge.pw_haltday_k01_a_line_told w) 1 (He.ga K "_law_whole") fd__law_whole ["_law_found"] (spWhole K) := ok__law_whole T F__law_whole 
  have C__law_whole : Cal PySem.Challenge.pw_haltday_k01_a_line_told w K mg base 1 (He.ga K "_law_whole") ["_law_found"] (spWhole K) := ⟨⟨_, O__law_whole, F__law_whole.bindsN fun _ _ _ _ _ _ us hl => match us, hl with | [_], _ => rfl⟩, F__law_whole.kp⟩
  have O_Line_tracks : FnOk PySem.Challenge.pw_haltday_k01_a_line_told w K mg base (L2.CX PySem.Challenge.pw_haltday_k01_a_line_told w) 1 (He.ma K (He.ga K "Line") "tracks") fd_Line_tracks ["self"] (spTracks K) := ok_Line_tracks T F_Line_tracks 
  have C_Line_tracks : Cal PySem.Challenge.pw_haltday_k01_a_line_told w K mg base 1 (He.ma K (He.ga K "Line") "tracks") ["self"] (spTracks K) := ⟨⟨_, O_Line_tracks, F_Line_tracks.bindsN fun _ _ _ _ _ _ us hl => match us, hl with | [_], _ => rfl⟩, F_Line_tracks.kp⟩
  have O_NoLine_init : FnOk PySem.Challenge.pw_haltday_k01_a_line_told w K mg base (L2.CX PySem.Challenge.pw_haltday_k01_a_line_told w) 1 (He.ma K (He.ga K "NoLine") "__init__") fd_NoLine_init ["self", "what"] (spErr (He.ga K "NoLine") "what") := ok_NoLine_init T F_NoLine_init 
  have C_NoLine_init : Cal PySem.Challenge.pw_haltday_k01_a_line_told w K mg base 1 (He.ma K (He.ga K "NoLine") "__init__") ["self", "what"] (spErr (He.ga K "NoLine") "what") := ⟨⟨_, O_NoLine_init, F_NoLine_init.bindsN fun _ _ _ _ _ _ us hl => match us, hl with | [_, _], _ => rfl⟩, F_NoLine_init.kp⟩
  have O_is_name : FnOk PySem.Challenge.pw_haltday_k01_a_line_told w K mg base (L2.CX PySem.Challenge.pw_haltday_k01_a_line_told w) 1 (He.ga K "is_name") fd_is_name ["thing"] (spName K) := ok_is_name T F_is_name 
  have C_is_name : Cal PySem.Challenge.pw_haltday_k01_a_line_told w K mg base 1 (He.ga K "is_name") ["thing"] (spName K) := ⟨⟨_, O_is_name, F_is_name.bindsN fun _ _ _ _ _ _ us hl => match us, hl with | [_], _ => rfl⟩, F_is_name.kp⟩
  have O_Line_platforms : FnOk PySem.Challenge.pw_haltday_k01_a_line_told w K mg base (L2.CX PySem.Challenge.pw_haltday_k01_a_line_told w) 3 (He.ma K (He.ga K "Line") "platforms") fd_Line_platforms ["self", "place"] (spPlatforms K) := ok_Line_platforms T F_Line_platforms C_NoLine_init C_is_name
  have C_Line_platforms : Cal PySem.Challenge.pw_haltday_k01_a_line_told w K mg base 3 (He.ma K (He.ga K "Line") "platforms") ["self", "place"] (spPlatforms K) := ⟨⟨_, O_Line_platforms, F_Line_platforms.bindsN fun _ _ _ _ _ _ us hl => match us, hl with | [_, _], _ => rfl⟩, F_Line_platforms.kp⟩
  have K_Line_platforms_0_place : CalK PySem.Challenge.pw_haltday_k01_a_line_told w K mg base 3 (He.ma K (He.ga K "Line") "platforms") ["self", "place"] (spPlatforms K) 1 ["place"] (fun us ws => (us.drop 0).take 1 ++ ((ws.drop 0).take 1)) := by
    obtain ⟨g, b⟩ := kb_Line_platforms_0_place F_Line_platforms
    exact ⟨⟨_, g, O_Line_platforms, b⟩, F_Line_platforms.kp⟩
  have O_Line_names : FnOk PySem.Challenge.pw_haltday_k01_a_line_told w K mg base (L2.CX PySem.Challenge.pw_haltday_k01_a_line_told w) 1 (He.ma K (He.ga K "Line") "names") fd_Line_names ["self"] (spNames K) := ok_Line_names T F_Line_names 
  have C_Line_names : Cal PySem.Challenge.pw_haltday_k01_a_line_told w K mg base 1 (He.ma K (He.ga K "Line") "names") ["self"] (spNames K) := ⟨⟨_, O_Line_names, F_Line_names.bindsN fun _ _ _ _ _ _ us hl => match us, hl with | [_], _ => rfl⟩, F_Line_names.kp⟩
  have O__law_right : FnOk PySem.Challenge.pw_haltday_k01_a_line_told w K mg base (L2.CX PySem.Challenge.pw_haltday_k01_a_line_told w) 4 (He.ga K "_law_right") fd__law_right ["_law_line", "_law_drawn"] (spRight K) := ok__law_right T F__law_right C_Linedd_strdd C_Linedd_lendd C__law_whole C_Line_tracks K_Line_platforms_0_place C_Line_platforms C_Line_names
  have C__law_right : Cal PySem.Challenge.pw_haltday_k01_a_line_told w K mg base 4 (He.ga K "_law_right") ["_law_line", "_law_drawn"] (spRight K) := ⟨⟨_, O__law_right, F__law_right.bindsN fun _ _ _ _ _ _ us hl => match us, hl with | [_, _], _ => rfl⟩, F__law_right.kp⟩
  have O_is_whole : FnOk PySem.Challenge.pw_haltday_k01_a_line_told w K mg base (L2.CX PySem.Challenge.pw_haltday_k01_a_line_told w) 1 (He.ga K "is_whole") fd_is_whole ["thing"] (spWhole K) := ok_is_whole T F_is_whole 
  have C_is_whole : Cal PySem.Challenge.pw_haltday_k01_a_line_told w K mg base 1 (He.ga K "is_whole") ["thing"] (spWhole K) := ⟨⟨_, O_is_whole, F_is_whole.bindsN fun _ _ _ _ _ _ us hl => match us, hl with | [_], _ => rfl⟩, F_is_whole.kp⟩
  have O_is_from : FnOk PySem.Challenge.pw_haltday_k01_a_line_told w K mg base (L2.CX PySem.Challenge.pw_haltday_k01_a_line_told w) 2 (He.ga K "is_from") fd_is_from ["thing", "low", "high"] (spFrom K) := ok_is_from T F_is_from C_is_whole
  have C_is_from : Cal PySem.Challenge.pw_haltday_k01_a_line_told w K mg base 2 (He.ga K "is_from") ["thing", "low", "high"] (spFrom K) := ⟨⟨_, O_is_from, F_is_from.bindsN fun _ _ _ _ _ _ us hl => match us, hl with | [_, _, _], _ => rfl⟩, F_is_from.kp⟩
  have O_is_section : FnOk PySem.Challenge.pw_haltday_k01_a_line_told w K mg base (L2.CX PySem.Challenge.pw_haltday_k01_a_line_told w) 3 (He.ga K "is_section") fd_is_section ["thing", "names"] (spSection K) := ok_is_section T F_is_section C_is_from C_is_name
  have C_is_section : Cal PySem.Challenge.pw_haltday_k01_a_line_told w K mg base 3 (He.ga K "is_section") ["thing", "names"] (spSection K) := ⟨⟨_, O_is_section, F_is_section.bindsN fun _ _ _ _ _ _ us hl => match us, hl with | [_, _], _ => rfl⟩, F_is_section.kp⟩
  have O_are_sections : FnOk PySem.Challenge.pw_haltday_k01_a_line_told w K mg base (L2.CX PySem.Challenge.pw_haltday_k01_a_line_told w) 4 (He.ga K "are_sections") fd_are_sections ["thing", "names"] (spSections K) := ok_are_sections T F_are_sections C_is_section
  have C_are_sections : Cal PySem.Challenge.pw_haltday_k01_a_line_told w K mg base 4 (He.ga K "are_sections") ["thing", "names"] (spSections K) := ⟨⟨_, O_are_sections, F_are_sections.bindsN fun _ _ _ _ _ _ us hl => match us, hl with | [_, _], _ => rfl⟩, F_are_sections.kp⟩
  have O_is_place : FnOk PySem.Challenge.pw_haltday_k01_a_line_told w K mg base (L2.CX PySem.Challenge.pw_haltday_k01_a_line_told w) 3 (He.ga K "is_place") fd_is_place ["thing"] (spPlace K) := ok_is_place T F_is_place C_is_from C_is_name
  have C_is_place : Cal PySem.Challenge.pw_haltday_k01_a_line_told w K mg base 3 (He.ga K "is_place") ["thing"] (spPlace K) := ⟨⟨_, O_is_place, F_is_place.bindsN fun _ _ _ _ _ _ us hl => match us, hl with | [_], _ => rfl⟩, F_is_place.kp⟩
  have O_are_places : FnOk PySem.Challenge.pw_haltday_k01_a_line_told w K mg base (L2.CX PySem.Challenge.pw_haltday_k01_a_line_told w) 4 (He.ga K "are_places") fd_are_places ["thing"] (spPlaces K) := ok_are_places T F_are_places C_is_place
  have C_are_places : Cal PySem.Challenge.pw_haltday_k01_a_line_told w K mg base 4 (He.ga K "are_places") ["thing"] (spPlaces K) := ⟨⟨_, O_are_places, F_are_places.bindsN fun _ _ _ _ _ _ us hl => match us, hl with | [_], _ => rfl⟩, F_are_places.kp⟩
  have O_Line_init : FnOk PySem.Challenge.pw_haltday_k01_a_line_told w K mg base (L2.CX PySem.Challenge.pw_haltday_k01_a_line_told w) 5 (He.ma K (He.ga K "Line") "__init__") fd_Line_init ["self", "places", "sections", "gap", "stop", "away"] (spLineInit K) := ok_Line_init T F_Line_init C_is_from C_NoLine_init C_are_sections C_are_places
  have K_Line_init_0_away_sections_stop_places_gap : CalK PySem.Challenge.pw_haltday_k01_a_line_told w K mg base 5 (He.ma K (He.ga K "Line") "__init__") ["self", "places", "sections", "gap", "stop", "away"] (spLineInit K) 1 ["away", "sections", "stop", "places", "gap"] (fun us ws => (us.drop 0).take 1 ++ ((ws.drop 3).take 1 ++ ((ws.drop 1).take 1 ++ ((ws.drop 4).take 1 ++ ((ws.drop 2).take 1 ++ ((ws.drop 0).take 1)))))) := by
    obtain ⟨g, b⟩ := kb_Line_init_0_away_sections_stop_places_gap F_Line_init
    exact ⟨⟨_, g, O_Line_init, b⟩, F_Line_init.kp⟩
  have K_Line_init_2_ : CalK PySem.Challenge.pw_haltday_k01_a_line_told w K mg base 5 (He.ma K (He.ga K "Line") "__init__") ["self", "places", "sections", "gap", "stop", "away"] (spLineInit K) 3 [] (fun us ws => (us.drop 0).take 1 ++ ((us.drop 1).take 1 ++ ((us.drop 2).take 1 ++ ((([.int 1, .int 1, .int 2] : List V).drop 0).take 1 ++ ((([.int 1, .int 1, .int 2] : List V).drop 1).take 1 ++ ((([.int 1, .int 1, .int 2] : List V).drop 2).take 1)))))) := by
    obtain ⟨g, b⟩ := kb_Line_init_2_ F_Line_init
    exact ⟨⟨_, g, O_Line_init, b⟩, F_Line_init.kp⟩
  have K_Line_init_2_gap_stop_away : CalK PySem.Challenge.pw_haltday_k01_a_line_told w K mg base 5 (He.ma K (He.ga K "Line") "__init__") ["self", "places", "sections", "gap", "stop", "away"] (spLineInit K) 3 ["gap", "stop", "away"] (fun us ws => (us.drop 0).take 1 ++ ((us.drop 1).take 1 ++ ((us.drop 2).take 1 ++ ((ws.drop 0).take 1 ++ ((ws.drop 1).take 1 ++ ((ws.drop 2).take 1)))))) := by
    obtain ⟨g, b⟩ := kb_Line_init_2_gap_stop_away F_Line_init
    exact ⟨⟨_, g, O_Line_init, b⟩, F_Line_init.kp⟩
  have O__law_made : FnOk PySem.Challenge.pw_haltday_k01_a_line_told w K mg base (L2.CX PySem.Challenge.pw_haltday_k01_a_line_told w) 7 (He.ga K "_law_made") fd__law_made ["_law_way", "_law_drawn", "_law_halts", "_law_rails"] (spMade K) := ok__law_made T F__law_made K_Line_init_2_gap_stop_away K_Line_init_0_away_sections_stop_places_gap K_Line_init_2_
  have C__law_made : Cal PySem.Challenge.pw_haltday_k01_a_line_told w K mg base 7 (He.ga K "_law_made") ["_law_way", "_law_drawn", "_law_halts", "_law_rails"] (spMade K) := ⟨⟨_, O__law_made, F__law_made.bindsN fun _ _ _ _ _ _ us hl => match us, hl with | [_, _, _, _], _ => rfl⟩, F__law_made.kp⟩
  have O__law_mixed : FnOk PySem.Challenge.pw_haltday_k01_a_line_told w K mg base (L2.CX PySem.Challenge.pw_haltday_k01_a_line_told w) 1 (He.ga K "_law_mixed") fd__law_mixed ["_law_cell", "_law_k"] (spMixed) := ok__law_mixed T F__law_mixed 
  have C__law_mixed : Cal PySem.Challenge.pw_haltday_k01_a_line_told w K mg base 1 (He.ga K "_law_mixed") ["_law_cell", "_law_k"] (spMixed) := ⟨⟨_, O__law_mixed, F__law_mixed.bindsN fun _ _ _ _ _ _ us hl => match us, hl with | [_, _], _ => rfl⟩, F__law_mixed.kp⟩
  have O__law_take : FnOk PySem.Challenge.pw_haltday_k01_a_line_told w K mg base (L2.CX PySem.Challenge.pw_haltday_k01_a_line_told w) 2 (He.ga K "_law_take") fd__law_take ["_law_source_here", "_law_many"] (spTake) := ok__law_take T F__law_take C__law_mixed
  have C__law_take : Cal PySem.Challenge.pw_haltday_k01_a_line_told w K mg base 2 (He.ga K "_law_take") ["_law_source_here", "_law_many"] (spTake) := ⟨⟨_, O__law_take, F__law_take.bindsN fun _ _ _ _ _ _ us hl => match us, hl with | [_, _], _ => rfl⟩, F__law_take.kp⟩
  have O__law_names : FnOk PySem.Challenge.pw_haltday_k01_a_line_told w K mg base (L2.CX PySem.Challenge.pw_haltday_k01_a_line_told w) 3 (He.ga K "_law_names") fd__law_names ["_law_source_here", "_law_many"] (spDrawNames K) := ok__law_names T F__law_names C__law_take
  have C__law_names : Cal PySem.Challenge.pw_haltday_k01_a_line_told w K mg base 3 (He.ga K "_law_names") ["_law_source_here", "_law_many"] (spDrawNames K) := ⟨⟨_, O__law_names, F__law_names.bindsN fun _ _ _ _ _ _ us hl => match us, hl with | [_, _], _ => rfl⟩, F__law_names.kp⟩
  have O__law_line_of : FnOk PySem.Challenge.pw_haltday_k01_a_line_told w K mg base (L2.CX PySem.Challenge.pw_haltday_k01_a_line_told w) 4 (He.ga K "_law_line_of") fd__law_line_of ["_law_source_here"] (spDrawLine K) := ok__law_line_of T F__law_line_of C__law_take C__law_names
  have C__law_line_of : Cal PySem.Challenge.pw_haltday_k01_a_line_told w K mg base 4 (He.ga K "_law_line_of") ["_law_source_here"] (spDrawLine K) := ⟨⟨_, O__law_line_of, F__law_line_of.bindsN fun _ _ _ _ _ _ us hl => match us, hl with | [_], _ => rfl⟩, F__law_line_of.kp⟩
  have O__law_source : FnOk PySem.Challenge.pw_haltday_k01_a_line_told w K mg base (L2.CX PySem.Challenge.pw_haltday_k01_a_line_told w) 1 (He.ga K "_law_source") fd__law_source ["_law_cell"] (spSource) := ok__law_source T F__law_source 
  have C__law_source : Cal PySem.Challenge.pw_haltday_k01_a_line_told w K mg base 1 (He.ga K "_law_source") ["_law_cell"] (spSource) := ⟨⟨_, O__law_source, F__law_source.bindsN fun _ _ _ _ _ _ us hl => match us, hl with | [_], _ => rfl⟩, F__law_source.kp⟩
  exact ok_law T F_law C__law_right C__law_made C__law_line_of C__law_take C__law_source
end Hd
open PySem PySem.W PySem.Calls PyProof.Rows
set_option maxRecDepth 100000 in
set_option maxHeartbeats 0 in
theorem PySem.Challenge.cw_haltday_k01_a_line_told_holds : PySem.Challenge.rw_haltday_k01_a_line_told.Holds := by
  w_on; o_law
  refine HandSHeadRun.head_any (r := OpenLaw.row PySem.Challenge.rw_haltday_k01_a_line_told) (q := view (OpenLaw.row PySem.Challenge.rw_haltday_k01_a_line_told).prog [31]) (H := Hd.hkL) (ob := Hd.obL) (M := 3000) (loose := Hd.looseL) (d := HandSHeadRun.topDef (OpenLaw.row PySem.Challenge.rw_haltday_k01_a_line_told).prog 31) (kwd := []) Hd.obL_eq
    (by kernel_rfl) (fun s => by kernel_rfl) Hd.runL (by kernel_rfl) (by kernel_rfl) (by kernel_rfl) (by rfl) (by first | assumption | decide +kernel) (by decide +kernel) ⟨rfl, rfl, rfl, rfl, rfl, by decide +kernel⟩ ?hw ?hc
  case hw => w_witness2
  case hc =>
    refine Hd.walk_end (l := PySem.Challenge.rw_haltday_k01_a_line_told) (n := 63) (k := 8) (x := "_law_script") (CX := fun w => L2.CX PySem.Challenge.rw_haltday_k01_a_line_told.prog w) rfl (by decide) (by kernel_rfl) ⟨rfl, by decide, by decide⟩ ?F (fun w H s e s' z => Hd.cx_none z)
    intro w mg fa h Y G hmg0
    obtain ⟨K, KX, c⟩ := Y
    have hmg : mg ("law" : PySem.Str) = some (.ref fa) := by
      have e : (HandSHeadRun.topDef (OpenLaw.row PySem.Challenge.rw_haltday_k01_a_line_told).prog 31).name = ("law" : PySem.Str) := by kernel_rfl
      rw [← e]
      exact hmg0
    obtain ⟨fd, hb, hF⟩ := Hd.all_of (w := w) KX G hmg c
    exact ⟨K, fd, Hd.spLaw K, KX, hb, fun H a ns hl _ hS => ⟨a, ns, rfl, hS, hl, fun _ => rfl⟩, hF⟩
