import PyProof.Rows.All
import PySem.Challenge.RW_makeskept_k17_within_and_refused
import Wide.All
import OpenK.AllK
import Wide.FinOn
import HandS.ForMost
import HandS.ForExc
import HandS.Defaults
import HandS.Wide
import HandS.Walk
import HandS.IsInst
import HandS.TupAny
import HandS.Style
import HandS.RaiseMore
import PyProof.ReprRoads
import HandS.WordsDict
import HandS.TupLen
import HandS.Small
import HandS.DictComp
import HandS.More
import HandS.NoneIn
import HandS.Rev
import HandS.RevRange
import HandS.HeadEnd
import HandS.Head0
import HandS.Head1
import HandS.Head2
import HandS.HeadHook1
import HandS.HeadHook2
import HandS.HeadHook3
import HandS.HeadHook4
import HandS.Dict
import HandS.ExcInit
import HandS.ExcField
import HandS.ExcIs
import HandS.SetFor
import HandS.Text
import HandS.TryOnly
import KE.BitLaws
import HandS.Zip
import HandS.SetKeys
import HandS.Deep
import HandS.TryMany
import HandS.SortInts
import HandS.DictTup
import HandS.SortOrd
import HandS.SortRule
import HandS.Conv
import KE.KDictCopyH
import KE.KDictOf
import HandS.Iter
import HandS.HotCalls
import HandS.ListItems
import HandS.Strs
/-! By an AI agent: a layer of its own over the walk of the abstract heap, the readings of the text, what they keep, the head. -/
set_option Elab.async false
set_option linter.all false
set_option maxRecDepth 100000
set_option maxHeartbeats 4000000
namespace MK
open PySem PySem.Spec PyProof.Rows L2

/-! ### assertions about the abstract heap -/
def isFix : Option HO → Prop
  | some (.tup _) => True
  | some (.frz _ _) => True
  | _ => False
def Keep (H H' : Hp) : Prop := ∀ a, isFix (H a) → H' a = H a
theorem Keep.refl (H : Hp) : Keep H H := fun _ _ => rfl
theorem Keep.trans {H H1 H2 : Hp} (a : Keep H H1) (b : Keep H1 H2) : Keep H H2 := fun x h => (b x (by rw [a x h]; exact h)).trans (a x h)
structure SP where
  P : Hp → List Addr → Prop
  dom : ∀ H A, P H A → ∀ a ∈ A, H a ≠ none ∧ ¬ isFix (H a)
  st : ∀ H H' A, P H A → (∀ a ∈ A, H' a = H a) → Keep H H' → P H' A
def SL : Hp → List SP → List Addr → Prop
  | _, [], A => A = []
  | H, p :: ps, A => ∃ A1 A2, A = A1 ++ A2 ∧ p.P H A1 ∧ SL H ps A2
theorem SL.dom {H : Hp} : ∀ {ps : List SP} {A : List Addr}, SL H ps A → ∀ a ∈ A, H a ≠ none ∧ ¬ isFix (H a)
  | [], A, h, a, ha => by cases h; cases ha
  | p :: ps, A, h, a, ha => by
    obtain ⟨A1, A2, rfl, h1, h2⟩ := h
    rcases List.mem_append.mp ha with z | z
    · exact p.dom _ _ h1 a z
    · exact h2.dom a z
theorem SL.st {H H' : Hp} (k : Keep H H') : ∀ {ps : List SP} {A : List Addr}, SL H ps A → (∀ a ∈ A, H' a = H a) → SL H' ps A
  | [], A, h, _ => h
  | p :: ps, A, h, e => by
    obtain ⟨A1, A2, rfl, h1, h2⟩ := h
    exact ⟨A1, A2, rfl, p.st _ _ _ h1 (fun a ha => e a (List.mem_append_left _ ha)) k, h2.st k fun a ha => e a (List.mem_append_right _ ha)⟩
theorem SL.app {H : Hp} : ∀ {ps qs : List SP} {A : List Addr}, SL H (ps ++ qs) A ↔ ∃ A1 A2, A = A1 ++ A2 ∧ SL H ps A1 ∧ SL H qs A2
  | [], qs, A => ⟨fun h => ⟨[], A, rfl, rfl, h⟩, fun ⟨A1, A2, e, h1, h2⟩ => by cases h1; rw [e]; exact h2⟩
  | p :: ps, qs, A => by
    constructor
    · rintro ⟨A1, A2, rfl, h1, h2⟩
      obtain ⟨B1, B2, rfl, h3, h4⟩ := SL.app.mp h2
      exact ⟨A1 ++ B1, B2, by simp, ⟨A1, B1, rfl, h1, h3⟩, h4⟩
    · rintro ⟨A1, A2, rfl, ⟨B1, B2, rfl, h3, h4⟩, h5⟩
      exact ⟨B1, B2 ++ A2, by simp, h3, SL.app.mpr ⟨B2, A2, rfl, h4, h5⟩⟩
def Star (H : Hp) (ps : List SP) : Prop := ∃ A, A.Nodup ∧ SL H ps A
theorem Star.nil (H : Hp) : Star H [] := ⟨[], List.nodup_nil, rfl⟩

def pt (a : Addr) (o : HO) : SP where
  P := fun H A => A = [a] ∧ H a = some o ∧ ¬ isFix (some o)
  dom := fun H A ⟨e, h, n⟩ b hb => by
    subst e
    have e : b = a := by simpa using hb
    subst e
    rw [h]
    exact ⟨(fun z => by cases z), n⟩
  st := fun H H' A ⟨e, h, n⟩ k _ => ⟨e, by rw [k a (by simp [e]), h], n⟩
def fx (a : Addr) (o : HO) : SP where
  P := fun H A => A = [] ∧ H a = some o ∧ isFix (some o)
  dom := fun H A ⟨e, h, n⟩ b hb => by
    subst e
    cases hb
  st := fun H H' A ⟨e, h, n⟩ _ k => ⟨e, by rw [k a (by rw [h]; exact n), h], n⟩
def pr (φ : Prop) : SP where
  P := fun _ A => A = [] ∧ φ
  dom := fun H A h b hb => by
    rw [h.1] at hb
    cases hb
  st := fun H H' A h _ k => h
def ex {α : Type} (f : α → SP) : SP where
  P := fun H A => ∃ x, (f x).P H A
  dom := fun H A ⟨x, h⟩ => (f x).dom H A h
  st := fun H H' A ⟨x, h⟩ k q => ⟨x, (f x).st H H' A h k q⟩
def sep (ps : List SP) : SP where
  P := fun H A => SL H ps A
  dom := fun H A h => h.dom
  st := fun H H' A h k q => h.st q k

section
variable {H H' : Hp} {ps qs : List SP} {p q r : SP} {a : Addr} {o o' : HO} {φ : Prop}
theorem Star.split : Star H (p :: ps) ↔ ∃ A1 A2, (A1 ++ A2).Nodup ∧ p.P H A1 ∧ SL H ps A2 :=
  ⟨fun ⟨A, n, A1, A2, e, h1, h2⟩ => ⟨A1, A2, e ▸ n, h1, h2⟩, fun ⟨A1, A2, n, h1, h2⟩ => ⟨_, n, A1, A2, rfl, h1, h2⟩⟩
theorem SL.perm (h : ps.Perm qs) : ∀ {A : List Addr}, SL H ps A → ∃ B, A.Perm B ∧ SL H qs B := by
  induction h with
  | nil => exact fun {A} hA => ⟨A, .refl _, hA⟩
  | cons x _ ih =>
    intro A hA
    obtain ⟨A1, A2, rfl, h1, h2⟩ := hA
    obtain ⟨B, pb, hb⟩ := ih h2
    exact ⟨A1 ++ B, pb.append_left A1, A1, B, rfl, h1, hb⟩
  | swap x y l =>
    intro A hA
    obtain ⟨A1, A2, rfl, h1, B1, B2, rfl, h3, h4⟩ := hA
    refine ⟨B1 ++ (A1 ++ B2), ?_, B1, A1 ++ B2, rfl, h3, A1, B2, rfl, h1, h4⟩
    rw [← List.append_assoc, ← List.append_assoc]
    exact List.Perm.append_right B2 List.perm_append_comm
  | trans _ _ ih1 ih2 =>
    intro A hA
    obtain ⟨B, pb, hb⟩ := ih1 hA
    obtain ⟨C, pc, hc⟩ := ih2 hb
    exact ⟨C, pb.trans pc, hc⟩
theorem Star.perm (S : Star H ps) (h : ps.Perm qs) : Star H qs := by
  obtain ⟨A, n, hA⟩ := S
  obtain ⟨B, pb, hb⟩ := SL.perm h hA
  exact ⟨B, pb.nodup_iff.mp n, hb⟩
theorem Star.tail (S : Star H (p :: ps)) : Star H ps := by
  obtain ⟨A1, A2, n, _, h⟩ := Star.split.mp S
  exact ⟨A2, (List.nodup_append.mp n).2.1, h⟩
theorem Star.get (S : Star H (pt a o :: ps)) : H a = some o := by
  obtain ⟨A1, A2, _, ⟨_, h, _⟩, _⟩ := Star.split.mp S
  exact h
theorem Star.getF (S : Star H (fx a o :: ps)) : H a = some o := by
  obtain ⟨A1, A2, _, ⟨_, h, _⟩, _⟩ := Star.split.mp S
  exact h
theorem Star.upd' (S : Star H (pt a o :: ps)) (n' : ¬ isFix (some o')) : Star (upd H a o') (pt a o' :: ps) := by
  obtain ⟨A1, A2, n, ⟨e, h, nf⟩, h2⟩ := Star.split.mp S
  subst e
  refine Star.split.mpr ⟨[a], A2, n, ⟨rfl, upd_same, n'⟩, h2.st (fun b hb => ?_) fun b hb => ?_⟩
  · refine upd_ne fun z => ?_
    subst z
    rw [h] at hb
    exact nf hb
  · refine upd_ne fun z => ?_
    subst z
    exact (List.nodup_cons.mp n).1 hb
theorem Star.new' (S : Star H ps) (hn : H a = none) (n' : ¬ isFix (some o)) : Star (upd H a o) (pt a o :: ps) := by
  obtain ⟨A, n, h⟩ := S
  have na : a ∉ A := fun z => (h.dom a z).1 hn
  refine Star.split.mpr ⟨[a], A, List.nodup_cons.mpr ⟨na, n⟩, ⟨rfl, upd_same, n'⟩, h.st (fun b hb => ?_) fun b hb => ?_⟩
  · refine upd_ne fun z => ?_
    subst z
    rw [hn] at hb
    exact hb
  · exact upd_ne fun z => na (z ▸ hb)
theorem Star.newF (S : Star H ps) (hn : H a = none) (n' : isFix (some o)) : Star (upd H a o) (fx a o :: ps) := by
  obtain ⟨A, n, h⟩ := S
  have na : a ∉ A := fun z => (h.dom a z).1 hn
  refine Star.split.mpr ⟨[], A, n, ⟨rfl, upd_same, n'⟩, h.st (fun b hb => ?_) fun b hb => ?_⟩
  · refine upd_ne fun z => ?_
    subst z
    rw [hn] at hb
    exact hb
  · exact upd_ne fun z => na (z ▸ hb)
/-- an object that no one holds any more is forgotten -/
theorem Star.del (S : Star H (pt a o :: ps)) (e : ∀ b, b ≠ a → H' b = H b) : Star H' ps := by
  obtain ⟨A1, A2, n, ⟨e1, h, nf⟩, h2⟩ := Star.split.mp S
  subst e1
  refine ⟨A2, (List.nodup_cons.mp n).2, h2.st (fun b hb => e b fun z => ?_) fun b hb => e b fun z => ?_⟩
  · subst z
    rw [h] at hb
    exact nf hb
  · subst z
    exact (List.nodup_cons.mp n).1 hb
theorem Star.updL {xs ys : List V} (S : Star H (pt a (.lst xs) :: ps)) : Star (upd H a (.lst ys)) (pt a (.lst ys) :: ps) := S.upd' id
theorem Star.newL {ys : List V} (S : Star H ps) (hn : H a = none) : Star (upd H a (.lst ys)) (pt a (.lst ys) :: ps) := S.new' hn id
theorem Star.newT {ys : List V} (S : Star H ps) (hn : H a = none) : Star (upd H a (.tup ys)) (fx a (.tup ys) :: ps) := S.newF hn True.intro
theorem Star.mono1 (S : Star H (p :: ps)) (h : ∀ A, p.P H A → q.P H A) : Star H (q :: ps) := by
  obtain ⟨A1, A2, n, h1, h2⟩ := Star.split.mp S
  exact Star.split.mpr ⟨A1, A2, n, h A1 h1, h2⟩
theorem Star.ex_iff {α : Type} {f : α → SP} : Star H (ex f :: ps) ↔ ∃ x, Star H (f x :: ps) :=
  ⟨fun S => by
    obtain ⟨A1, A2, n, ⟨x, h1⟩, h2⟩ := Star.split.mp S
    exact ⟨x, Star.split.mpr ⟨A1, A2, n, h1, h2⟩⟩, fun ⟨x, S⟩ => S.mono1 fun _ h => ⟨x, h⟩⟩
theorem Star.pr_iff : Star H (pr φ :: ps) ↔ φ ∧ Star H ps :=
  ⟨fun S => by
    obtain ⟨A1, A2, n, ⟨_, h1⟩, h2⟩ := Star.split.mp S
    exact ⟨h1, S.tail⟩, fun ⟨h, A, n, hA⟩ => Star.split.mpr ⟨[], A, n, ⟨rfl, h⟩, hA⟩⟩
theorem Star.sep_iff : Star H (sep qs :: ps) ↔ Star H (qs ++ ps) :=
  ⟨fun ⟨A, n, A1, A2, e, h1, h2⟩ => ⟨A, n, SL.app.mpr ⟨A1, A2, e, h1, h2⟩⟩, fun ⟨A, n, h⟩ => by
    obtain ⟨A1, A2, e, h1, h2⟩ := SL.app.mp h
    exact ⟨A, n, A1, A2, e, h1, h2⟩⟩
theorem Star.s1 (S : Star H (p :: q :: ps)) : Star H (q :: p :: ps) := S.perm (.swap _ _ _)
end
section
variable {H : Hp} {ps : List SP} {a b c d e f g h i j : SP}
theorem Star.p1 (S : Star H (a :: b :: ps)) : Star H (b :: a :: ps) := S.perm (.swap _ _ _)
theorem Star.p2 (S : Star H (a :: b :: c :: ps)) : Star H (c :: a :: b :: ps) := S.perm (.trans (.cons _ (.swap _ _ _)) (.swap _ _ _))
theorem Star.up {n : List SP} (S : Star H (n ++ a :: ps)) : Star H (a :: (n ++ ps)) := S.perm List.perm_middle
theorem Star.p3 (S : Star H (a :: b :: c :: d :: ps)) : Star H (d :: a :: b :: c :: ps) := Star.up (n := [a, b, c]) S
theorem Star.p4 (S : Star H (a :: b :: c :: d :: e :: ps)) : Star H (e :: a :: b :: c :: d :: ps) := Star.up (n := [a, b, c, d]) S
theorem Star.p5 (S : Star H (a :: b :: c :: d :: e :: f :: ps)) : Star H (f :: a :: b :: c :: d :: e :: ps) := Star.up (n := [a, b, c, d, e]) S
theorem Star.p6 (S : Star H (a :: b :: c :: d :: e :: f :: g :: ps)) : Star H (g :: a :: b :: c :: d :: e :: f :: ps) := Star.up (n := [a, b, c, d, e, f]) S
theorem Star.p7 (S : Star H (a :: b :: c :: d :: e :: f :: g :: h :: ps)) : Star H (h :: a :: b :: c :: d :: e :: f :: g :: ps) := Star.up (n := [a, b, c, d, e, f, g]) S
theorem Star.p8 (S : Star H (a :: b :: c :: d :: e :: f :: g :: h :: i :: ps)) : Star H (i :: a :: b :: c :: d :: e :: f :: g :: h :: ps) := Star.up (n := [a, b, c, d, e, f, g, h]) S
theorem Star.p9 (S : Star H (a :: b :: c :: d :: e :: f :: g :: h :: i :: j :: ps)) : Star H (j :: a :: b :: c :: d :: e :: f :: g :: h :: i :: ps) := Star.up (n := [a, b, c, d, e, f, g, h, i]) S
end
end MK

namespace MK
open PySem PySem.Spec PyProof.Rows L2

/-! ### promises of defs that are called where no repr runs -/
structure FnG (P : Program) (w : World) (K : PySem.W.Frag) (mg : Str → Option Value) (base : Heap) (k : Nat) (f : Addr) (fd : FuncData) (ps : List Str) (sp : Sp) : Prop where
  len : ∀ vs H Q E, sp vs H Q E → vs.length = ps.length
  run : ∀ (A : Around) (outer : List Env) (s : Shared) (H : Hp) (args : Args) (us : List Value) (vs : List V) (Q : VK) (E : XK),
    Room k A → A.guards = some [] → Env0 P w K mg base A outer s H → BindsTo s fd args (ps.zip us) → Vals vs us → sp vs H Q E →
      codeAny (model P w) A (.call (.ref f) args) (CR (L2.CX P w) outer P w H s Q E) s
section
variable {P : Program} {w : World} {K : PySem.W.Frag} {mg : Str → Option Value} {base : Heap} {k : Nat} {f : Addr} {fd : FuncData} {ps : List Str} {sp sp' : Sp}
theorem FnG.mono {j : Nat} (F : FnG P w K mg base j f fd ps sp) (h : j ≤ k) : FnG P w K mg base k f fd ps sp :=
  ⟨F.len, fun A o s H a us vs Q E hr hg => F.run A o s H a us vs Q E (hr.mono h) hg⟩
theorem FnG.imp (F : FnG P w K mg base k f fd ps sp) (h : ∀ vs H Q E, sp' vs H Q E → sp vs H Q E) : FnG P w K mg base k f fd ps sp' :=
  ⟨fun vs H Q E q => F.len vs H Q E (h _ _ _ _ q), fun A o s H a us vs Q E hr hg he hb hv hs => F.run A o s H a us vs Q E hr hg he hb hv (h _ _ _ _ hs)⟩
theorem FnG.of {x qual : Str} {params : Arguments} {body : List Stmt} {scope : Scope} {N : List Str} (F : FunD K x qual params body scope [] [] f fd) (S : FnScope N ps scope) (len : ∀ vs H Q E, sp vs H Q E → vs.length = ps.length)
    (hbody : ∀ (cdv : Value) (A : Around) (outer : List Env) (s : Shared) (H : Hp) (vs : List V) (Q : VK) (E : XK),
      Room k (A.deeper (envOfC qual scope s.heap.objs.size f cdv)) → A.guards = some [] → sp vs H Q E →
      ∃ t, PSs (cxOf (L2.CX P w) P w K mg base N qual scope f cdv A outer s H E) body t ∧ t { nx := fun _ H' => Q .non H', rt := Q } (start N vs) H) :
    FnG P w K mg base (k + 1) f fd ps sp := by
  obtain ⟨oc, od, dV, kV, doc, pm, an, cdv, ct, osl, e, lk, hcd, _, _⟩ := F.ex
  subst e
  constructor
  · exact len
  intro A outer s H args us vs Q E hr hg e0 hb r hsp
  have hl := len _ _ _ _ hsp
  have kin : K.In s.heap := e0.mod.kin.keeps (fun b o z => (e0.bs b o z).1)
  have kinds : ∀ y ∈ ps.zip us, scope.names.lookup y.1 = some .local ∨
      (scope.names.lookup y.1 = some .cell ∧ ((cellsFrom (s.heap.objs.size + 1) scope.names []).lookup y.1).isSome = true) := by
    intro y hy
    have hm : y.1 ∈ ps := (List.of_mem_zip (show (y.1, y.2) ∈ ps.zip us from hy)).1
    rcases S.par y.1 hm with q | q
    · exact Or.inl q
    · exact Or.inr ⟨q, PySem.W.cellsFrom_some _ _ _ (Or.inl q)⟩
  refine codeAny_call_function hr.depth (kin _ _ lk) rfl S.co S.gen rfl (PySem.W.codeRec_of kin hcd) (hb _ _ _ _ ?_)
  refine wpAny_newFunctionEnv_cells S.kind kinds ?_
  intro env he s1 x
  subst he
  have lim : s.heap.NoLimit := e0.mod.nolimit.keeps (fun b o z => (e0.bs b o z).1)
  refine ⟨lim.keeps x.toInCall.keep, codeAny_func ?_⟩
  obtain ⟨t, ht, hq⟩ := hbody cdv A outer s H vs Q E (hr.deeper _) hg hsp
  refine wpAny_mono (ht.run [] s1 (start N vs) H _ (inv_start S hr.hd e0 hl r x) hq) ?_ (fun _ _ z => z)
  intro fl s' hs
  cases fl with
  | next =>
    obtain ⟨σ', H', J, q⟩ := hs
    exact ⟨V.non, H', J.os, J.bare, J.base, J.hok, rfl, q⟩
  | ret u =>
    obtain ⟨v, σ', H', J, rv, q⟩ := hs
    exact ⟨v, H', J.os, J.bare, J.base, J.hok, rv, q⟩
  | brk =>
    obtain ⟨_, _, _, q⟩ := hs
    exact q.elim
  | cont =>
    obtain ⟨_, _, _, q⟩ := hs
    exact q.elim
end

/-! ### calls -/
section
variable {X : Cx} {k j : Nat} {f C : Addr} {fd : FuncData} {ps : List Str} {sp : Sp} {W : WX} {x m : Str} {p pos apos : Pos} {e o : Expr} {es : List Expr} {ta : TE} {t : TA}
/-- what is asked of a callee that runs within X -/
structure Cal (X : Cx) (f : Addr) (sp : Sp) : Prop where
  ex : ∃ (k : Nat) (fd : FuncData) (ps : List Str), Room k X.A ∧ X.A.guards = some [] ∧ Binds X.K fd ps [] ∧ FnG X.prog X.w X.K X.mg X.base k f fd ps sp
theorem Cal.run (c : Cal X f sp) (tk : Takes X W) {pins : List (Addr × Obj)} {σ : L2.St} {H : Hp} {s : Shared} {Q : VK} {us : List Value} {vs : List V} (I : Inv X pins σ H s) (r : Vals vs us)
    (h : sp vs H Q (fun cls d H' => W cls d σ H')) : wpAny (model X.prog X.w) X.A (call (.ref f) us) (EP X pins σ Q) X.xe s := by
  obtain ⟨k, fd, ps, hr, hg, hb, F⟩ := c.ex
  have hl : us.length = ps.length := by rw [← r.length]; exact F.len _ _ _ _ h
  have b := hb s us I.kIn (by rw [List.append_nil]; exact hl)
  rw [List.append_nil] at b
  refine wpAny_call (codeAny_mono (F.run X.A X.stack s H ⟨us, []⟩ us vs Q _ hr hg I.env0 b r h) ?_)
  intro r s' hq
  rcases r with e | (u | _ | _ | _)
  · exact tk e s' (XE.of_call I (fun _ _ _ z => z) hq)
  · exact hq.elim
  · exact hq.elim
  · exact hq.elim
  · exact I.after hq
/-- f(e, ..): what its promise asks -/
def eCall (sp : Sp) (W : WX) (t : TA) : TE := fun σ H Q => t σ H fun vs H1 => sp vs H1 Q (fun cls d H2 => W cls d σ H2)
theorem pe_cg (c : Cal X f sp) (hm : X.mg x = some (.ref f)) (hk : PySem.W.keepIn X.K (.ref f) = true) (gl : Gl X x) (tk : Takes X W) (ha : PA X (e :: es) t)
    (hdb : (x == ("__debug__" : Str)) = false := by decide +kernel) (he : starEach (e :: es) X.env = (false, eval e X.env) :: starEach es X.env := by rfl) (hpl : (backTo pos (starEach es X.env)).any (·.1) = false := by rfl) :
    PE X (.Call (.Name x p) (e :: es) [] pos) (eCall sp W t) := by
  constructor
  intro pins s σ H Q I h
  refine wpAny_Call_Name_kw (ld_glob I gl hm ?_ hdb)
  refine PySem.W.callWith_K (h₀ := X.base) I.ok.mod.kin hk (thn (ha.run pos pins s σ H _ I h) ?_) he hpl
  rintro us s1 ⟨vs, H1, I1, r, q⟩
  exact ⟨I1.kIn, c.run tk I1 r q⟩
theorem pe_cg0 (c : Cal X f sp) (hm : X.mg x = some (.ref f)) (hk : PySem.W.keepIn X.K (.ref f) = true) (gl : Gl X x) (tk : Takes X W)
    (hdb : (x == ("__debug__" : Str)) = false := by decide +kernel) : PE X (.Call (.Name x p) [] [] pos) (eCall sp W tNil) := by
  constructor
  intro pins s σ H Q I h
  refine wpAny_Call_Name_kw (ld_glob I gl hm ?_ hdb)
  exact PySem.W.callWith_K0 I.kIn hk (c.run (us := []) tk I .nil h)
/-- x is an instance of the class at C, m no attribute of its own -/
def isIns (C : Addr) (m : Str) (x : V) (H : Hp) : Prop := ∃ a dx fs, x = .ref a ∧ H a = some (.ins C dx fs) ∧ fs.lookup m = none
/-! ### making an instance -/
/-- a callee within the making of an instance -/
structure CalM (X : Cx) (f : Addr) (sp : Sp) : Prop where
  ex : ∃ (k : Nat) (fd : FuncData) (ps : List Str), Room (k + 1) X.A ∧ X.A.guards = some [] ∧ Binds X.K fd ps [] ∧ FnG X.prog X.w X.K X.mg X.base k f fd ps sp
theorem make_guards {A : Around} {us : List Value} : (A.under (.builtin "type.__call__" ⟨.ref C :: us, []⟩)).guards = A.guards := by
  first | rfl | simp [Around.under, Code.guards, Code.isGuard, guardIds, pushGuards]
/-- C(..): a new instance, then __init__ -/
def eMake (C : Addr) (sp : Sp) (W : WX) (t : TA) : TE := fun σ H Q => t σ H fun vs H1 => ∀ x dx, H1 x = none → H1 dx = none → dx ≠ x →
  sp (.ref x :: vs) (upd (upd H1 dx (.own x)) x (.ins C dx [])) (fun v H2 => v = .non ∧ Q (.ref x) H2) (fun cls d H2 => W cls d σ H2)
theorem CalM.run (M : Mk X.K C f) (c : CalM X f sp) (tk : Takes X W) {pins : List (Addr × Obj)} {σ : L2.St} {H : Hp} {s : Shared} {Q : VK} {us : List Value} {vs : List V} (I : Inv X pins σ H s) (r : Vals vs us)
    (h : ∀ x dx, H x = none → H dx = none → dx ≠ x → sp (.ref x :: vs) (upd (upd H dx (.own x)) x (.ins C dx [])) (fun v H2 => v = .non ∧ Q (.ref x) H2) (fun cls d H2 => W cls d σ H2)) :
    wpAny (model X.prog X.w) X.A (call (.ref C) us) (EP X pins σ Q) X.xe s := by
  obtain ⟨k, fd, ps, hr, hg, hb, F⟩ := c.ex
  have n0 : H s.heap.objs.size = none := I.hok.fresh (Nat.le_refl _)
  have n1 : H (s.heap.objs.size + 1) = none := I.hok.fresh (Nat.le_succ _)
  have hq := h _ _ n1 n0 (Nat.ne_of_lt (Nat.lt_succ_self _))
  have J := Inv.made (C := C) I
  have r2 : Vals (V.ref (s.heap.objs.size + 1) :: vs) (Value.ref (s.heap.objs.size + 1) :: us) := .cons rfl r
  have hl : (Value.ref (s.heap.objs.size + 1) :: us).length = ps.length := by
    rw [← r2.length]
    exact F.len _ _ _ _ hq
  have b := hb _ (Value.ref (s.heap.objs.size + 1) :: us) J.kIn (by rw [List.append_nil]; exact hl)
  rw [List.append_nil] at b
  have run := F.run (X.A.under (.builtin "type.__call__" ⟨.ref C :: us, []⟩)) X.stack _ _ ⟨Value.ref (s.heap.objs.size + 1) :: us, []⟩ (Value.ref (s.heap.objs.size + 1) :: us) _ _ _
    (hr.make C us []) (by rw [make_guards]; exact hg) (J.env0.make C us []) b r2 hq
  refine wpAny_call (make_map (f := f) I.kIn M.makes M.init (beq_iff_eq.mp M.fn) (codeAny_mono run ?_))
  intro r s' z
  rcases r with e | (u | _ | _ | _)
  · exact tk e s' (XE.of_call J (fun _ _ _ y => y) z)
  · exact z.elim
  · exact z.elim
  · exact z.elim
  · obtain ⟨v, H', I3, rv, ev, q3⟩ := J.after z
    subst ev
    exact ⟨rv, V.ref (s.heap.objs.size + 1), H', I3, rfl, q3⟩
theorem pe_mk0 (M : Mk X.K C f) (c : CalM X f sp) (hm : X.mg x = some (.ref C)) (gl : Gl X x) (tk : Takes X W)
    (hdb : (x == ("__debug__" : Str)) = false := by decide +kernel) : PE X (.Call (.Name x p) [] [] pos) (eMake C sp W tNil) := by
  constructor
  intro pins s σ H Q I h
  refine wpAny_Call_Name_kw (ld_glob I gl hm ?_ hdb)
  exact PySem.W.callWith_K0 I.kIn M.kp (CalM.run (us := []) M c tk I .nil h)
end
end MK

namespace MK
open PySem PySem.Spec PyProof.Rows L2

/-! ### weakening a reading -/
section
variable {X : Cx} {e : Expr} {es : List Expr} {st : Stmt} {sts : List Stmt}
theorem pe_imp {t t' : TE} (h : PE X e t) (i : ∀ σ H Q, t' σ H Q → t σ H Q) : PE X e t' := ⟨fun pins s σ H Q I q => h.run pins s σ H Q I (i σ H Q q)⟩
end

/-! ### the slots -/
def look : L2.St → Nat → Option V
  | [], _ => none
  | x :: _, 0 => x
  | _ :: r, n + 1 => look r n
def sput : L2.St → Nat → V → L2.St
  | [], _, _ => []
  | _ :: r, 0, v => some v :: r
  | x :: r, n + 1, v => x :: sput r n v
theorem look_get : ∀ {σ : L2.St} {i : Nat} {v : V}, look σ i = some v → σ[i]? = some (some v)
  | [], _, _, h => by cases h
  | x :: _, 0, v, h => by
    have e : x = some v := h
    simp [e]
  | _ :: r, n + 1, v, h => by
    have e : look r n = some v := h
    simpa using look_get e
theorem sput_eq : ∀ (σ : L2.St) (i : Nat) (v : V), sput σ i v = σ.set i (some v)
  | [], _, _ => rfl
  | _ :: _, 0, _ => rfl
  | x :: r, n + 1, v => by
    show x :: sput r n v = x :: r.set n (some v)
    rw [sput_eq r n v]

/-! ### readings -/
def eV (i : Nat) : TE := fun σ H Q => match look σ i with
  | some v => Q v H
  | none => False
def eC (v : V) : TE := fun _ H Q => Q v H
/-- two values, an operation on them -/
def eB (r : R2) (ta tb : TE) : TE := fun σ H Q => ta σ H fun x H1 => tb σ H1 fun y H2 => r x y H2 Q
def eU (r : V → Hp → VK → Prop) (ta : TE) : TE := fun σ H Q => ta σ H fun x H1 => r x H1 Q
def eChain (r r' : R2) (ta tb tc : TE) : TE := fun σ H Q => ta σ H fun x H1 => tb σ H1 fun y H2 => r x y H2 fun z H3 => match z with
  | .bl k => cond k (tc σ H3 fun v H4 => r' y v H4 Q) (Q (.bl false) H3)
  | _ => False
/-- a value's truth, of a bool -/
def isB (x : V) (H : Hp) (Q : Bool → Hp → Prop) : Prop := match x with
  | .bl b => Q b H
  | _ => False
def kT (te : TE) : TT := fun σ H Q => te σ H fun x H1 => isB x H1 Q
def kAnd (t u : TT) : TT := fun σ H Q => t σ H fun c H1 => cond c (u σ H1 Q) (Q false H1)
def kOr (t u : TT) : TT := fun σ H Q => t σ H fun c H1 => cond c (Q true H1) (u σ H1 Q)
def kNot (t : TT) : TT := fun σ H Q => t σ H fun c H1 => Q (!c) H1
/-- the same as values -/
def eAnd (ta tb : TE) : TE := fun σ H Q => ta σ H fun x H1 => isB x H1 fun c H2 => cond c (tb σ H2 Q) (Q (.bl false) H2)
def eOr (ta tb : TE) : TE := fun σ H Q => ta σ H fun x H1 => isB x H1 fun c H2 => cond c (Q (.bl true) H2) (tb σ H2 Q)
def eNot (ta : TE) : TE := fun σ H Q => ta σ H fun x H1 => isB x H1 fun c H2 => Q (.bl (!c)) H2
/-- arguments -/
def aN : TA := fun _ H Q => Q [] H
def aC (te : TE) (t : TA) : TA := fun σ H Q => te σ H fun x H1 => t σ H1 fun xs H2 => Q (x :: xs) H2
/-- a call by values -/
def eF (r : List V → Hp → VK → Prop) (t : TA) : TE := fun σ H Q => t σ H fun vs H1 => r vs H1 Q
def szOk (n : Nat) : Prop := n ≤ 16777216
theorem szOk.w {n : Nat} (h : szOk n) : n ≤ sizeLine := by rw [sizeLine_eq]; exact h
/-- a new object, its address the continuation's -/
@[irreducible] def nwO (o : HO) (H : Hp) (Q : VK) : Prop := ∀ p, H p = none → Q (.ref p) (upd H p o)
theorem nwO_i {o : HO} {H : Hp} {Q : VK} (h : ∀ p, H p = none → Q (.ref p) (upd H p o)) : nwO o H Q := by unfold nwO; exact h
theorem nwO_e {o : HO} {H : Hp} {Q : VK} (h : nwO o H Q) : ∀ p, H p = none → Q (.ref p) (upd H p o) := by unfold nwO at h; exact h
def eL (t : TA) : TE := fun σ H Q => t σ H fun xs H1 => szOk xs.length ∧ nwO (.lst xs) H1 Q
def eT (t : TA) : TE := fun σ H Q => t σ H fun xs H1 => szOk xs.length ∧ nwO (.tup xs) H1 Q
theorem eL_eq (t : TA) : eL t = fun σ H Q => t σ H fun xs H1 => szOk xs.length ∧ ∀ p, H1 p = none → Q (.ref p) (upd H1 p (.lst xs)) := by
  unfold eL nwO
  rfl
theorem eT_eq (t : TA) : eT t = fun σ H Q => t σ H fun xs H1 => szOk xs.length ∧ ∀ p, H1 p = none → Q (.ref p) (upd H1 p (.tup xs)) := by
  unfold eT nwO
  rfl
/-- statements -/
def sSet (i : Nat) (te : TE) : TS := fun D σ H => te σ H fun v H1 => D.nx (sput σ i v) H1
def sIf (c : TT) (t u : TS) : TS := fun D σ H => c σ H fun b H1 => cond b (t D σ H1) (u D σ H1)
def sDrop (te : TE) : TS := fun D σ H => te σ H fun _ H1 => D.nx σ H1
def sRet (te : TE) : TS := fun D σ H => te σ H D.rt

section
variable {X : Cx} {a b c e : Expr} {es : List Expr} {ta tb tc te : TE} {t : TA} {tA tB : TT} {pos : Pos} {rest : List Expr}
theorem mv (i : Nat) {x : Str} (hN : X.N[i]? = some x := by rfl) (hv : Vis X.env.scope x := by first | exact Or.inl rfl | exact Or.inr (Or.inl rfl) | exact Or.inr (Or.inr rfl)) (hd : (x == ("__debug__" : Str)) = false := by decide +kernel)
    (hcd : (x == ("__classdict__" : Str)) = false := by decide +kernel) : PE X (.Name x pos) (eV i) := pe_imp (pe_var hN hv hd hcd) fun σ H Q q => by
  unfold eV at q
  cases h : look σ i with
  | none => rw [h] at q; exact q.elim
  | some v => rw [h] at q; exact ⟨v, look_get h, q⟩
theorem mc {v : V} (h : PE X e (tC v)) : PE X e (eC v) := h
theorem mi {i j} : PE X (.Constant (.int i) j pos) (eC (.int i)) := pe_int
theorem mb {i j} : PE X (.Constant (.bool i) j pos) (eC (.bl i)) := pe_bl
theorem mn {j} : PE X (.Constant .none j pos) (eC .non) := pe_non
theorem ms {x j} : PE X (.Constant (.str x) j pos) (eC (.str x)) := pe_str
/-- a module's constant -/
theorem mg_ {x : Str} {v : V} (hg : Gl X x) (h : ∃ u, X.mg x = some u ∧ RelV v u) (hd : (x == ("__debug__" : Str)) = false := by decide +kernel) : PE X (.Name x pos) (eC v) := by
  obtain ⟨u, h1, h2⟩ := h
  exact pe_glob hg h1 h2 hd
theorem mbin {op : Operator} {r : R2} (ho : OpR X (binaryOp op) r) (ha : PE X a ta) (hb : PE X b tb) : PE X (.BinOp a op b pos) (eB r ta tb) := pe_op ho ha hb
theorem mun {op : UnaryOp} {r : V → Hp → VK → Prop} (ho : UnR X (unaryOp op) r) (ha : PE X a ta) : PE X (.UnaryOp op a pos) (eU r ta) := pe_un ho ha
theorem mcmp {op : CmpOp} {r : R2} (ho : OpR X (compareOp op) r) (ha : PE X a ta) (hb : PE X b tb) (hm : behindInMarks op b = false := by first | exact nomark _ (by decide) (by decide) | rfl) : PE X (.Compare a [op] [b] pos) (eB r ta tb) := pe_cmpR ho ha hb hm
theorem isB_iff {x : V} {H : Hp} {Q : Bool → Hp → Prop} (h : isB x H Q) : ∃ k, x = .bl k ∧ Q k H := by
  cases x with
  | bl k => exact ⟨k, rfl, h⟩
  | _ => exact h.elim
/-- the value of a test -/
theorem truthB {M : Model} {A : Around} {E : Value → Shared → Prop} {x : V} {v : Value} {H : Hp} {s : Shared} {pins : List (Addr × Obj)} {σ : L2.St} {Q : Bool → Hp → Prop} (I : Inv X pins σ H s) (r : RelV x v) (q : isB x H Q) :
    wpAny M A (truthy v) (TP X pins σ Q) E s := by
  obtain ⟨k, e, q⟩ := isB_iff q
  subst e
  cases r
  exact wpAny_truthy_bool ⟨H, I, q⟩
theorem mtc {op : CmpOp} {r : R2} (ho : OpR X (compareOp op) r) (ha : PE X a ta) (hb : PE X b tb) (hm : behindInMarks op b = false := by first | exact nomark _ (by decide) (by decide) | rfl) :
    PT X (.Compare a [op] [b] pos) (kT (eB r ta tb)) := by
  constructor
  intro pins s σ H Q I h
  refine wpAny_isTrue_Compare1 (thn (ha.run pins s σ H _ I h) ?_) hm
  rintro v s1 ⟨x, H1, I1, r1, q1⟩
  refine thn (hb.run pins s1 σ H1 _ I1 q1) ?_
  rintro u s2 ⟨y, H2, I2, r2, q2⟩
  refine thn (ho pins s2 σ H2 x y v u _ I2 r1 r2 q2) ?_
  rintro z s3 ⟨zv, H3, I3, r3, q3⟩
  exact truthB I3 r3 q3
theorem mtv {t : TE} (h : PE X e t) (he : ∀ whole, isTrue e X.env whole = (do let v ← whole; standAt e.pos; holding [v] (truthy v)) := by intro _; rfl) : PT X e (kT t) := by
  constructor
  intro pins s σ H Q I hw
  refine isTrue_plain (thn (h.run pins s σ H _ I hw) ?_) (he _)
  rintro v s1 ⟨x, H1, I1, r1, q1⟩
  exact truthB I1 r1 q1
theorem mch {op op' : CmpOp} {r r' : R2} (ho : OpR X (compareOp op) r) (ho' : OpR X (compareOp op') r') (ha : PE X a ta) (hb : PE X b tb) (hc : PE X c tc)
    (hm : lastMarks [op, op'] [b, c] = false := by with_unfolding_all rfl) : PE X (.Compare a [op, op'] [b, c] pos) (eChain r r' ta tb tc) := by
  constructor
  intro pins s σ H Q I h
  refine Compare_chain (thn (ha.run pins s σ H _ I h) ?_) hm
  rintro v s1 ⟨x, H1, I1, r1, q1⟩
  refine chain_link (thn (hb.run pins s1 σ H1 _ I1 q1) ?_)
  rintro u s2 ⟨y, H2, I2, r2, q2⟩
  refine thn (ho pins s2 σ H2 x y v u _ I2 r1 r2 q2) ?_
  rintro d s3 ⟨z, H3, I3, r3, q3⟩
  cases z with
  | bl k =>
    cases r3
    refine wpAny_truthy_bool ?_
    cases k with
    | false => exact ite_ff ⟨.bl false, H3, I3, rfl, q3⟩
    | true =>
      refine ite_tt (chain_last (thn (hc.run pins s3 σ H3 _ I3 q3) ?_))
      rintro w4 s4 ⟨z4, H4, I4, r4, q4⟩
      exact ho' pins s4 σ H4 y z4 u w4 Q I4 r2 r4 q4
  | _ => exact q3.elim
/-! ### and, or, not -/
theorem ma1 (ha : PT X a tA) : PW X (.BoolOp .And [a] pos) tA := pw_and1 ha
theorem mo1 (ha : PT X a tA) : PW X (.BoolOp .Or [a] pos) tA := pw_or1 ha
theorem ma2 (ha : PT X a tA) (hb : PW X (.BoolOp .And (b :: rest) pos) tB) : PW X (.BoolOp .And (a :: b :: rest) pos) (kAnd tA tB) := by
  constructor
  intro wh pins s σ H Q I h
  refine isTrue_and (thn (ha.run pins s σ H _ I h) ?_)
  rintro k s1 ⟨H1, I1, q1⟩
  cases k with
  | false => exact ⟨H1, I1, q1⟩
  | true => exact hb.run wh pins s1 σ H1 Q I1 q1
theorem mo2 (ha : PT X a tA) (hb : PW X (.BoolOp .Or (b :: rest) pos) tB) : PW X (.BoolOp .Or (a :: b :: rest) pos) (kOr tA tB) := by
  constructor
  intro wh pins s σ H Q I h
  refine isTrue_or (thn (ha.run pins s σ H _ I h) ?_)
  rintro k s1 ⟨H1, I1, q1⟩
  cases k with
  | false => exact hb.run wh pins s1 σ H1 Q I1 q1
  | true => exact ⟨H1, I1, q1⟩
theorem mtn (ha : PT X a tA) : PT X (.UnaryOp .Not a pos) (kNot tA) := pt_not ha
theorem me1 {op} {t : TE} (h : PE X a t) : PE X (.BoolOp op [a] pos) t := pe_one h
theorem mea (ha : PE X a ta) (hb : PE X (.BoolOp .And (b :: rest) pos) tb) : PE X (.BoolOp .And (a :: b :: rest) pos) (eAnd ta tb) := by
  constructor
  intro pins s σ H Q I h
  refine BoolOp_and (thn (ha.run pins s σ H _ I h) ?_)
  rintro v s1 ⟨x, H1, I1, r1, q1⟩
  obtain ⟨k, e, q1⟩ := isB_iff q1
  subst e
  cases r1
  refine wpAny_truthy_bool ?_
  cases k with
  | false => exact ⟨.bl false, H1, I1, rfl, q1⟩
  | true => exact hb.run pins s1 σ H1 Q I1 q1
theorem meo (ha : PE X a ta) (hb : PE X (.BoolOp .Or (b :: rest) pos) tb) : PE X (.BoolOp .Or (a :: b :: rest) pos) (eOr ta tb) := by
  constructor
  intro pins s σ H Q I h
  refine BoolOp_or (thn (ha.run pins s σ H _ I h) ?_)
  rintro v s1 ⟨x, H1, I1, r1, q1⟩
  obtain ⟨k, e, q1⟩ := isB_iff q1
  subst e
  cases r1
  refine wpAny_truthy_bool ?_
  cases k with
  | false => exact hb.run pins s1 σ H1 Q I1 q1
  | true => exact ⟨.bl true, H1, I1, rfl, q1⟩
theorem men (ha : PE X a ta) : PE X (.UnaryOp .Not a pos) (eNot ta) := by
  constructor
  intro pins s σ H Q I h
  refine UnaryOp_ (thn (ha.run pins s σ H _ I h) ?_)
  rintro v s1 ⟨x, H1, I1, r1, q1⟩
  obtain ⟨k, e, q1⟩ := isB_iff q1
  subst e
  cases r1
  exact not_of (wpAny_truthy_bool ⟨.bl (!k), H1, I1, rfl, q1⟩)
/-! ### argument lists, displays, calls of built-ins -/
theorem man : PA X [] aN := pa_nil
theorem mac (ha : PE X e te) (hr : PA X es t) (hs : starEach (e :: es) X.env = (false, eval e X.env) :: starEach es X.env := by rfl) : PA X (e :: es) (aC te t) := pa_cons ha hr hs
theorem mlst (h : PA X es t) : PE X (.List es pos) (eL t) := by
  rw [eL_eq]
  exact pe_lst h
theorem mtup {x1} (h : PA X es t) : PE X (.Tuple es x1 pos) (eT t) := by
  rw [eT_eq]
  exact pe_tup h
theorem mcb {x : Str} {id : String} {r : List V → Hp → VK → Prop} {p : Pos} (hc : CallR X (.builtin id) r) (hg : Gl X x) (hm : X.mg x = none) (hv : bootBuiltins x = some (.builtin id)) (ha : PA X (e :: es) t)
    (hn : x ≠ "__name__" := by decide +kernel) (hdb : (x == ("__debug__" : Str)) = false := by decide +kernel)
    (he : starEach (e :: es) X.env = (false, eval e X.env) :: starEach es X.env := by rfl) (hpl : (backTo pos (starEach es X.env)).any (·.1) = false := by rfl) : PE X (.Call (.Name x p) (e :: es) [] pos) (eF r t) := pe_callB hc hg hm hv ha hn hdb he hpl
theorem mct {x : Str} {T : String} {r : List V → Hp → VK → Prop} {p : Pos} (hc : CallR X (.type T) r) (hg : Gl X x) (hm : X.mg x = none) (hv : bootBuiltins x = some (.type T)) (ha : PA X (e :: es) t)
    (hn : x ≠ "__name__" := by decide +kernel) (hdb : (x == ("__debug__" : Str)) = false := by decide +kernel)
    (he : starEach (e :: es) X.env = (false, eval e X.env) :: starEach es X.env := by rfl) (hpl : (backTo pos (starEach es X.env)).any (·.1) = false := by rfl) : PE X (.Call (.Name x p) (e :: es) [] pos) (eF r t) := pe_callTy hc hg hm hv ha hn hdb he hpl

/-! ### statements -/
theorem mset {i : Nat} {x : Str} {pos' : Pos} (hN : X.N.Nodup) (hi : X.N[i]? = some x) (hx : Loc X.env.scope x) (he : PE X e te) (hs : swapsWith e (some (.Name x pos')) pos.line X.env = pure false := by rfl)
    (hf : X.fn x = true ∨ X.env.scope.names.lookup x = some .local := by first | exact .inl rfl | exact .inr rfl | assumption) : PS X (.Assign [.Name x pos'] e pos) (sSet i te) := by
  constructor
  intro pins s σ H D I h
  refine wpAny_Assign_Name (thn (he.run pins s σ H _ I h) ?_) hs
  rintro v s1 ⟨y, H1, I1, r1, q1⟩
  refine store_ok I1 hN hi hx r1 ?_ hf
  intro s2 I2
  rw [sput_eq] at q1
  exact ⟨_, H1, I2, q1⟩
theorem msif {c : Expr} {u v : List Stmt} {t1 t2 : TS} (hc : PT X c tA) (ha : PSs X u t1) (hb : PSs X v t2) : PS X (.If c u v pos) (sIf tA t1 t2) := by
  constructor
  intro pins s σ H D I h
  refine wpAny_If (thn (hc.run pins s σ H _ I h) ?_)
  rintro k s1 ⟨H1, I1, q1⟩
  cases k with
  | false => exact hb.run pins s1 σ H1 D I1 q1
  | true => exact ha.run pins s1 σ H1 D I1 q1
theorem msx (he : PE X e te) (hs : swapsWith e none pos.line X.env = pure false := by rfl) : PS X (.Expr e pos) (sDrop te) := ps_expr he hs
theorem msr (he : PE X e te) : PS X (.Return (some e) pos) (sRet te) := ps_ret he
end
end MK

namespace MK
open PySem PySem.Spec PyProof.Rows L2

/-! ### repr of data that may hold dicts of ints and texts -/
def kD : Key → PyData
  | .inl i => .int i
  | .inr x => .str x
mutual
def Rp (K : PySem.W.Frag) (H : Hp) : V → PyData → Prop
  | v, .none => v = .non
  | v, .bool b => v = .bl b
  | v, .int i => v = .int i
  | v, .str x => v = .str x
  | v, .list ds => ∃ a xs, v = .ref a ∧ SqL K H a xs ∧ RpA K H xs ds
  | v, .tuple ds => ∃ a xs, v = .ref a ∧ SqT K H a xs ∧ RpA K H xs ds
  | v, .dict kvs => ∃ a ks, v = .ref a ∧ H a = some (.dK ks) ∧ RpK K H ks kvs
def RpA (K : PySem.W.Frag) (H : Hp) : List V → List PyData → Prop
  | vs, [] => vs = []
  | vs, d :: ds => ∃ v r, vs = v :: r ∧ Rp K H v d ∧ RpA K H r ds
def RpK (K : PySem.W.Frag) (H : Hp) : List (Key × V) → List (PyData × PyData) → Prop
  | ks, [] => ks = []
  | ks, p :: r => ∃ k v t, ks = (k, v) :: t ∧ p.1 = kD k ∧ Rp K H v p.2 ∧ RpK K H t r
end
/-- what a repr walks over: read, and shown -/
abbrev Sh (P : Program) (w : World) (h : Heap) (u : Value) (d : PyData) : Prop :=
  (∃ as, Reads h u d as) ∧ ∃ bs, ReadAtMost h d.depth bs ∧ ReprK P w bs h d.depth u d.shown
abbrev ShA (P : Program) (w : World) (h : Heap) (us : List Value) (ds : List PyData) : Prop :=
  (∃ as, ReadsAll h us ds as) ∧ ∃ bs, ReadAtMost h (PyData.depthAll ds) bs ∧ ReprAllK P w bs h (PyData.depthAll ds) us (PyData.shownAll ds)
theorem ShA.nil {P : Program} {w : World} {h : Heap} : ShA P w h [] [] := ⟨⟨[], .nil⟩, [], (fun b hb => absurd hb List.not_mem_nil), by simp only [PyData.shownAll]; exact .nil⟩
theorem ShA.cons {P : Program} {w : World} {h : Heap} {u : Value} {us : List Value} {d : PyData} {ds : List PyData} (x : Sh P w h u d) (y : ShA P w h us ds) : ShA P w h (u :: us) (d :: ds) := by
  obtain ⟨⟨as, r⟩, bs, m, k⟩ := x
  obtain ⟨⟨as', r'⟩, bs', m', k'⟩ := y
  refine ⟨⟨_, .cons r r'⟩, bs ++ bs', ?_, ?_⟩
  · have e : PyData.depthAll (d :: ds) = max d.depth (PyData.depthAll ds) := by simp only [PyData.depthAll]
    rw [e]
    exact (m.mono (Nat.le_max_left _ _)).append (m'.mono (Nat.le_max_right _ _))
  · have e : PyData.depthAll (d :: ds) = max d.depth (PyData.depthAll ds) := by simp only [PyData.depthAll]
    have e2 : PyData.shownAll (d :: ds) = d.shown :: PyData.shownAll ds := by simp only [PyData.shownAll]
    rw [e, e2]
    exact .cons ((k.more fun b hb => List.mem_append_left _ hb).level_le (Nat.le_max_left _ _)) (k'.more_le (fun b hb => List.mem_append_right _ hb) (Nat.le_max_right _ _))
theorem dep_l (ds : List PyData) : PyData.depth (.list ds) = PyData.depthAll ds + 1 := by simp only [PyData.depth]
theorem dep_t (ds : List PyData) : PyData.depth (.tuple ds) = PyData.depthAll ds + 1 := by simp only [PyData.depth]
theorem dep_k (ds : List (PyData × PyData)) : PyData.depth (.dict ds) = PyData.depthKv ds + 1 := by simp only [PyData.depth]
theorem sho_l (ds : List PyData) : PyData.shown (.list ds) = listText (PyData.shownAll ds) := by simp only [PyData.shown]
theorem sho_t (ds : List PyData) : PyData.shown (.tuple ds) = tupleText (PyData.shownAll ds) := by simp only [PyData.shown]
theorem sho_k (ds : List (PyData × PyData)) : PyData.shown (.dict ds) = dictText (PyData.shownKv ds) := by simp only [PyData.shown]
theorem kD_sh {P : Program} {w : World} {h : Heap} {k : Key} {u : Value} (e : keyIs k u = true) (s : (kD k).showable = true) (z : (kD k).shown.length ≤ sizeLine) : Sh P w h u (kD k) := by
  rcases keyIs_shape e with ⟨i, t, rfl, rfl⟩ | ⟨x, t, rfl, rfl⟩
  · have r : Reads h (.int i t) (.int i) [] := .int i t
    exact ⟨⟨_, r⟩, ReprK.of_reads r s (fun y => by cases y) z⟩
  · have r : Reads h (.str x t) (.str x) [] := .str x t
    exact ⟨⟨_, r⟩, ReprK.of_reads r s (fun y => by cases y) z⟩
section
variable {X : Cx} {pins : List (Addr × Obj)} {σ : L2.St} {H : Hp} {s : Shared}
mutual
theorem Rp.go (I : Inv X pins σ H s) : ∀ (d : PyData) {v : V} {u : Value}, Rp X.K H v d → RelV v u → d.showable = true → d.shown.length ≤ sizeLine → Sh X.prog X.w s.heap u d
  | .none, _, u, e, r, sh, z => by
    cases (show _ = V.non from e)
    cases (show u = Value.none from r)
    have q : Reads s.heap .none .none [] := .none
    exact ⟨⟨_, q⟩, ReprK.of_reads q sh (fun y => by cases y) z⟩
  | .bool b, _, u, e, r, sh, z => by
    cases (show _ = V.bl b from e)
    cases (show u = Value.bool b from r)
    have q : Reads s.heap (.bool b) (.bool b) [] := .bool b
    exact ⟨⟨_, q⟩, ReprK.of_reads q sh (fun y => by cases y) z⟩
  | .int i, _, u, e, r, sh, z => by
    cases (show _ = V.int i from e)
    obtain ⟨t, e2⟩ := r
    subst e2
    have q : Reads s.heap (.int i t) (.int i) [] := .int i t
    exact ⟨⟨_, q⟩, ReprK.of_reads q sh (fun y => by cases y) z⟩
  | .str x, _, u, e, r, sh, z => by
    cases (show _ = V.str x from e)
    obtain ⟨t, e2⟩ := r
    subst e2
    have q : Reads s.heap (.str x t) (.str x) [] := .str x t
    exact ⟨⟨_, q⟩, ReprK.of_reads q sh (fun y => by cases y) z⟩
  | .list ds, _, u, e, r, sh, z => by
    unfold Rp at e
    obtain ⟨a, xs, ev, hs, ha⟩ := e
    subst ev
    cases (show u = Value.ref a from r)
    obtain ⟨its, rv, ⟨o, n, ho, hc, _, hd⟩, _⟩ := I.list hs
    have z' : (listText (PyData.shownAll ds)).length ≤ sizeLine := by rw [← sho_l]; exact z
    obtain ⟨⟨as, rr⟩, bs, m, k⟩ := RpA.go I ds ha rv (by simpa only [PyData.showable] using sh) fun t ht => Nat.le_trans (listText_mem_le ht) z'
    have rd : Reads s.heap (.ref a) (.list ds) _ := .list ho hc hd rr
    have hna : a ∉ bs := not_mem_of_deeper rd (by rw [dep_l]; omega) m
    refine ⟨⟨_, rd⟩, a :: bs, ReadAtMost.cons rd (by rw [dep_l]; omega) m, ?_⟩
    rw [dep_l, sho_l]
    cases its with
    | nil =>
      cases rr
      have e0 : listText (PyData.shownAll []) = "[]" := by simp only [PyData.shownAll, listText_nil]
      rw [e0]
      exact ReprK.listEmpty ho hc hd
    | cons x l => exact ReprK.list ho hc hd hna (by simpa using k.length_eq) fun i y hy => k.item i y (by simpa using hy)
  | .tuple ds, _, u, e, r, sh, z => by
    unfold Rp at e
    obtain ⟨a, xs, ev, hs, ha⟩ := e
    subst ev
    cases (show u = Value.ref a from r)
    obtain ⟨its, rv, ⟨o, ho, hc, n, hd⟩, _⟩ := I.tuple hs
    have z' : (tupleText (PyData.shownAll ds)).length ≤ sizeLine := by rw [← sho_t]; exact z
    obtain ⟨⟨as, rr⟩, bs, m, k⟩ := RpA.go I ds ha rv (by simpa only [PyData.showable] using sh) fun t ht => Nat.le_trans (tupleText_mem_le ht) z'
    have rd : Reads s.heap (.ref a) (.tuple ds) _ := .tuple ho hc hd rr
    have hna : a ∉ bs := not_mem_of_deeper rd (by rw [dep_t]; omega) m
    refine ⟨⟨_, rd⟩, a :: bs, ReadAtMost.cons rd (by rw [dep_t]; omega) m, ?_⟩
    rw [dep_t, sho_t]
    exact ReprK.tuple ho hc hd hna k
  | .dict kvs, _, u, e, r, sh, z => by
    unfold Rp at e
    obtain ⟨a, ks, ev, hs, ha⟩ := e
    subst ev
    cases (show u = Value.ref a from r)
    obtain ⟨_, hsys, vs, kv, o, es, ep, h1, h2, h3, h4, h5, h6⟩ := (show ObjOk X.prog X.w H s.heap a (.dK ks) from I.hok a _ hs)
    have z' : (dictText (PyData.shownKv kvs)).length ≤ sizeLine := by rw [← sho_k]; exact z
    obtain ⟨s1, s2⟩ := PyData.showableKv_split kvs (by simpa only [PyData.showable] using sh)
    obtain ⟨⟨⟨as, rr⟩, bs, m, k⟩, ⟨as', rr'⟩, bs', m', k'⟩ := RpK.go I kvs ha kv h5 s1 s2
      (fun t ht => by
        obtain ⟨p, hp, hl⟩ := PyData.shownKv_key_le kvs t ht
        exact Nat.le_trans hl (Nat.le_trans (dictText_mem_le hp) z'))
      (fun t ht => by
        obtain ⟨p, hp, hl⟩ := PyData.shownKv_val_le kvs t ht
        exact Nat.le_trans hl (Nat.le_trans (dictText_mem_le hp) z'))
    have rd : Reads s.heap (.ref a) (.dict kvs) _ := .dict h1 h2.1 h3 rr rr'
    have mm : ReadAtMost s.heap (PyData.depthKv kvs) (bs ++ bs') := (m.mono (PyData.depthAll_keys_le kvs)).append (m'.mono (PyData.depthAll_vals_le kvs))
    have hna : a ∉ bs ++ bs' := not_mem_of_deeper rd (by rw [dep_k]; omega) mm
    refine ⟨⟨_, rd⟩, a :: (bs ++ bs'), ReadAtMost.cons rd (by rw [dep_k]; omega) mm, ?_⟩
    rw [dep_k, sho_k, PyData.shownKv_eq]
    exact ReprK.dict h1 h2.1 h3 hsys hna (ReprEntriesK.of_two es.toList _ _ (k.more_le (fun b hb => List.mem_append_left _ hb) (PyData.depthAll_keys_le kvs)) (k'.more_le (fun b hb => List.mem_append_right _ hb) (PyData.depthAll_vals_le kvs)))
theorem RpA.go (I : Inv X pins σ H s) : ∀ (ds : List PyData) {vs : List V} {us : List Value}, RpA X.K H vs ds → Vals vs us → PyData.showableAll ds = true → (∀ t ∈ PyData.shownAll ds, t.length ≤ sizeLine) → ShA X.prog X.w s.heap us ds
  | [], vs, us, e, r, sh, z => by
    cases (show vs = [] from e)
    cases r
    exact .nil
  | d :: ds, vs, us, e, r, sh, z => by
    unfold RpA at e
    obtain ⟨v, t, ev, h1, h2⟩ := e
    subst ev
    cases r with
    | cons r1 r2 =>
      have sh' : d.showable = true ∧ PyData.showableAll ds = true := by simpa [PyData.showableAll] using sh
      exact .cons (Rp.go I d h1 r1 sh'.1 (z _ (by simp only [PyData.shownAll]; exact List.mem_cons_self))) (RpA.go I ds h2 r2 sh'.2 fun t ht => z t (by simp only [PyData.shownAll]; exact List.mem_cons_of_mem _ ht))
theorem RpK.go (I : Inv X pins σ H s) : ∀ (kvs : List (PyData × PyData)) {ks : List (Key × V)} {vs : List (Key × Value)} {es : List DictEntry}, RpK X.K H ks kvs → KV ks vs → Pairs (mixKind X.prog X.w) es vs →
    PyData.showableAll (kvs.map (·.1)) = true → PyData.showableAll (kvs.map (·.2)) = true → (∀ t ∈ PyData.shownAll (kvs.map (·.1)), t.length ≤ sizeLine) → (∀ t ∈ PyData.shownAll (kvs.map (·.2)), t.length ≤ sizeLine) →
    ShA X.prog X.w s.heap (es.map (·.key)) (kvs.map (·.1)) ∧ ShA X.prog X.w s.heap (es.map (·.val)) (kvs.map (·.2))
  | [], ks, vs, es, e, r, p, _, _, _, _ => by
    cases (show ks = [] from e)
    cases r
    cases p
    exact ⟨.nil, .nil⟩
  | q :: kvs, ks, vs, es, e, r, p, s1, s2, z1, z2 => by
    unfold RpK at e
    obtain ⟨k, v, t, ev, e1, h1, h2⟩ := e
    subst ev
    cases r with
    | cons r1 r2 =>
      cases p with
      | cons p1 p2 p3 =>
        simp only [List.map_cons, PyData.showableAll, Bool.and_eq_true] at s1 s2
        simp only [List.map_cons, PyData.shownAll] at z1 z2
        obtain ⟨y1, y2⟩ := RpK.go I kvs h2 r2 p3 s1.2 s2.2 (fun t ht => z1 t (List.mem_cons_of_mem _ ht)) fun t ht => z2 t (List.mem_cons_of_mem _ ht)
        refine ⟨.cons ?_ y1, .cons ?_ y2⟩
        · show Sh X.prog X.w s.heap _ q.1
          rw [e1] at s1 z1 ⊢
          refine kD_sh ?_ s1.1 (z1 _ List.mem_cons_self)
          have e2 : k = _ := r1.1
          rw [e2]
          exact p1
        · refine Rp.go I q.2 h1 ?_ s2.1 (z2 _ List.mem_cons_self)
          show RelV v (DictEntry.val _)
          rw [p2]
          exact r1.2
end
/-- repr(x), as the builtin is called -/
theorem Rp.repr {Q : Value → Shared → Prop} {E : Value → Shared → Prop} (I : Inv X pins σ H s) {d : PyData} {v : V} {u : Value} (e : Rp X.K H v d) (r : RelV v u) (sh : d.showable = true) (z : d.shown.length ≤ sizeLine)
    (hg : X.A.guards = some []) (hu : X.A.units + (d.depth + 1) < cLine)
    (q : ∀ h' u' tk, (∀ b o, s.heap.get? b = some o → h'.get? b = some o) → Q (.str d.shown u') { s with heap := h', toks := tk }) : wpAny (model X.prog X.w) X.A (call (.builtin "repr") [u]) Q E s := by
  cases d with
  | none =>
    cases (show v = V.non from e)
    cases (show u = Value.none from r)
    exact PySem.P.repr_of_none (q s.heap _ _ fun _ _ z => z)
  | bool b =>
    cases (show v = V.bl b from e)
    cases (show u = Value.bool b from r)
    exact PySem.P.repr_of_bool (q s.heap _ _ fun _ _ z => z)
  | int i =>
    cases (show v = V.int i from e)
    obtain ⟨t, e2⟩ := r
    subst e2
    exact PySem.P.repr_of_int (by simpa only [PyData.showable, decide_eq_true_eq] using sh) (q s.heap _ _ fun _ _ z => z)
  | str x =>
    cases (show v = V.str x from e)
    obtain ⟨t, e2⟩ := r
    subst e2
    exact PySem.P.repr_of_str (q s.heap _ _ fun _ _ z => z) z
  | list ds =>
    unfold Rp at e
    obtain ⟨a, xs, ev, hs, ha⟩ := e
    subst ev
    cases (show u = Value.ref a from r)
    obtain ⟨its, rv, ⟨o, n, ho, hc, _, hd⟩, _⟩ := I.list hs
    rw [sho_l] at z q
    rw [dep_l] at hu
    obtain ⟨⟨as, rr⟩, bs, m, k⟩ := RpA.go I ds ha rv (by simpa only [PyData.showable] using sh) fun t ht => Nat.le_trans (listText_mem_le ht) z
    have rd : Reads s.heap (.ref a) (.list ds) _ := .list ho hc hd rr
    have hna : a ∉ bs := not_mem_of_deeper rd (by rw [dep_l]; omega) m
    refine call_repr_slot (by omega) ⟨o, ho, hc⟩ F.slot_list_repr.toG ?_
    cases its with
    | nil =>
      cases rr
      simp only [PyData.shownAll, listText_nil] at q
      exact call_list_repr_empty ⟨o, ho, hc⟩ ho hd ⟨_, _, rfl, q s.heap _ _ fun _ _ e => e⟩
    | cons x l =>
      exact call_list_reprK ho hc hd hna (by simpa using k.length_eq) (fun i y hy => k.item i y (by simpa using hy)) hg (fun b _ => Clear.nil b) (by show X.A.units + 1 + _ < cLine; omega) (fun _ _ e => e) (fun h' u' tk hk => ⟨_, _, rfl, q h' u' tk hk⟩) z
  | tuple ds =>
    unfold Rp at e
    obtain ⟨a, xs, ev, hs, ha⟩ := e
    subst ev
    cases (show u = Value.ref a from r)
    obtain ⟨its, rv, ⟨o, ho, hc, n, hd⟩, _⟩ := I.tuple hs
    rw [sho_t] at z q
    rw [dep_t] at hu
    obtain ⟨⟨as, rr⟩, bs, m, k⟩ := RpA.go I ds ha rv (by simpa only [PyData.showable] using sh) fun t ht => Nat.le_trans (tupleText_mem_le ht) z
    have rd : Reads s.heap (.ref a) (.tuple ds) _ := .tuple ho hc hd rr
    have hna : a ∉ bs := not_mem_of_deeper rd (by rw [dep_t]; omega) m
    refine call_repr_slot (by omega) ⟨o, ho, hc⟩ F.slot_tuple_repr ?_
    exact call_tuple_reprK ho hc hd hna k hg (fun b _ => Clear.nil b) (by show X.A.units + 1 + _ < cLine; omega) (fun _ _ e => e) (fun h' u' tk hk => ⟨_, _, rfl, q h' u' tk hk⟩) z
  | dict kvs =>
    unfold Rp at e
    obtain ⟨a, ks, ev, hs, ha⟩ := e
    subst ev
    cases (show u = Value.ref a from r)
    obtain ⟨_, hsys, vs, kv, o, es, ep, h1, h2, h3, h4, h5, h6⟩ := (show ObjOk X.prog X.w H s.heap a (.dK ks) from I.hok a _ hs)
    rw [sho_k] at z q
    rw [dep_k] at hu
    obtain ⟨s1, s2⟩ := PyData.showableKv_split kvs (by simpa only [PyData.showable] using sh)
    obtain ⟨⟨⟨as, rr⟩, bs, m, k⟩, ⟨as', rr'⟩, bs', m', k'⟩ := RpK.go I kvs ha kv h5 s1 s2
      (fun t ht => by
        obtain ⟨p, hp, hl⟩ := PyData.shownKv_key_le kvs t ht
        exact Nat.le_trans hl (Nat.le_trans (dictText_mem_le hp) z))
      (fun t ht => by
        obtain ⟨p, hp, hl⟩ := PyData.shownKv_val_le kvs t ht
        exact Nat.le_trans hl (Nat.le_trans (dictText_mem_le hp) z))
    have rd : Reads s.heap (.ref a) (.dict kvs) _ := .dict h1 h2.1 h3 rr rr'
    have mm : ReadAtMost s.heap (PyData.depthKv kvs) (bs ++ bs') := (m.mono (PyData.depthAll_keys_le kvs)).append (m'.mono (PyData.depthAll_vals_le kvs))
    have hna : a ∉ bs ++ bs' := not_mem_of_deeper rd (by rw [dep_k]; omega) mm
    refine call_repr_slot (by omega) ⟨o, h1, h2.1⟩ F.slot_dict_repr ?_
    rw [PyData.shownKv_eq] at z q
    exact call_dict_reprK h1 h2.1 h3 hsys hna (ReprEntriesK.of_two es.toList _ _ (k.more_le (fun b hb => List.mem_append_left _ hb) (PyData.depthAll_keys_le kvs)) (k'.more_le (fun b hb => List.mem_append_right _ hb) (PyData.depthAll_vals_le kvs))) hg (fun b _ => Clear.nil b) (by show X.A.units + 1 + _ < cLine; omega) (fun _ _ e => e) (fun h' u' tk hk => ⟨_, _, rfl, q h' u' tk hk⟩) z
end
end MK

namespace MK
open PySem PySem.Spec PyProof.Rows L2

section
variable {X : Cx}
theorem op_imp {f : Value → Value → Sem Value} {r r' : R2} (h : OpR X f r) (i : ∀ x y H Q, r' x y H Q → r x y H Q) : OpR X f r' :=
  fun pins s σ H x y v u Q I rx ry q => h pins s σ H x y v u Q I rx ry (i _ _ _ _ q)
theorem call_imp {f : Value} {r r' : List V → Hp → VK → Prop} (h : CallR X f r) (i : ∀ xs H Q, r' xs H Q → r xs H Q) : CallR X f r' :=
  fun pins s σ H xs us Q I rx q => h pins s σ H xs us Q I rx (i _ _ _ q)
end

/-! ### lists and tuples that are read -/
theorem rd {H : Hp} {a : Addr} {o : HO} (h : H a = some o) : Rd H a o := .inl h

/-! ### arithmetic -/
@[irreducible] def addX (K : PySem.W.Frag) : R2 := fun x y H Q =>
  (∃ i j, x = .str i ∧ y = .str j ∧ i.length + j.length ≤ sizeLine ∧ Q (.str (i ++ j)) H) ∨
  (∃ l b xs zs, x = .ref l ∧ y = .ref b ∧ H l = some (.lst xs) ∧ H b = some (.lst zs) ∧ xs.length + zs.length ≤ sizeLine ∧ ∀ p, H p = none → Q (.ref p) (upd H p (.lst (xs ++ zs)))) ∨ rCatA K x y H Q
def opAdd (K : PySem.W.Frag) : R2 := fun x y H Q => match x, y with
  | .int i, .int j => Q (.int (i + j)) H
  | x, y => addX K x y H Q
def opSub : R2 := fun x y H Q => match x, y with
  | .int i, .int j => Q (.int (i - j)) H
  | _, _ => False
/-- what * asks of two ints, what // asks, what ** asks -/
def mulOk (i j : Int) : Prop := (-18446744073709551616 < i ∧ i < 18446744073709551616) ∨ (-18446744073709551616 < j ∧ j < 18446744073709551616) ∨ CMulW i j
def divOk (j : Int) : Prop := 0 < j ∧ j < 18446744073709551616
def powOk (i j : Int) : Prop := (0 ≤ j ∧ j ≤ 1000000) ∧ -18446744073709551616 < i ∧ i < 18446744073709551616
theorem divOk.w {j : Int} (h : divOk j) : j.natAbs.log2 < 9000 := by
  have h1 : j.natAbs < 2 ^ 64 := by
    have h2 := h.1
    have h3 := h.2
    have e : (2 : Nat) ^ 64 = 18446744073709551616 := by decide
    rw [e]
    omega
  exact Nat.lt_of_lt_of_le (PySem.Flt.log2_lt_of (by decide) h1) (by decide)
@[irreducible] def mulX : R2 := fun x y H Q => ∃ l k xs, x = .ref l ∧ y = .int k ∧ H l = some (.lst xs) ∧ -(2 ^ 63) ≤ k ∧ k < 2 ^ 63 ∧ xs.length * k.toNat ≤ sizeLine ∧ ∀ p, H p = none → Q (.ref p) (upd H p (.lst (List.replicate k.toNat xs).flatten))
def opMul : R2 := fun x y H Q => match x, y with
  | .int i, .int j => mulOk i j ∧ Q (.int (i * j)) H
  | x, y => mulX x y H Q
def opDiv : R2 := fun x y H Q => match x, y with
  | .int i, .int j => divOk j ∧ Q (.int (i / j)) H
  | _, _ => False
def opMod : R2 := fun x y H Q => match x, y with
  | .int i, .int j => 0 < j ∧ Q (.int (i % j)) H
  | _, _ => False
def opPow : R2 := fun x y H Q => match x, y with
  | .int i, .int j => powOk i j ∧ Q (.int (i ^ j.toNat)) H
  | _, _ => False
def opNeg : V → Hp → VK → Prop := fun x H Q => match x with
  | .int i => Q (.int (-i)) H
  | _ => False
section
variable {X : Cx}
theorem ii {f : Value → Value → Sem Value} {C : Int → Int → Prop} {g : Int → Int → V} (h : OpR X f (rI C g)) : OpR X f (fun x y H Q => match x, y with
  | .int i, .int j => C i j ∧ Q (g i j) H
  | _, _ => False) := op_imp h fun x y H Q q => by
  split at q
  · exact ⟨_, _, rfl, rfl, q⟩
  · exact q.elim
theorem ii0 {f : Value → Value → Sem Value} {g : Int → Int → V} (h : OpR X f (rI0 g)) : OpR X f (fun x y H Q => match x, y with
  | .int i, .int j => Q (g i j) H
  | _, _ => False) := op_imp h fun x y H Q q => by
  split at q
  · exact ⟨_, _, rfl, rfl, q⟩
  · exact q.elim
theorem o_add : OpR X (binaryOp .Add) (opAdd X.K) := op_imp (op_add.or (op_add_str.or (op_cat.or op_catA))) fun x y H Q q => by
  unfold opAdd at q
  split at q
  · exact .inl ⟨_, _, rfl, rfl, q⟩
  · unfold addX at q
    rcases q with q | q | q
    · exact .inr (.inl q)
    · exact .inr (.inr (.inl q))
    · exact .inr (.inr (.inr q))
theorem o_sub : OpR X (binaryOp .Sub) opSub := ii0 op_sub
theorem o_mul : OpR X (binaryOp .Mult) opMul := op_imp (op_mul.or (op_mulW.or op_rep)) fun x y H Q q => by
  unfold opMul at q
  split at q
  · have e : (2 : Int) ^ 64 = 18446744073709551616 := by decide
    obtain ⟨c | c | c, q⟩ := q
    · exact .inl ⟨_, _, rfl, rfl, .inl (by rw [e]; exact c), q⟩
    · exact .inl ⟨_, _, rfl, rfl, .inr (by rw [e]; exact c), q⟩
    · exact .inr (.inl ⟨_, _, rfl, rfl, c, q⟩)
  · unfold mulX at q
    exact .inr (.inr q)
theorem o_div : OpR X (binaryOp .FloorDiv) opDiv := op_imp (ii op_fdivW) fun x y H Q q => by
  unfold opDiv at q
  split at q
  · exact ⟨⟨q.1.1, q.1.w⟩, q.2⟩
  · exact q.elim
theorem o_mod : OpR X (binaryOp .Mod) opMod := ii op_mod
theorem o_pow : OpR X (binaryOp .Pow) opPow := op_imp (ii op_pow) fun x y H Q q => by
  unfold opPow at q
  split at q
  · have e : (2 : Nat) ^ 64 = 18446744073709551616 := by decide
    exact ⟨⟨q.1.1.1, q.1.1.2, by rw [e]; have h1 := q.1.2.1; have h2 := q.1.2.2; omega⟩, q.2⟩
  · exact q.elim
theorem o_neg : UnR X (unaryOp .USub) opNeg := fun pins s σ H x v Q I rx q => by
  cases x with
  | int i => exact un_neg pins s σ H (.int i) v Q I rx ⟨i, rfl, q⟩
  | _ => exact q.elim
end

/-! ### comparisons -/
@[irreducible] def eqX (K : PySem.W.Frag) : R2 := fun x y H Q => (scal x y = true ∧ Q (.bl (decide (x = y))) H) ∨ rEqD K x y H Q ∨ rEqDA x y H Q
@[irreducible] def neX (K : PySem.W.Frag) : R2 := fun x y H Q => (scal x y = true ∧ Q (.bl (!decide (x = y))) H) ∨ rNeD K x y H Q ∨ rNeDA x y H Q
def opEq (K : PySem.W.Frag) : R2 := fun x y H Q => match x, y with
  | .int i, .int j => Q (.bl (decide (i = j))) H
  | .str i, .str j => Q (.bl (decide (i = j))) H
  | .bl i, .bl j => Q (.bl (decide (i = j))) H
  | x, y => eqX K x y H Q
def opNe (K : PySem.W.Frag) : R2 := fun x y H Q => match x, y with
  | .int i, .int j => Q (.bl (!decide (i = j))) H
  | .str i, .str j => Q (.bl (!decide (i = j))) H
  | .bl i, .bl j => Q (.bl (!decide (i = j))) H
  | x, y => neX K x y H Q
def opLt : R2 := fun x y H Q => match x, y with
  | .int i, .int j => Q (.bl (decide (i < j))) H
  | .str i, .str j => Q (.bl (decide (i.cps.toList < j.cps.toList))) H
  | _, _ => False
def opLe : R2 := fun x y H Q => match x, y with
  | .int i, .int j => Q (.bl (decide (i ≤ j))) H
  | .str i, .str j => Q (.bl (!decide (j.cps.toList < i.cps.toList))) H
  | _, _ => False
def opGt : R2 := fun x y H Q => match x, y with
  | .int i, .int j => Q (.bl (decide (j < i))) H
  | _, _ => False
section
variable {X : Cx}
theorem dI {i j : Int} : decide (V.int i = V.int j) = decide (i = j) := by simp
theorem dS {i j : Str} : decide (V.str i = V.str j) = decide (i = j) := by simp
theorem dB {i j : Bool} : decide (V.bl i = V.bl j) = decide (i = j) := by simp
theorem o_eq (hu : X.A.units + 64 < cLine) : OpR X (compareOp .Eq) (opEq X.K) := op_imp (op_eq.or ((op_eqD hu).or (op_eq_dictA (by omega)))) fun x y H Q q => by
  unfold opEq at q
  split at q
  · exact .inl ⟨rfl, by rw [dI]; exact q⟩
  · exact .inl ⟨rfl, by rw [dS]; exact q⟩
  · exact .inl ⟨rfl, by rw [dB]; exact q⟩
  · unfold eqX at q
    exact q
theorem o_ne (hu : X.A.units + 64 < cLine) : OpR X (compareOp .NotEq) (opNe X.K) := op_imp (op_ne.or ((op_neD hu).or (op_ne_dictA (by omega)))) fun x y H Q q => by
  unfold opNe at q
  split at q
  · exact .inl ⟨rfl, by rw [dI]; exact q⟩
  · exact .inl ⟨rfl, by rw [dS]; exact q⟩
  · exact .inl ⟨rfl, by rw [dB]; exact q⟩
  · unfold neX at q
    exact q
theorem o_lt : OpR X (compareOp .Lt) opLt := op_imp (op_lt.or op_lt_str) fun x y H Q q => by
  unfold opLt at q
  split at q
  · exact .inl ⟨_, _, rfl, rfl, q⟩
  · exact .inr ⟨_, _, rfl, rfl, q⟩
  · exact q.elim
theorem o_le : OpR X (compareOp .LtE) opLe := op_imp (op_le.or op_le_str) fun x y H Q q => by
  unfold opLe at q
  split at q
  · exact .inl ⟨_, _, rfl, rfl, q⟩
  · exact .inr ⟨_, _, rfl, rfl, q⟩
  · exact q.elim
theorem o_gt : OpR X (compareOp .Gt) opGt := ii0 op_gt
end

/-! ### built-in calls by values -/
@[irreducible] def lenX (K : PySem.W.Frag) (x : V) (H : Hp) (Q : VK) : Prop :=
  (∃ n, LenV K x H n ∧ Q (.int n) H) ∨ (∃ a kvs, x = .ref a ∧ H a = some (.dK kvs) ∧ Q (.int kvs.length) H) ∨ ∃ a kvs, x = .ref a ∧ H a = some (.dT kvs) ∧ Q (.int ((kvs.length : Nat) : Int)) H
def cLen (K : PySem.W.Frag) : List V → Hp → VK → Prop := fun xs H Q => match xs with
  | [x] => lenX K x H Q
  | _ => False
@[irreducible] def maxX (K : PySem.W.Frag) (x : V) (H : Hp) (Q : VK) : Prop := ∃ (a : Addr) (ns : List Int), x = V.ref a ∧ SqL K H a (ns.map V.int) ∧ 0 < ns.length ∧ ∀ m, m ∈ ns → (∀ y, y ∈ ns → y ≤ m) → Q (.int m) H
@[irreducible] def minX (K : PySem.W.Frag) (x : V) (H : Hp) (Q : VK) : Prop := ∃ (a : Addr) (ns : List Int), x = V.ref a ∧ SqL K H a (ns.map V.int) ∧ 0 < ns.length ∧ ∀ m, m ∈ ns → (∀ y, y ∈ ns → m ≤ y) → Q (.int m) H
def cMax (K : PySem.W.Frag) : List V → Hp → VK → Prop := fun xs H Q => match xs with
  | [.int i, .int j] => Q (.int (max i j)) H
  | [x] => maxX K x H Q
  | _ => False
def cMin (K : PySem.W.Frag) : List V → Hp → VK → Prop := fun xs H Q => match xs with
  | [.int i, .int j] => Q (.int (min i j)) H
  | [x] => minX K x H Q
  | _ => False
structure RepOk (d : PyData) : Prop where
  sh : d.showable = true
  dp : d.depth ≤ 60
  sm : d.leavesShort 64 = true
  bk : d.bulk ≤ 200000
theorem RepOk.len {d : PyData} (h : RepOk d) : d.shown.length ≤ sizeLine := by
  have a := PyData.shown_le_bulk 64 (by decide) d h.sm
  have b := h.bk
  rw [sizeLine_eq]
  omega
@[irreducible] def reprX (K : PySem.W.Frag) (x : V) (H : Hp) (Q : VK) : Prop :=
  ∃ d, Rp K H x d ∧ RepOk d ∧ Q (.str d.shown) H
def cRepr (K : PySem.W.Frag) : List V → Hp → VK → Prop := fun xs H Q => match xs with
  | [x] => reprX K x H Q
  | _ => False
@[irreducible] def listX (K : PySem.W.Frag) (x : V) (H : Hp) (Q : VK) : Prop :=
  ∃ p ys, x = .ref p ∧ (SqL K H p ys ∨ SqT K H p ys) ∧ ∀ l, H l = none → Q (.ref l) (upd H l (.lst ys))
def cList (K : PySem.W.Frag) : List V → Hp → VK → Prop := fun xs H Q => match xs with
  | [x] => listX K x H Q
  | _ => False
section
variable {X : Cx}
theorem call_or {f : Value} {r r' : List V → Hp → VK → Prop} (h : CallR X f r) (h' : CallR X f r') : CallR X f (fun xs H Q => r xs H Q ∨ r' xs H Q) :=
  fun pins s σ H xs us Q I rx q => q.elim (h pins s σ H xs us Q I rx) (h' pins s σ H xs us Q I rx)
theorem k_len : CallR X (.builtin "len") (cLen X.K) := call_imp (call_or call_len (call_or call_lenD call_len_dT)) fun xs H Q q => by
  unfold cLen at q
  split at q
  · unfold lenX at q
    rcases q with ⟨n, h, q⟩ | ⟨a, kvs, e, h, q⟩ | ⟨a, kvs, e, h, q⟩
    · exact .inl ⟨_, n, rfl, h, q⟩
    · exact .inr (.inl ⟨a, kvs, by rw [e], h, q⟩)
    · exact .inr (.inr ⟨a, kvs, by rw [e], h, q⟩)
  · exact q.elim
theorem k_max (hc : X.calm = true) : CallR X (.builtin "max") (cMax X.K) := call_imp (call_or (call_max2 hc) (cr_max hc)) fun xs H Q q => by
  unfold cMax at q
  split at q
  · rename_i i j
    refine .inl ⟨i, j, rfl, ?_⟩
    have e : (if j > i then j else i) = max i j := by
      rw [Int.max_def]
      split <;> split <;> omega
    rw [e]
    exact q
  · unfold maxX at q
    obtain ⟨a, ns, e, q⟩ := q
    subst e
    exact .inr ⟨a, ns, rfl, q⟩
  · exact q.elim
theorem k_min (hc : X.calm = true) : CallR X (.builtin "min") (cMin X.K) := call_imp (call_or (call_min2 hc) (cr_min hc)) fun xs H Q q => by
  unfold cMin at q
  split at q
  · rename_i i j
    refine .inl ⟨i, j, rfl, ?_⟩
    have e : (if j < i then j else i) = min i j := by
      rw [Int.min_def]
      split <;> split <;> omega
    rw [e]
    exact q
  · unfold minX at q
    obtain ⟨a, ns, e, q⟩ := q
    subst e
    exact .inr ⟨a, ns, rfl, q⟩
  · exact q.elim
theorem k_list : CallR X (.type "list") (cList X.K) := call_imp call_list_of fun xs H Q q => by
  unfold cList at q
  split at q
  · unfold listX at q
    obtain ⟨p, ys, e, q⟩ := q
    subst e
    exact ⟨p, ys, rfl, q⟩
  · exact q.elim
theorem k_repr (hg : X.A.guards = some []) (hu : X.A.units + 64 < cLine) : CallR X (.builtin "repr") (cRepr X.K) := fun pins s σ H xs us Q I r q => by
  unfold cRepr at q
  split at q
  · rename_i x
    obtain ⟨u, e, rx⟩ := vals1 r
    subst e
    unfold reprX at q
    obtain ⟨d, hd, ok, q⟩ := q
    have fin : ∀ h' u' tk, (∀ b o, s.heap.get? b = some o → h'.get? b = some o) → EP X pins σ Q (.str d.shown u') { s with heap := h', toks := tk } :=
      fun h' u' tk k => ⟨.str d.shown, H, I.kept (t' := tk) k, ⟨u', rfl⟩, q⟩
    exact Rp.repr I hd rx ok.sh ok.len hg (by have := ok.dp; omega) fin
  · exact q.elim
end
end MK

/-! an own instance, or a list or tuple of anything, is like itself: == and != of one and the same object -/
namespace PySem
open Sem (wp)
open Builtin PySem.SeqAt
section
variable {prog : Program} {w : World} {A : Around} {E : Value → Shared → Prop} {s : Shared} {K : PySem.W.Frag} {x C : Addr} {ox : Obj} {od : Option Obj}
theorem mk_call_eq_same {Q : Value → Shared → Prop} (X : K.In s.heap) (I : PySem.W.InstAt s.heap x ox C od) (hm : PySem.W.mroIn K C (.type "object") = some true) (hq : Q (.bool true) s) :
    wpAny (model prog w) A (call (.builtin "object.__eq__") [.ref x, .ref x]) Q E s :=
  wpAny_call (codeAny_call_builtin F.cmp_object.eq.plain F.cmpEntry_eq (PySem.W.check_slot F.cmpKind_eq F.cmpSplit_eq (I.type.andThen (PySem.W.looks_mroIn X hm)) (F.cmpArgs_eq _ _) (objEq_entry_same hq)))
theorem mk_bound_ne {args : List Value} {Q : Option Value → Shared → Prop} (X : K.In s.heap) (I : PySem.W.InstAt s.heap x ox C od) (hs : PySem.W.findIn K (.ref C) "__ne__" = some (some (.builtin "object.__ne__")))
    (h : wpAny (model prog w) A (call (.builtin "object.__ne__") (.ref x :: args)) (fun v => Q (some v)) E s) : wpAny (model prog w) A (callSpecialIfBound? (.ref x) "__ne__" args) Q E s := by
  simp only [callSpecialIfBound?, bindSpecialIfBound?]
  refine wpAny_holding (wpAny_bind (wpAny_bind (wpAny_bind (I.type.here ((PySem.W.looks_findIn X hs).here ?_)))))
  refine wpAny_bind (wpAny_askSetting (wpAny_ite ?_))
  have fin : wpAny (model prog w) A (call (.builtin "object.__ne__") ([.ref x] ++ args) >>= fun v => pure (some v)) Q E s := wpAny_bind (wpAny_mono h (fun v s' h' => wpAny_pure h') fun _ _ h' => h')
  split
  · exact wpAny_bind (wpAny_of_eq (F.cmp_object.ne.bind _) (wpAny_pure (by exact fin)))
  · exact wpAny_tryCatch (wpAny_bind (wpAny_of_eq (F.cmp_object.ne.bind _) (wpAny_pure (by exact fin))))
theorem mk_try_eq {Q : Option Value → Shared → Prop} (X : K.In s.heap) (I : PySem.W.InstAt s.heap x ox C od) (hm : PySem.W.mroIn K C (.type "object") = some true) (hs : PySem.W.findIn K (.ref C) "__eq__" = some (some (.builtin "object.__eq__")))
    (hq : Q (some (.bool true)) s) : wpAny (model prog w) A (tryCompare (.ref x) "__eq__" (.ref x)) Q E s := by
  simp only [tryCompare]
  exact wpAny_bind (HN.ifBound_objEq X I hs (mk_call_eq_same X I hm (wpAny_pure hq)))
theorem mk_entry_ne {Q : Fin → Shared → Prop} (hu : A.units < cLine) (X : K.In s.heap) (I : PySem.W.InstAt s.heap x ox C od) (hm : PySem.W.mroIn K C (.type "object") = some true) (hs : PySem.W.findIn K (.ref C) "__eq__" = some (some (.builtin "object.__eq__")))
    (hq : Q (.done (.ret (.bool false))) s) : wpAny (model prog w) A (Builtin.«object.__ne__» ⟨[.ref x, .ref x], []⟩) Q E s := by
  unfold Builtin.«object.__ne__»
  repeat (first | with_reducible refine wpAny_cRoomFor hu ?_ | with_reducible refine HN.ifBound_objEq X I hs (mk_call_eq_same X I hm ?_) | wp_step)
  exact hq
theorem mk_call_ne_same {Q : Value → Shared → Prop} (hu : A.units + 1 < cLine) (X : K.In s.heap) (I : PySem.W.InstAt s.heap x ox C od) (hm : PySem.W.mroIn K C (.type "object") = some true) (hs : PySem.W.findIn K (.ref C) "__eq__" = some (some (.builtin "object.__eq__")))
    (hq : Q (.bool false) s) : wpAny (model prog w) A (call (.builtin "object.__ne__") [.ref x, .ref x]) Q E s :=
  wpAny_call (codeAny_call_builtin F.cmp_object.ne.plain F.cmpEntry_ne (PySem.W.check_slot F.cmpKind_ne F.cmpSplit_ne (I.type.andThen (PySem.W.looks_mroIn X hm)) (F.cmpArgs_ne _ _) (mk_entry_ne (A := A.in1) hu X I hm hs hq)))
theorem mk_try_ne {Q : Option Value → Shared → Prop} (hu : A.units + 1 < cLine) (X : K.In s.heap) (I : PySem.W.InstAt s.heap x ox C od) (hm : PySem.W.mroIn K C (.type "object") = some true) (hs : PySem.W.findIn K (.ref C) "__eq__" = some (some (.builtin "object.__eq__")))
    (hn : PySem.W.findIn K (.ref C) "__ne__" = some (some (.builtin "object.__ne__")))
    (hq : Q (some (.bool false)) s) : wpAny (model prog w) A (tryCompare (.ref x) "__ne__" (.ref x)) Q E s := by
  simp only [tryCompare]
  exact wpAny_bind (mk_bound_ne X I hn (mk_call_ne_same hu X I hm hs (wpAny_pure hq)))
theorem mk_eq_same (hu : A.units < cLine) (X : K.In s.heap) (I : PySem.W.InstAt s.heap x ox C od) (hm : PySem.W.mroIn K C (.type "object") = some true) (hs : PySem.W.findIn K (.ref C) "__eq__" = some (some (.builtin "object.__eq__"))) :
    RcAt A s (.ref x) (.ref x) true := fun prog w E Q h => by
  simp only [richCompare, cmpInfo_Eq, oneThing_ref]
  refine wpAny_holding (wpAny_bind (wpAny_cRoomFor hu ?_))
  refine wpAny_bind (I.type.here ?_)
  refine wpAny_bind (I.type.here ?_)
  rw [if_neg (by simp)]
  refine wpAny_bind (wpAny_pure ?_)
  simp only [Bool.false_eq_true, if_false]
  exact wpAny_bind (mk_try_eq X I hm hs (wpAny_pure h))
theorem mk_ne_same (hu : A.units + 1 < cLine) (X : K.In s.heap) (I : PySem.W.InstAt s.heap x ox C od) (hm : PySem.W.mroIn K C (.type "object") = some true) (hs : PySem.W.findIn K (.ref C) "__eq__" = some (some (.builtin "object.__eq__")))
    (hn : PySem.W.findIn K (.ref C) "__ne__" = some (some (.builtin "object.__ne__"))) :
    RcNeAt A s (.ref x) (.ref x) false := fun prog w E Q h => by
  simp only [richCompare, cmpInfo_NotEq, oneThing_ref]
  refine wpAny_holding (wpAny_bind (wpAny_cRoomFor (Nat.lt_of_succ_lt hu) ?_))
  refine wpAny_bind (I.type.here ?_)
  refine wpAny_bind (I.type.here ?_)
  rw [if_neg (by simp)]
  refine wpAny_bind (wpAny_pure ?_)
  simp only [Bool.false_eq_true, if_false]
  exact wpAny_bind (mk_try_ne hu X I hm hs hn (wpAny_pure h))
end
end PySem
namespace MK
open PySem PySem.Spec PyProof.Rows L2
structure OEq (K : PySem.W.Frag) (C : Addr) : Prop where
  obj : PySem.W.mroIn K C (.type "object") = some true
  eq : PySem.W.findIn K (.ref C) "__eq__" = some (some (.builtin "object.__eq__"))
  ne : PySem.W.findIn K (.ref C) "__ne__" = some (some (.builtin "object.__ne__"))
/-- what is like itself: a list, a tuple, an instance of one of the classes told -/
def SelfAt (K : PySem.W.Frag) (cs : List Addr) (H : Hp) (a : Addr) : Prop :=
  (∃ xs, H a = some (.lst xs)) ∨ (∃ xs, H a = some (.tup xs)) ∨ ∃ C dx fs, H a = some (.ins C dx fs) ∧ C ∈ cs
def rEqS (K : PySem.W.Frag) (cs : List Addr) : R2 := fun x y H Q => ∃ a, x = .ref a ∧ y = .ref a ∧ SelfAt K cs H a ∧ Q (.bl true) H
def rNeS (K : PySem.W.Frag) (cs : List Addr) : R2 := fun x y H Q => ∃ a, x = .ref a ∧ y = .ref a ∧ SelfAt K cs H a ∧ Q (.bl false) H
section
variable {X : Cx} {cs : List Addr}
theorem all_true (n : Nat) : (List.range n).all (fun _ => true) = true := by simp
theorem op_eqS (hu : X.A.units + 64 < cLine) (hc : ∀ C ∈ cs, OEq X.K C) : OpR X (compareOp .Eq) (rEqS X.K cs) := by
  intro pins s σ H x y v u Q I rx ry h
  obtain ⟨a, rfl, rfl, h, q⟩ := h
  cases rx
  cases ry
  show wpAny _ _ (richCompare .Eq (.ref a) (.ref a)) _ _ _
  rcases h with ⟨xs, h⟩ | ⟨xs, h⟩ | ⟨C, dx, fs, h, hC⟩
  · obtain ⟨its, rv, hl, _⟩ := I.list (.inl (.inl h))
    have z := SeqAt.RcAt.lists (A := X.A) (e := fun _ => true) hl.isList hl.isList rfl (by omega) fun j h1 h2 => SeqAt.EqAt.same _
    rw [all_true] at z
    exact z _ _ _ _ ⟨.bl true, H, I, rfl, q⟩
  · obtain ⟨its, rv, hl, _⟩ := I.tuple (.inl (.inl h))
    have z := SeqAt.RcAt.tuples (A := X.A) (e := fun _ => true) hl hl (by omega) fun j h1 h2 => SeqAt.EqAt.same _
    rw [all_true] at z
    simp only [Bool.true_and, beq_self_eq_true] at z
    exact z _ _ _ _ ⟨.bl true, H, I, rfl, q⟩
  · obtain ⟨mA, O, _⟩ := ins_get I.hok h
    obtain ⟨od, J, _⟩ := O.look
    exact mk_eq_same (by omega) I.kIn J (hc C hC).obj (hc C hC).eq _ _ _ _ ⟨.bl true, H, I, rfl, q⟩
theorem op_neS (hu : X.A.units + 64 < cLine) (hc : ∀ C ∈ cs, OEq X.K C) : OpR X (compareOp .NotEq) (rNeS X.K cs) := by
  intro pins s σ H x y v u Q I rx ry h
  obtain ⟨a, rfl, rfl, h, q⟩ := h
  cases rx
  cases ry
  show wpAny _ _ (richCompare .NotEq (.ref a) (.ref a)) _ _ _
  rcases h with ⟨xs, h⟩ | ⟨xs, h⟩ | ⟨C, dx, fs, h, hC⟩
  · obtain ⟨its, rv, hl, _⟩ := I.list (.inl (.inl h))
    have z := SeqAt.RcNeAt.lists (A := X.A) (e := fun _ => true) hl.isList hl.isList rfl (by omega) fun j h1 h2 => SeqAt.EqAt.same _
    rw [all_true] at z
    exact z _ _ _ _ ⟨.bl false, H, I, rfl, q⟩
  · obtain ⟨its, rv, hl, _⟩ := I.tuple (.inl (.inl h))
    have z := SeqAt.RcNeAt.tuples (A := X.A) (e := fun _ => true) hl hl (by omega) fun j h1 h2 => SeqAt.EqAt.same _
    rw [all_true] at z
    simp only [Bool.true_and, beq_self_eq_true] at z
    exact z _ _ _ _ ⟨.bl false, H, I, rfl, q⟩
  · obtain ⟨mA, O, _⟩ := ins_get I.hok h
    obtain ⟨od, J, _⟩ := O.look
    exact mk_ne_same (by omega) I.kIn J (hc C hC).obj (hc C hC).eq (hc C hC).ne _ _ _ _ ⟨.bl false, H, I, rfl, q⟩
end

/-- == and != where the two may be one and the same object -/
@[irreducible] def eqXs (K : PySem.W.Frag) (cs : List Addr) : R2 := fun x y H Q => eqX K x y H Q ∨ rEqS K cs x y H Q
@[irreducible] def neXs (K : PySem.W.Frag) (cs : List Addr) : R2 := fun x y H Q => neX K x y H Q ∨ rNeS K cs x y H Q
def opEqS (K : PySem.W.Frag) (cs : List Addr) : R2 := fun x y H Q => match x, y with
  | .int i, .int j => Q (.bl (decide (i = j))) H
  | .str i, .str j => Q (.bl (decide (i = j))) H
  | .bl i, .bl j => Q (.bl (decide (i = j))) H
  | x, y => eqXs K cs x y H Q
def opNeS (K : PySem.W.Frag) (cs : List Addr) : R2 := fun x y H Q => match x, y with
  | .int i, .int j => Q (.bl (!decide (i = j))) H
  | .str i, .str j => Q (.bl (!decide (i = j))) H
  | .bl i, .bl j => Q (.bl (!decide (i = j))) H
  | x, y => neXs K cs x y H Q
section
variable {X : Cx} {cs : List Addr}
theorem eqX_of {x y : V} {H : Hp} {Q : VK} (h : scal x y = true ∧ Q (.bl (decide (x = y))) H) : eqX X.K x y H Q := by unfold eqX; exact .inl h
theorem neX_of {x y : V} {H : Hp} {Q : VK} (h : scal x y = true ∧ Q (.bl (!decide (x = y))) H) : neX X.K x y H Q := by unfold neX; exact .inl h
theorem o_eqX (hu : X.A.units + 64 < cLine) : OpR X (compareOp .Eq) (eqX X.K) := op_imp (op_eq.or ((op_eqD hu).or (op_eq_dictA (by omega)))) fun x y H Q q => by
  unfold eqX at q
  exact q
theorem o_neX (hu : X.A.units + 64 < cLine) : OpR X (compareOp .NotEq) (neX X.K) := op_imp (op_ne.or ((op_neD hu).or (op_ne_dictA (by omega)))) fun x y H Q q => by
  unfold neX at q
  exact q
theorem o_eqS (hu : X.A.units + 64 < cLine) (hc : ∀ C ∈ cs, OEq X.K C) : OpR X (compareOp .Eq) (opEqS X.K cs) := op_imp ((o_eqX hu).or (op_eqS hu hc)) fun x y H Q q => by
  unfold opEqS at q
  split at q
  · exact .inl (eqX_of ⟨rfl, by rw [dI]; exact q⟩)
  · exact .inl (eqX_of ⟨rfl, by rw [dS]; exact q⟩)
  · exact .inl (eqX_of ⟨rfl, by rw [dB]; exact q⟩)
  · unfold eqXs at q
    exact q
theorem o_neS (hu : X.A.units + 64 < cLine) (hc : ∀ C ∈ cs, OEq X.K C) : OpR X (compareOp .NotEq) (opNeS X.K cs) := op_imp ((o_neX hu).or (op_neS hu hc)) fun x y H Q q => by
  unfold opNeS at q
  split at q
  · exact .inl (neX_of ⟨rfl, by rw [dI]; exact q⟩)
  · exact .inl (neX_of ⟨rfl, by rw [dS]; exact q⟩)
  · exact .inl (neX_of ⟨rfl, by rw [dB]; exact q⟩)
  · unfold neXs at q
    exact q
end
section
variable {K : PySem.W.Frag} {cs : List Addr} {x y : V} {H : Hp} {Q : VK}
theorem nes_old (q : neX K x y H Q) : neXs K cs x y H Q := by unfold neXs; exact .inl q
theorem nes_self {a : Addr} (h : SelfAt K cs H a) (q : Q (.bl false) H) : neXs K cs (.ref a) (.ref a) H Q := by unfold neXs; exact .inr ⟨a, rfl, rfl, h, q⟩
end
end MK

namespace MK
open PySem PySem.Spec PyProof.Rows L2

/-! ### items -/
@[irreducible] def ixX (K : PySem.W.Frag) : R2 := fun x y H Q => rIx K x y H Q ∨ ∃ a v, x = .ref a ∧ DGet H a y (some v) ∧ Q v H
section
variable {X : Cx} {a b o i e tg : Expr} {ta tb te to ti : TE} {pos : Pos}
theorem ix_dct (hu : X.A.units + 1 < cLine) : IxR X (fun x y H Q => ∃ a v, x = .ref a ∧ DGet H a y (some v) ∧ Q v H) := by
  intro vl sl pins s σ H x y v u Q I rx ry q hs
  obtain ⟨a, z, ex, g, q⟩ := q
  subst ex
  cases (show v = Value.ref a from rx)
  have hT := dict_typeIs I g
  unfold subscriptTail
  refine wpAny_bind ?_
  rw [getitemInPython_of_ne hT.not_modules]
  refine wpAny_bind (wpAny_specialOf hT PySem.F.slot_dict_getitem.lookup ?_)
  have h₂ : wpAny (model X.prog X.w) X.A (getItem (.ref a) u) (EP X pins σ Q) X.xe s := d_getItem hu I g ry fun w' s3 I3 rw' => ⟨z, H, I3, rw', q⟩
  have fin : wpAny (model X.prog X.w) X.A (subscripted sl false (.ref a) u) (fun r s₃ => wpAny (model X.prog X.w) X.A (letTemporaryGo vl (.ref a) r >>= fun _ => pure r) (EP X pins σ Q) X.xe s₃) X.xe s := by
    rw [hs]
    exact wpAny_operating (wpAny_mono h₂ (fun r s₃ h₃ => wpAny_bind (wpAny_letTemporaryGo (wpAny_pure h₃))) fun _ _ x => x)
  first
    | exact wpAny_pure (wpAny_bind fin)
    | exact wpAny_bind (wpAny_pure (wpAny_bind fin))
    | exact wpAny_bind fin
theorem o_ix (hu : X.A.units + 64 < cLine) : IxR X (ixX X.K) := by
  intro vl sl pins s σ H x y v u Q I rx ry q
  unfold ixX at q
  exact IxR.or ix_seq (ix_dct (by omega)) vl sl pins s σ H x y v u Q I rx ry q
theorem mix (hu : X.A.units + 64 < cLine) (ha : PE X a ta) (hb : PE X b tb) (hs : PlainIx b := by intro _ _; rfl) : PE X (.Subscript a b pos) (eB (ixX X.K) ta tb) := pe_ix (o_ix hu) ha hb hs
end
section
variable {K : PySem.W.Frag} {H : Hp} {Q : VK} {a p : Addr} {xs ys : List V} {x y v : V} {i : Int}
theorem ix_l (h : H a = some (.lst xs)) (e : atI xs i = some v) (q : Q v H) : ixX K (.ref a) (.int i) H Q := by
  unfold ixX
  exact .inl (.inl ⟨a, xs, i, v, rfl, rfl, SqL.of h, e, q⟩)
theorem ix_t (h : H a = some (.tup xs)) (e : atI xs i = some v) (q : Q v H) : ixX K (.ref a) (.int i) H Q := by
  unfold ixX
  exact .inl (.inr (.inl ⟨a, xs, i, v, rfl, rfl, SqT.of h, e, q⟩))
theorem ixd_k {kvs : List (Key × V)} {k : Key} (h : H a = some (.dK kvs)) (e : valV kvs k = some v) (q : Q v H) : ixX K (.ref a) (kV k) H Q := by
  unfold ixX
  exact .inr ⟨a, v, rfl, e ▸ DGet.k h, q⟩
theorem ixd_i {kvs : List (Key × V)} {n : Int} (h : H a = some (.dK kvs)) (e : valV kvs (.inl n) = some v) (q : Q v H) : ixX K (.ref a) (.int n) H Q := ixd_k (k := .inl n) h e q
theorem ixd_s {kvs : List (Key × V)} {z : Str} (h : H a = some (.dK kvs)) (e : valV kvs (.inr z) = some v) (q : Q v H) : ixX K (.ref a) (.str z) H Q := ixd_k (k := .inr z) h e q
/-! intro lemmas of the operations of MkVal -/
theorem len_l (h : H a = some (.lst xs)) (q : Q (.int (xs.length : Int)) H) : lenX K (.ref a) H Q := by
  unfold lenX
  exact .inl ⟨xs.length, .inl ⟨xs, SqL.of h, rfl⟩, q⟩
theorem len_t (h : H a = some (.tup xs)) (q : Q (.int (xs.length : Int)) H) : lenX K (.ref a) H Q := by
  unfold lenX
  exact .inl ⟨xs.length, .inr ⟨xs, SqT.of h, rfl⟩, q⟩
theorem list_l (h : H a = some (.lst xs)) (q : ∀ l, H l = none → Q (.ref l) (upd H l (.lst xs))) : listX K (.ref a) H Q := by
  unfold listX
  exact ⟨a, xs, rfl, .inl (SqL.of h), q⟩
theorem eq_d {d e : PyData} (hd : Dp K H x d) (he : Dp K H y e) (s1 : SeqAt.shaped d = true) (s2 : SeqAt.shaped e = true) (q : Q (.bl (PyData.eqv d e)) H) : eqX K x y H Q := by
  unfold eqX
  exact .inr (.inl ⟨d, e, hd, he, s1, s2, q⟩)
theorem ne_d {d e : PyData} (hd : Dp K H x d) (he : Dp K H y e) (s1 : SeqAt.shaped d = true) (s2 : SeqAt.shaped e = true) (q : Q (.bl (!PyData.eqv d e)) H) : neX K x y H Q := by
  unfold neX
  exact .inr (.inl ⟨d, e, hd, he, s1, s2, q⟩)
theorem ne_dk {b : Addr} {ks ls : List (Key × V)} (h : H a = some (.dK ks)) (h2 : H b = some (.dK ls)) (hl : ks.length = ls.length) (hv : ∀ p ∈ ks, valV ls p.1 = some p.2 ∧ flatB p.2 = true) (q : Q (.bl false) H) : neX K (.ref a) (.ref b) H Q := by
  unfold neX
  exact .inr (.inr ⟨a, b, ks, ls, rfl, rfl, h, h2, hl, hv, q⟩)
theorem repr_d {d : PyData} (h : Rp K H x d) (ok : RepOk d) (q : Q (.str d.shown) H) : reprX K x H Q := by
  unfold reprX
  exact ⟨d, h, ok, q⟩
end

/-! ### o[i] = v -/
@[irreducible] def setX (o i v : V) (H : Hp) (Q : Hp → Prop) : Prop := rSetL o i v H Q ∨ rSetD o i v H Q
def sSetI (te to ti : TE) : TS := fun D σ H => te σ H fun v H1 => to σ H1 fun o H2 => ti σ H2 fun i H3 => setX o i v H3 fun H4 => D.nx σ H4
theorem set_dk {H : Hp} {Q : Hp → Prop} {a : Addr} {kvs : List (Key × V)} {k : Key} {v : V} (h : H a = some (.dK kvs)) (z : kvs.length < 16777216) (q : Q (upd H a (.dK (putK kvs k v)))) : setX (.ref a) (kV k) v H Q := by
  unfold setX
  exact .inr ⟨a, _, rfl, DPut.k h (by rw [sizeLine_eq]; exact z), q⟩
section
variable {X : Cx} {o i e : Expr} {te to ti : TE} {pos p2 : Pos}
theorem mseti (hu : X.A.units + 64 < cLine) (he : PE X e te) (ho : PE X o to) (hi : PE X i ti)
    (ha : ∀ v, assign (.Subscript o i p2) X.env v = (do
      let ov ← holding [v] (eval o X.env)
      let iv ← holding [v, ov] (eval i X.env)
      standAt p2
      holding [v, ov, iv] (setItem ov iv v)
      release [v, ov, iv] []) := by intro _; rfl)
    (hs : swapsWithSole [.Subscript o i p2] e pos.line X.env = pure false := by rfl) (hw : swappedStores [.Subscript o i p2] e X.env = pure none := by rfl)
    (h1 : (assignEach [.Subscript o i p2] X.env).map (·.2) = [assign (.Subscript o i p2) X.env] := by rfl) : PS X (.Assign [.Subscript o i p2] e pos) (sSetI te to ti) := by
  have hp : PSet X setX := fun pins s σ H o i v ov iv u Q I r1 r2 r3 q => by
    unfold setX at q
    rcases q with q | q
    · exact set_list pins s σ H o i v ov iv u Q I r1 r2 r3 q
    · exact set_dict (by omega) pins s σ H o i v ov iv u Q I r1 r2 r3 q
  exact ps_asg he (pg_sub ho hi hp ha) hs hw h1
end

/-! ### targets -/
def gN (i : Nat) : TG := fun v σ H Q => Q (sput σ i v) H
theorem gN_eq (i : Nat) : gN i = gName i := by
  funext v σ H Q
  unfold gN gName
  rw [sput_eq]
def sputs : L2.St → List Nat → List V → L2.St
  | σ, i :: is, v :: vs => sputs (sput σ i v) is vs
  | σ, _, _ => σ
def gNs : List Nat → TGs
  | [] => gNil
  | i :: is => gCons (gN i) (gNs is)
theorem gNs_ok {Q : L2.St → Hp → Prop} {H : Hp} : ∀ {is : List Nat} {vs : List V} {σ : L2.St}, is.length = vs.length → Q (sputs σ is vs) H → gNs is vs σ H Q
  | [], [], _, _, q => ⟨rfl, q⟩
  | i :: is, v :: vs, σ, h, q => ⟨v, vs, rfl, gNs_ok (is := is) (Nat.succ.inj h) q⟩
/-- a, b, .. = a tuple or a list of that length -/
@[irreducible] def unpX (K : PySem.W.Frag) (is : List Nat) (v : V) (σ : L2.St) (H : Hp) (Q : L2.St → Hp → Prop) : Prop :=
  ∃ a xs, v = .ref a ∧ (SqT K H a xs ∨ SqL K H a xs) ∧ is.length = xs.length ∧ Q (sputs σ is xs) H
def gU (K : PySem.W.Frag) (is : List Nat) : TG := fun v σ H Q => unpX K is v σ H Q
section
variable {X : Cx} {e tg : Expr} {es : List Expr} {te : TE} {pos : Pos}
theorem mgn {i : Nat} {x : Str} (hN : X.N.Nodup) (hi : X.N[i]? = some x) (hx : Loc X.env.scope x) (hf : X.fn x = true ∨ X.env.scope.names.lookup x = some .local := by first | exact .inl rfl | exact .inr rfl | assumption) : PG X (.Name x pos) (gN i) := by
  rw [gN_eq]
  exact pg_name hN hi hx hf
theorem mg0 : PGs X [] (gNs []) := pgs_nil
theorem mg1 {i : Nat} {is : List Nat} (h1 : PG X e (gN i)) (h2 : PGs X es (gNs is)) (hs : (assignEach (e :: es) X.env).map (·.2) = assign e X.env :: (assignEach es X.env).map (·.2) := by rfl) : PGs X (e :: es) (gNs (i :: is)) := pgs_cons h1 h2 hs
theorem mgu {is : List Nat} {k : Nat} (hc : X.calm = true) (h : PGs X es (gNs is)) (hn : (assignEach es X.env).length = is.length := by rfl) (hst : (assignEach es X.env).findIdx? (·.1) = none := by rfl) :
    PG X (.Tuple es k pos) (gU X.K is) := by
  constructor
  intro pins s σ H v u Q I r hw
  unfold gU unpX at hw
  obtain ⟨a, xs, e1, hq, hl, q⟩ := hw
  rcases hq with hq | hq
  · exact (pg_tup hc h hn hst).run pins s σ H v u Q I r ⟨a, xs, e1, hq, hl.symm, gNs_ok hl q⟩
  · exact (pg_unl hc h hn hst).run pins s σ H v u Q I r ⟨a, xs, e1, hq, hl.symm, gNs_ok hl q⟩
def sAsg (te : TE) (g : TG) : TS := fun D σ H => te σ H fun x H1 => g x σ H1 D.nx
theorem masg {g : TG} (he : PE X e te) (hg : PG X tg g) (hs : swapsWithSole [tg] e pos.line X.env = pure false := by rfl) (hw : swappedStores [tg] e X.env = pure none := by rfl)
    (h1 : (assignEach [tg] X.env).map (·.2) = [assign tg X.env] := by rfl) : PS X (.Assign [tg] e pos) (sAsg te g) := ps_asg he hg hs hw h1
end
theorem unp_t {K : PySem.W.Frag} {is : List Nat} {a : Addr} {σ : L2.St} {H : Hp} {Q : L2.St → Hp → Prop} {xs : List V} (h : H a = some (.tup xs)) (hl : is.length = xs.length) (q : Q (sputs σ is xs) H) : unpX K is (.ref a) σ H Q := by
  unfold unpX
  exact ⟨a, xs, rfl, .inl (SqT.of h), hl, q⟩
/-! ### what is walked -/
@[irreducible] def iterX (K : PySem.W.Frag) (x : V) (H : Hp) (R : It → Hp → Prop) : Prop :=
  (∃ a, x = .ref a ∧ (∃ xs, SqL K H a xs) ∧ R (Itl K a) H) ∨ (∃ a, x = .ref a ∧ (∃ xs, SqT K H a xs) ∧ R (Itt K a) H) ∨ ∃ z, x = .str z ∧ R (Its z) H
def iV (K : PySem.W.Frag) (tl : TE) : TI := fun σ H R => tl σ H fun x H1 => iterX K x H1 R
def rngOk (i : Int) : Prop := -4611686018427387904 ≤ i ∧ i < 4611686018427387904
theorem e62 : (2 : Int) ^ 62 = 4611686018427387904 := by decide
def iR1 (ta : TA) : TI := fun σ H R => ta σ H fun vs H1 => match vs with
  | [.int j] => rngOk j ∧ R (Itr 0 j.toNat) H1
  | _ => False
section
variable {X : Cx} {tg : Expr}
theorem miv {l : Expr} {tl : TE} (hl : PE X l tl) : PI X tg l (iV X.K tl) := by
  constructor
  intro pins s σ H R I h
  refine thn (hl.run pins s σ H _ I h) ?_
  rintro v s1 ⟨x, H1, I1, r1, q1⟩
  unfold iterX at q1
  rcases q1 with ⟨a, ex, ⟨xs, hq⟩, q⟩ | ⟨a, ex, ⟨xs, hq⟩, q⟩ | ⟨z, ex, q⟩
  · subst ex
    cases (show v = Value.ref a from r1)
    obtain ⟨its, rv, p, hz⟩ := I1.list hq
    exact wpAny_pyIter_list p.isList (pi_one (tk := s1.toks) I1 _ (turn_list a _) ⟨_, Heap.get?_push_size _ rfl, rfl, rfl⟩ q)
  · subst ex
    cases (show v = Value.ref a from r1)
    obtain ⟨its, rv, p, hz⟩ := I1.tuple hq
    exact wpAny_pyIter_tuple (show s1.heap.IsTuple a its.toArray from p) (pi_one (tk := s1.toks) I1 _ (turn_tuple a _) ⟨_, Heap.get?_push_size _ rfl, rfl, rfl⟩ q)
  · subst ex
    obtain ⟨t, rfl⟩ := r1
    cases ha : z.cps.all (· < 128)
    · exact wpAny_pyIter_wide ha (pi_one (tk := s1.toks) I1 _ (turn_str _ z t "str_iterator" (.inr rfl)) ⟨_, Heap.get?_push_size _ rfl, rfl, rfl⟩ q)
    · exact wpAny_pyIter_ascii ha (pi_one (tk := s1.toks) I1 _ (turn_str _ z t "str_ascii_iterator" (.inl rfl)) ⟨_, Heap.get?_push_size _ rfl, rfl, rfl⟩ q)
theorem pi_rng {iter : Expr} {ta : TA} {wi wi' : (List V → Hp → (It → Hp → Prop) → Prop)} (h : PI X tg iter (fun σ H R => ta σ H fun vs H1 => wi vs H1 R)) (e : wi' = wi) : PI X tg iter (fun σ H R => ta σ H fun vs H1 => wi' vs H1 R) := e ▸ h
theorem mr1 {a : Expr} {ta : TA} {p pos : Pos} (hg : Gl X "range") (hm : X.mg "range" = none) (ha : PA X [a] ta) (hs : starEach [a] X.env = [(false, eval a X.env)] := by rfl) : PI X tg (.Call (.Name "range" p) [a] [] pos) (iR1 ta) := by
  refine pi_rng (pi_range1 hg hm ha hs) ?_
  funext vs H1 R
  apply propext
  constructor
  · intro q
    split at q
    · exact ⟨_, rfl, by rw [e62]; exact q.1.1, by rw [e62]; exact q.1.2, q.2⟩
    · exact q.elim
  · rintro ⟨j, e, a, b, q⟩
    subst e
    rw [e62] at a b
    exact ⟨⟨a, b⟩, q⟩
end

/-! ### loops -/
@[irreducible] def Loop (J : It) (g : TG) (tb : TS) (D : Ends) (σ : L2.St) (H1 : Hp) : Prop := ∃ W : Nat → Nat → L2.St → Hp → Prop, (∃ m, W 0 m σ H1) ∧ ∀ i m σ H, W i m σ H →
  (J.stop i H ∧ D.nx σ H) ∨ (J.go i H ∧ ∃ N : L2.St → Hp → Prop, (∀ σ' H', N σ' H' → ∃ m', m' < m ∧ W (i + 1) m' σ' H') ∧ ∀ x H', J.yld i H x H' → g x σ H' fun σ2 H2 => tb { D with nx := N, ct := N, bk := D.nx } σ2 H2)
def sFor (wi : TI) (g : TG) (tb : TS) : TS := fun D σ H => wi σ H fun J H1 => Loop J g tb D σ H1
theorem sFor_eq (wi : TI) (g : TG) (tb : TS) : sFor wi g tb = tFor wi g tb := by
  funext D σ H
  unfold sFor Loop tFor
  rfl
@[irreducible] def LoopC (J : It) (g : TG) (tt : TT) (te : TE) (vs : List Nat) (σ : L2.St) (D : Addr) (H1 : Hp) (Q : VK) : Prop := ∃ W : Nat → Nat → Hp → Prop, (∃ m, W 0 m (upd H1 D (.lst []))) ∧ ∀ i m H, W i m H →
  (J.stop i H ∧ Q (.ref D) H) ∨ (J.go i H ∧ ∃ Nx : Hp → Prop, (∀ H', Nx H' → ∃ m', m' < m ∧ W (i + 1) m' H') ∧ ∀ x H', J.yld i H x H' → g x (wipe σ vs) H' fun σ2 H2 => wipe σ2 vs = wipe σ vs ∧ tt σ2 H2 fun b H3 =>
    if b = true then te σ2 H3 fun y H4 => ∃ acc, H4 D = some (.lst acc) ∧ acc.length < sizeLine ∧ Nx (upd H4 D (.lst (acc ++ [y]))) else Nx H3)
def eLc (wi : TI) (g : TG) (tt : TT) (te : TE) (vs : List Nat) : TE := fun σ H Q => wi σ H fun J H1 => ∀ D, H1 D = none → LoopC J g tt te vs σ D H1 Q
theorem eLc_eq (wi : TI) (g : TG) (tt : TT) (te : TE) (vs : List Nat) : eLc wi g tt te vs = tLc wi g tt te vs := by
  funext σ H Q
  unfold eLc LoopC tLc
  rfl
section
variable {X : Cx} {iter tg elt : Expr} {body : List Stmt} {ifs : List Expr} {wi : TI} {g : TG} {tb : TS} {tt : TT} {te : TE} {pos : Pos} {scope : Scope} {own : List (Str × Nat)}
theorem mfor (hp : PassesOwn (model X.prog X.w) X.A X.env X.xe) (hc : X.calm = true) (hi : PI X tg iter wi) (hg : PG X tg g) (hb : PSs X body tb) (hs : ∀ x, foldedSetIterable iter X.env x = pure x := by intro _; rfl) :
    PS X (.For tg iter body [] pos) (sFor wi g tb) := by
  rw [sFor_eq]
  exact ps_for hp hc hi hg hb hs
theorem mlc (hc : X.calm = true) (hN : X.N.Nodup) (hi : PI X tg iter wi) (ok : BlkOk X.N X.env.scope scope own)
    (hg : ∀ (s : Shared) (H : Hp) (C : Addr) (cl : List (Str × Addr)) (fp : List Addr), PG (X.blk s H scope (compEnvC scope cl C X.env) fp) tg g) (ht : ∀ (s : Shared) (H : Hp) (C : Addr) (cl : List (Str × Addr)) (fp : List Addr), PTs (X.blk s H scope (compEnvC scope cl C X.env) fp) ifs tt)
    (he : ∀ (s : Shared) (H : Hp) (C : Addr) (cl : List (Str × Addr)) (fp : List Addr), PE (X.blk s H scope (compEnvC scope cl C X.env) fp) elt te) (hs : ∀ x, foldedSetIterable iter X.env x = pure x := by intro _; rfl) :
    PE X (.ListComp elt [⟨tg, iter, ifs, 0⟩] scope pos) (eLc wi g tt te (own.map (·.2))) := by
  rw [eLc_eq]
  exact pe_lc hc hN hi ok hg ht he hs
end

/-! ### while -/
@[irreducible] def sWhile (c : TT) (tb : TS) : TS := fun D σ H => ∃ W : Nat → L2.St → Hp → Prop, (∃ m, W m σ H) ∧ ∀ m σ H, W m σ H →
  c σ H fun b H1 => cond b (tb { D with nx := fun σ' H' => ∃ m', m' < m ∧ W m' σ' H', ct := fun σ' H' => ∃ m', m' < m ∧ W m' σ' H', bk := D.nx } σ H1) (D.nx σ H1)
theorem mwhile {X : Cx} {pos : Pos} {c : Expr} {body : List Stmt} {tc : TT} {tb : TS} (hp : PassesOwn (model X.prog X.w) X.A X.env X.xe) (hc : PT X c tc) (hb : PSs X body tb) : PS X (.While c body [] pos) (sWhile tc tb) := by
  constructor
  intro pins s σ H D I h
  unfold sWhile at h
  obtain ⟨W, ⟨m0, w0⟩, turn⟩ := h
  refine wpAny_While (codeAny_whileLoop (fun n s' => ∃ σ' H', Inv X pins σ' H' s' ∧ W n σ' H') ?_ m0 ⟨σ, H, I, w0⟩)
  rintro n s1 ⟨σ1, H1, I1, w1⟩
  refine wpAny_passesOwn hp (thn (hc.run pins s1 σ1 H1 _ I1 (turn n σ1 H1 w1)) ?_)
  rintro k s2 ⟨H2, I2, q2⟩
  cases k with
  | false =>
    rw [if_neg Bool.false_ne_true]
    exact wpAny_execs_nil ⟨σ1, H2, I2, q2⟩
  | true =>
    rw [if_pos rfl]
    refine wpAny_passesOwn hp (thn (hb.run pins s2 σ1 H2 _ I2 q2) ?_)
    intro f s3 q3
    cases f with
    | ret v => exact q3
    | brk => exact q3
    | next =>
      obtain ⟨σ3, H3, I3, m', hm, w3⟩ := q3
      exact ⟨m', hm, σ3, H3, I3, w3⟩
    | cont =>
      obtain ⟨σ3, H3, I3, m', hm, w3⟩ := q3
      exact ⟨m', hm, σ3, H3, I3, w3⟩
/-- a while by what holds and what falls -/
theorem while_i {c : TT} {tb : TS} {D : Ends} {σ : L2.St} {H : Hp} (Pv : Nat → L2.St → Hp → Prop) (m : Nat) (h0 : Pv m σ H)
    (hs : ∀ m σ H, Pv m σ H → c σ H fun b H1 => cond b (tb { D with nx := fun σ' H' => ∃ m', m' < m ∧ Pv m' σ' H', ct := fun σ' H' => ∃ m', m' < m ∧ Pv m' σ' H', bk := D.nx } σ H1) (D.nx σ H1)) : sWhile c tb D σ H := by
  unfold sWhile
  exact ⟨Pv, ⟨m, h0⟩, hs⟩

/-! ### loops by their invariants -/
section
variable {K : PySem.W.Frag} {g : TG} {tb : TS} {D : Ends} {σ : L2.St} {H : Hp} {J : It} {n : Nat} {G : Hp → Prop} {Y : Nat → Hp → V → Hp → Prop} {tt : TT} {te : TE} {vs : List Nat} {Da : Addr} {Q : VK}
theorem Loop.it (w : Walk J n G Y) (Pv : Nat → L2.St → Hp → Prop) (h0 : Pv 0 σ H) (hG : ∀ i σ H, i ≤ n → Pv i σ H → G H)
    (hs : ∀ i x σ H H', i < n → Pv i σ H → Y i H x H' → g x σ H' fun σ2 H2 => tb { D with nx := Pv (i + 1), ct := Pv (i + 1), bk := D.nx } σ2 H2) (hd : ∀ σ H, Pv n σ H → D.nx σ H) : Loop J g tb D σ H := by
  unfold Loop
  exact for_it w Pv h0 hG hs hd
theorem Loop.range {lo : Int} {n : Nat} (Pv : Nat → L2.St → Hp → Prop) (h0 : Pv 0 σ H)
    (hs : ∀ i σ H, i < n → Pv i σ H → g (.int (lo + i)) σ H fun σ2 H2 => tb { D with nx := Pv (i + 1), ct := Pv (i + 1), bk := D.nx } σ2 H2) (hd : ∀ σ H, Pv n σ H → D.nx σ H) : Loop (Itr lo n) g tb D σ H := by
  unfold Loop
  exact for_range Pv h0 hs hd
theorem Loop.list {a : Addr} {xs : List V} (Pv : Nat → L2.St → Hp → Prop) (h0 : Pv 0 σ H) (hl : ∀ i σ H, i ≤ xs.length → Pv i σ H → SqL K H a xs)
    (hs : ∀ i x σ H, xs[i]? = some x → Pv i σ H → g x σ H fun σ2 H2 => tb { D with nx := Pv (i + 1), ct := Pv (i + 1), bk := D.nx } σ2 H2) (hd : ∀ σ H, Pv xs.length σ H → D.nx σ H) : Loop (Itl K a) g tb D σ H := by
  unfold Loop
  exact for_list Pv h0 hl hs hd
theorem Loop.tup {a : Addr} {xs : List V} (Pv : Nat → L2.St → Hp → Prop) (h0 : Pv 0 σ H) (hl : ∀ i σ H, i ≤ xs.length → Pv i σ H → SqT K H a xs)
    (hs : ∀ i x σ H, xs[i]? = some x → Pv i σ H → g x σ H fun σ2 H2 => tb { D with nx := Pv (i + 1), ct := Pv (i + 1), bk := D.nx } σ2 H2) (hd : ∀ σ H, Pv xs.length σ H → D.nx σ H) : Loop (Itt K a) g tb D σ H := by
  unfold Loop
  exact for_tup Pv h0 hl hs hd
theorem LoopC.it (w : Walk J n G Y) (Pv : Nat → Hp → Prop) (h0 : Pv 0 (upd H Da (.lst []))) (hG : ∀ i H, i ≤ n → Pv i H → G H)
    (hs : ∀ i x H H', i < n → Pv i H → Y i H x H' → g x (wipe σ vs) H' fun σ2 H2 => wipe σ2 vs = wipe σ vs ∧ tt σ2 H2 fun b H3 =>
      if b = true then te σ2 H3 fun y H4 => ∃ acc, H4 Da = some (.lst acc) ∧ acc.length < sizeLine ∧ Pv (i + 1) (upd H4 Da (.lst (acc ++ [y]))) else Pv (i + 1) H3) (hd : ∀ H, Pv n H → Q (.ref Da) H) : LoopC J g tt te vs σ Da H Q := by
  unfold LoopC
  exact lc_it (Qd := fun H => Q (.ref Da) H) w Pv h0 hG hs hd
end
section
variable {K : PySem.W.Frag} {H : Hp} {R : It → Hp → Prop} {a : Addr} {xs : List V} {z : Str}
theorem it_l (h : H a = some (.lst xs)) (q : R (Itl K a) H) : iterX K (.ref a) H R := by
  unfold iterX
  exact .inl ⟨a, rfl, ⟨xs, SqL.of h⟩, q⟩
end

/-! ### isinstance of built-in types -/
inductive Ty where
  | none | bool | int | str | list | tuple | dict
  deriving DecidableEq
def Ty.nm : Ty → String
  | .none => "NoneType" | .bool => "bool" | .int => "int" | .str => "str" | .list => "list" | .tuple => "tuple" | .dict => "dict"
def Ty.is : Ty → Ty → Bool
  | .none, .none => true | .bool, .bool => true | .bool, .int => true | .int, .int => true | .str, .str => true | .list, .list => true | .tuple, .tuple => true | .dict, .dict => true
  | _, _ => false
theorem Ty.kit (K : PySem.W.Frag) (t : Ty) (T : Ty) (h : T ≠ .none) : PySem.W.kitOne K (.type t.nm) (.type T.nm) = some (t.is T) := by
  cases T with
  | none => exact absurd rfl h
  | bool => cases t <;> exact kit_ty (by decide +kernel)
  | int => cases t <;> exact kit_ty (by decide +kernel)
  | str => cases t <;> exact kit_ty (by decide +kernel)
  | list => cases t <;> exact kit_ty (by decide +kernel)
  | tuple => cases t <;> exact kit_ty (by decide +kernel)
  | dict => cases t <;> exact kit_ty (by decide +kernel)
/-- instances of the class at C are asked by isinstance as they are -/
structure IsC (K : PySem.W.Frag) (C : Addr) : Prop where
  ha : PySem.W.findIn K (.ref C) "__class__" = some (some (.builtin "object.__class__"))
  hn : PySem.W.specialIn K (.builtin "object.__class__") "__get__" = some (some (.builtin "getset_descriptor.__get__"))
  ht : PySem.W.takesIn K (.builtin "object.__class__") = some true
  hm : PySem.W.mroIn K C (.type "object") = some true
/-- the class at C is none of some built-in types -/
structure InsT (K : PySem.W.Frag) (T : List Ty) (C : Addr) : Prop where
  cl : Cls K C
  is : IsC K C
  no : ∀ u ∈ T, PySem.W.kitOne K (.ref C) (.type u.nm) = some false
theorem InsT.any {K : PySem.W.Frag} {C : Addr} : ∀ {T : List Ty}, (∀ u ∈ T, PySem.W.kitOne K (.ref C) (.type u.nm) = some false) → PySem.W.kitAny K (.ref C) (T.map fun u => Value.type u.nm) = some false
  | [], _ => rfl
  | u :: T, h => by
    show (match PySem.W.kitOne K (.ref C) (.type u.nm) with
      | some true => some true
      | some false => PySem.W.kitAny K (.ref C) (T.map fun (u : Ty) => Value.type u.nm)
      | none => none) = _
    rw [h u List.mem_cons_self]
    exact InsT.any fun v hv => h v (List.mem_cons_of_mem _ hv)
@[irreducible] def isiX (K : PySem.W.Frag) (T : List Ty) (tb : List Addr) (x : V) (H : Hp) (Q : VK) : Prop := (∃ t : Ty, TyX K H x (.type t.nm) ∧ Q (.bl (T.any fun u => t.is u)) H) ∨ ∃ a C dx fs, x = .ref a ∧ C ∈ tb ∧ H a = some (.ins C dx fs) ∧ Q (.bl false) H
def isiV (K : PySem.W.Frag) (T : List Ty) (tb : List Addr) : V → Hp → VK → Prop := fun x H Q => match x with
  | .non => Q (.bl (T.any fun u => Ty.none.is u)) H
  | .bl _ => Q (.bl (T.any fun u => Ty.bool.is u)) H
  | .int _ => Q (.bl (T.any fun u => Ty.int.is u)) H
  | .str _ => Q (.bl (T.any fun u => Ty.str.is u)) H
  | x => isiX K T tb x H Q
section
variable {K : PySem.W.Frag} {T : List Ty} {tb : List Addr} {H : Hp} {Q : VK} {a : Addr} {xs : List V}
theorem isiV_x {x : V} (q : isiV K T tb x H Q) : isiX K T tb x H Q := by
  unfold isiV at q
  unfold isiX
  split at q
  · exact .inl ⟨.none, .base .non, q⟩
  · exact .inl ⟨.bool, .base (.bl _), q⟩
  · exact .inl ⟨.int, .base (.int _), q⟩
  · exact .inl ⟨.str, .base (.str _), q⟩
  · unfold isiX at q
    exact q
theorem isi_l (h : H a = some (.lst xs)) (q : Q (.bl (T.any fun u => Ty.list.is u)) H) : isiX K T tb (.ref a) H Q := by
  unfold isiX
  exact .inl ⟨.list, .base (.lst h), q⟩
theorem isi_t (h : H a = some (.tup xs)) (q : Q (.bl (T.any fun u => Ty.tuple.is u)) H) : isiX K T tb (.ref a) H Q := by
  unfold isiX
  exact .inl ⟨.tuple, .base (.tup h), q⟩
theorem isi_d {kvs : List (Key × V)} (h : H a = some (.dK kvs)) (q : Q (.bl (T.any fun u => Ty.dict.is u)) H) : isiX K T tb (.ref a) H Q := by
  unfold isiX
  exact .inl ⟨.dict, .base (.dK h), q⟩
theorem isi_i {C dx : Addr} {fs : List (Str × V)} (h : H a = some (.ins C dx fs)) (hm : C ∈ tb) (q : Q (.bl false) H) : isiX K T tb (.ref a) H Q := by
  unfold isiX
  exact .inr ⟨a, C, dx, fs, rfl, hm, h, q⟩
end
section
variable {X : Cx} {e c : Expr} {te : TE} {pos p p2 p3 p4 : Pos} {tn tn2 : Str}
/-- isinstance(x, T) -/
def cIsi (K : PySem.W.Frag) (T : Ty) (tb : List Addr) : List V → Hp → VK → Prop := fun xs H Q => match xs with
  | [x, c] => c = .ty T.nm ∧ isiV K [T] tb x H Q
  | _ => False
theorem k_isi {T : Ty} {tb : List Addr} (hT : T ≠ .none) (hb : ∀ C ∈ tb, InsT X.K [T] C) : CallR X (.builtin "isinstance") (cIsi X.K T tb) := call_imp call_isi fun xs H Q q => by
  unfold cIsi at q
  split at q
  · rename_i x c
    obtain ⟨e, q⟩ := q
    subst e
    have q := isiV_x q
    unfold isiX at q
    rcases q with ⟨t, h, q2⟩ | ⟨a, C, dx, fs, e, hm, ea, q2⟩
    · refine ⟨x, .ty T.nm, .type t.nm, .type T.nm, t.is T, rfl, .ty _, h, Ty.kit X.K t T hT, ?_⟩
      simpa using q2
    · subst e
      have i := hb C hm
      exact ⟨.ref a, .ty T.nm, .ref C, .type T.nm, false, rfl, .ty _, .base (.ins ea i.cl i.is.ha i.is.hn i.is.ht i.is.hm), i.no T List.mem_cons_self, q2⟩
  · exact q.elim
theorem it0 {K : PySem.W.Frag} {T : List Ty} : ∀ C ∈ ([] : List Addr), InsT K T C := fun _ z => nomatch z
theorem it1 {K : PySem.W.Frag} {T : List Ty} {C : Addr} {tb : List Addr} (h : InsT K T C) (t : ∀ C ∈ tb, InsT K T C) : ∀ D ∈ C :: tb, InsT K T D := fun D hD => by
  rcases List.mem_cons.mp hD with e | e
  · rw [e]
    exact h
  · exact t D e
theorem no0 {K : PySem.W.Frag} {C : Addr} : ∀ u ∈ ([] : List Ty), PySem.W.kitOne K (.ref C) (.type u.nm) = some false := fun _ z => nomatch z
theorem no1 {K : PySem.W.Frag} {C : Addr} {u : Ty} {T : List Ty} (h : PySem.W.kitOne K (.ref C) (.type u.nm) = some false) (t : ∀ u ∈ T, PySem.W.kitOne K (.ref C) (.type u.nm) = some false) : ∀ v ∈ u :: T, PySem.W.kitOne K (.ref C) (.type v.nm) = some false := fun v hv => by
  rcases List.mem_cons.mp hv with e | e
  · rw [e]
    exact h
  · exact t v e
end
end MK

namespace MK
open PySem PySem.Spec PyProof.Rows L2
/-- the script: a list of ints that no one changes -/
def KL (K : PySem.W.Frag) (a : Addr) (xs : List V) : Prop := ∃ (o : Obj) (its : Array Value) (n : Nat), K.lookup a = some o ∧ o.cls = .type "list" ∧ o.dict = none ∧ o.data = .seq its n ∧ its.size ≤ sizeLine ∧ Vals xs its.toList
def scr (K : PySem.W.Frag) (a : Addr) (xs : List V) : SP where
  P := fun H A => A = [] ∧ ((∃ o, H a = some (.frz o (.lst xs))) ∨ KL K a xs)
  dom := fun H A h b hb => by
    rw [h.1] at hb
    cases hb
  st := fun H H' A h _ k => ⟨h.1, h.2.imp (fun ⟨o, z⟩ => ⟨o, by rw [k a (by rw [z]; exact True.intro), z]⟩) fun z => z⟩
theorem Star.getS {K : PySem.W.Frag} {H : Hp} {a : Addr} {xs : List V} {ps : List SP} (S : Star H (scr K a xs :: ps)) : SqL K H a xs := by
  obtain ⟨A1, A2, _, ⟨_, h⟩, _⟩ := Star.split.mp S
  rcases h with ⟨o, z⟩ | z
  · exact .inl (.inr ⟨o, z⟩)
  · exact .inr z
theorem ix_q {K : PySem.W.Frag} {H : Hp} {Q : VK} {a : Addr} {xs : List V} {v : V} {i : Int} (h : SqL K H a xs) (e : atI xs i = some v) (q : Q v H) : ixX K (.ref a) (.int i) H Q := by
  unfold ixX
  exact .inl (.inl ⟨a, xs, i, v, rfl, rfl, h, e, q⟩)
theorem len_q {K : PySem.W.Frag} {H : Hp} {Q : VK} {a : Addr} {xs : List V} (h : SqL K H a xs) (q : Q (.int (xs.length : Int)) H) : lenX K (.ref a) H Q := by
  unfold lenX
  exact .inl ⟨xs.length, .inl ⟨xs, h, rfl⟩, q⟩
section
variable {P : Program} {w : World} {K : PySem.W.Frag} {mg mb : Str → Option Value} {k : Nat} {fa a : Addr} {fd : FuncData} {x : Str} {sp : Sp} {s1 : Shared} {vs : List Value} {ns : List Int}
/-- the law's def is called, the script told by H -/
theorem law_core {H : Hp} (KX : K.In s1.heap) (hns : s1.heap.Ns mainGlobals mg) (hb : s1.heap.Ns builtinsNs mb) (hbb : ∀ x : Str, x ≠ "__name__" → mb x = bootBuiltins x) (hlim : s1.heap.NoLimit) (hg : s1.gens = #[]) (hr : Room k callerA)
    (F : ∀ base : Heap, K.In base → base.Ns mainGlobals mg → FnG P w K mg base k fa fd [x] sp) (hbind : ∀ (s : Shared) (u : Value), BindsTo s fd ⟨[u], []⟩ [(x, u)])
    (hsp : sp [.ref a] H (fun v _ => v = .bl true) (fun _ _ _ => False)) (hok : HOk P w H s1.heap) (only : ∀ b, H b ≠ none → b = a ∧ K.lookup a = none ∧ ∃ o xs, H a = some (.frz o (.lst xs))) :
    codeAny (model P w) callerA (.call (.ref fa) ⟨[.ref a], []⟩) (fun r s' => r = .ok (.ret (.bool true)) ∧ OldK s1.heap s'.heap ∧ s'.os = s1.os ∧ AllBare s'.gens) s1 := by
  have free : ∀ {b : Addr} {o : Obj}, s1.heap.get? b = some o → (∀ xs n, o.data ≠ .seq xs n) → H b = none := by
    intro b o e d
    cases q : H b with
    | none => rfl
    | some u =>
      obtain ⟨eb, _, ob, xs, z⟩ := only b (by rw [q]; simp)
      subst eb
      obtain ⟨h1, h2⟩ := hok _ _ z
      obtain ⟨_, its, n, _, h3⟩ := h2
      rw [e] at h3
      cases h3
      exact absurd rfl (d _ _)
  have inB : ∀ {b : Addr} {o : Obj}, s1.heap.get? b = some o → H b = none → (hidT s1.heap H).get? b = some o := fun e n => hidT_get e n
  have nsB : ∀ {b : Addr} {m : Str → Option Value}, s1.heap.Ns b m → (hidT s1.heap H).Ns b m := by
    rintro b m ⟨o, es, ep, e, d, r⟩
    exact ⟨o, es, ep, inB e (free e fun xs n z => by rw [d] at z; cases z), d, r⟩
  have kB : K.In (hidT s1.heap H) := fun b o e => inB (KX b o e) (by
    cases q : H b with
    | none => rfl
    | some u =>
      obtain ⟨eb, hk, _⟩ := only b (by rw [q]; simp)
      subst eb
      rw [hk] at e
      cases e)
  have M : Mod K mg (hidT s1.heap H) := by
    obtain ⟨mc, h1, h2⟩ := hlim
    exact ⟨kB, nsB hns, ⟨mb, nsB hb, hbb⟩, ⟨mc, nsB h1, h2⟩⟩
  have e0 : Env0 P w K mg (hidT s1.heap H) callerA [] s1 H :=
    ⟨rfl, M, fun b o e => of_hidT e, Nat.le_of_eq (hidT_size _ _), trivial, fun b z => absurd (show b ∈ ([] : List Addr) from z) (by simp), hok, .of_eq hg⟩
  have run := (F _ kB (nsB hns)).run callerA [] s1 H ⟨[.ref a], []⟩ [.ref a] [.ref a] _ _ hr rfl e0 (hbind s1 (.ref a)) (.cons rfl .nil) hsp
  refine codeAny_mono run ?_
  intro r s' h
  rcases r with e | (_ | _ | _ | u)
  · obtain ⟨_, _, _, _, _, _, _, _, _, _, _, _, z⟩ := h
    exact z.elim
  · exact h.elim
  · exact h.elim
  · exact h.elim
  · obtain ⟨v, H', os, bare, un, hok', r', q⟩ := h
    have q' : v = .bl true := q
    subst q'
    cases (show u = Value.bool true from r')
    refine ⟨rfl, OldK.of_keep ?_, os, bare⟩
    intro b o e
    cases q : H b with
    | none => exact un.keep b o e q (fun z => absurd (show b ∈ ([] : List Addr) from z) (by simp)) (by simp)
    | some u =>
      obtain ⟨eb, _, ob, xs, z⟩ := only b (by rw [q]; simp)
      subst eb
      obtain ⟨e1, _⟩ := hok _ _ z
      obtain ⟨e2, _⟩ := hok' _ _ (un.frzs _ ob _ z)
      rw [e] at e1
      cases e1
      exact e2
theorem law_end (KX : K.In s1.heap) (hns : s1.heap.Ns mainGlobals mg) (hb : s1.heap.Ns builtinsNs mb) (hbb : ∀ x : Str, x ≠ "__name__" → mb x = bootBuiltins x) (hlim : s1.heap.NoLimit) (hg : s1.gens = #[])
    (ha : s1.heap.get? a = some { cls := .type "list", data := .seq vs.toArray }) (hi : IntsAre vs ns) (hl : ns.length ≤ sizeLine) (hr : Room k callerA)
    (F : ∀ base : Heap, K.In base → base.Ns mainGlobals mg → FnG P w K mg base k fa fd [x] sp) (hbind : ∀ (s : Shared) (u : Value), BindsTo s fd ⟨[u], []⟩ [(x, u)])
    (hsp : ∀ H : Hp, Star H [scr K a (ns.map V.int)] → sp [.ref a] H (fun v _ => v = .bl true) (fun _ _ _ => False)) :
    codeAny (model P w) callerA (.call (.ref fa) ⟨[.ref a], []⟩) (fun r s' => r = .ok (.ret (.bool true)) ∧ OldK s1.heap s'.heap ∧ s'.os = s1.os ∧ AllBare s'.gens) s1 := by
  have rv := vals_ints hi
  have lenV := hi.length
  cases hk : K.lookup a with
  | some o =>
    have e := KX a o hk
    rw [ha] at e
    cases e
    have kl : KL K a (ns.map V.int) := ⟨_, vs.toArray, _, hk, rfl, rfl, rfl, by rw [List.size_toArray, lenV]; exact hl, by simpa using rv⟩
    refine law_core (H := fun _ => none) KX hns hb hbb hlim hg hr F hbind (hsp _ ⟨[], List.nodup_nil, [], [], rfl, ⟨rfl, .inr kl⟩, rfl⟩) ?_ ?_
    · intro b u z
      have z' : (none : Option HO) = some u := z
      cases z'
    · intro b z
      exact absurd rfl z
  | none =>
    obtain ⟨H, eH⟩ : ∃ H : Hp, H = fun b => if b = a then some (.frz { cls := .type "list", data := .seq vs.toArray } (.lst (ns.map V.int))) else none := ⟨_, rfl⟩
    have Ha : H a = some (.frz { cls := .type "list", data := .seq vs.toArray } (.lst (ns.map V.int))) := by rw [eH]; exact if_pos rfl
    have Hn : ∀ b, b ≠ a → H b = none := fun b z => by rw [eH]; exact if_neg z
    refine law_core (H := H) KX hns hb hbb hlim hg hr F hbind (hsp _ ⟨[], List.nodup_nil, [], [], rfl, ⟨rfl, .inl ⟨_, Ha⟩⟩, rfl⟩) ?_ ?_
    · intro b u z
      by_cases e : b = a
      · subst e
        rw [Ha] at z
        cases z
        have hz : (ns.map V.int).length ≤ sizeLine := by rw [List.length_map]; exact hl
        exact ⟨ha, hz, vs, _, rv, ha⟩
      · rw [Hn b e] at z
        cases z
    · intro b z
      by_cases e : b = a
      · exact ⟨e, hk, _, _, Ha⟩
      · exact absurd (Hn b e) z
end
/-- the goal that the head leaves, from the law's promise -/
theorem walk_end {l : PySem.W.OpenLaw} {n k : Nat} {q : Program} {loose : List Str} {XP : (Str → Option Value) → Heap → Prop} {YP : World → Heap → Prop} {d : DefRec} {x : Str}
    (hn : l.most = some n) (hn2 : n ≤ sizeLine) (hdf : d.params.defaults = []) (hr : Room k callerA)
    (F : ∀ (w : World) (mg : Str → Option Value) (fa : Addr) (h : Heap), YP w h → h.Ns mainGlobals mg → mg d.name = some (.ref fa) →
      ∃ (K : PySem.W.Frag) (fd : FuncData) (sp : Sp), K.In h ∧ (∀ (s : Shared) (u : Value), BindsTo s fd ⟨[u], []⟩ [(x, u)]) ∧
        (∀ (H : Hp) (a : Addr) (ns : List Int), ns.length ≤ n → Star H [scr K a (ns.map V.int)] → sp [.ref a] H (fun v _ => v = .bl true) fun _ _ _ => False) ∧
        ∀ base : Heap, K.In base → base.Ns mainGlobals mg → FnG l.prog w K mg base k fa fd [x] sp) :
    PySem.W.WalkO q loose XP YP l.row.toRowW d [] (fun f vs => PySem.call f vs) := by
  refine Att.attach_call hn hdf fun w s₀ s₁ mg mb fa o pm cd doc a vs ns G Y ho hd hcd hmg hobj hints hlen hg => ?_
  obtain ⟨K, fd, sp, KX, hb, hsp, hF⟩ := F w mg fa _ Y G.T.g hmg
  exact law_end KX G.T.g G.T.b G.T.builtins G.T.nolimit hg hobj hints (Nat.le_trans hlen hn2) hr hF hb fun H S => hsp H a ns hlen S
end MK

namespace MK
open PySem PySem.Spec PyProof.Rows L2
abbrev noW : WX := fun _ _ _ _ => False
abbrev wE (E : XK) : WX := fun c d _ H => E c d H
abbrev endOf (Q : VK) : Ends := ⟨fun _ H' => Q .non H', Q, fun _ _ => False, fun _ _ => False⟩
def st0 (vs : List V) (m : Nat) : L2.St := vs.map some ++ List.replicate m none
theorem st0_eq {N : List Str} {vs : List V} {n m : Nat} (h : vs.length = n) (hN : N.length = n + m) : L2.start N vs = st0 vs m := by
  unfold L2.start st0
  rw [h, hN, Nat.add_sub_cancel_left]
section
variable {P : Program} {w : World} {K : PySem.W.Frag} {mg : Str → Option Value} {base : Heap} {N ps : List Str} {qual x : Str} {scope : Scope} {f : Addr} {cd : Value} {A : Around} {outer : List Env} {s : Shared} {H : Hp} {E : XK}
theorem tk_of : Takes (cxOf (L2.CX P w) P w K mg base N qual scope f cd A outer s H E) (wE E) := takes_of rfl rfl rfl rfl
theorem hp_of : PassesOwn (model P w) (A.deeper (envOfC qual scope s.heap.objs.size f cd)) (envOfC qual scope s.heap.objs.size f cd) (cxOf (L2.CX P w) P w K mg base N qual scope f cd A outer s H E).xe := passes_of (X := cxOf (L2.CX P w) P w K mg base N qual scope f cd A outer s H E) rfl
theorem tk0 {X : Cx} : Takes X noW := fun _ _ ⟨_, _, _, _, _, _, _, _, _, _, _, _, _, _, _, _, z⟩ => z.elim
/-- a def of the text keeps its promise -/
structure OkG (P : Program) (w : World) (K : PySem.W.Frag) (mg : Str → Option Value) (base : Heap) (k : Nat) (f : Addr) (ps : List Str) (sp : Sp) : Prop where
  ex : ∃ fd, FnG P w K mg base k f fd ps sp ∧ L2.Binds K fd ps []
theorem OkG.cal {X : Cx} {j k : Nat} {f : Addr} {ps : List Str} {sp : Sp} (o : OkG X.prog X.w X.K X.mg X.base j f ps sp) (hr : Room k X.A) (hk : j ≤ k) (hg : X.A.guards = some []) : Cal X f sp := by
  obtain ⟨fd, F, b⟩ := o.ex
  exact ⟨j, fd, ps, hr.mono hk, hg, b, F⟩
theorem OkG.calM {X : Cx} {j k : Nat} {f : Addr} {ps : List Str} {sp : Sp} (o : OkG X.prog X.w X.K X.mg X.base j f ps sp) (hr : Room k X.A) (hk : j + 1 ≤ k) (hg : X.A.guards = some []) : CalM X f sp := by
  obtain ⟨fd, F, b⟩ := o.ex
  exact ⟨j, fd, ps, hr.mono hk, hg, b, F⟩
theorem OkG.of {k : Nat} {sp : Sp} {params : Arguments} {body : List Stmt} {t : WX → TS} {n m : Nat} (F : ∃ fd, FunD K x qual params body scope [] [] f fd) (S : FnScope N ps scope)
    (b : ∀ (kV doc pm : Value) (an : Option Addr) (cdv ct : Value) (us : List Value), us.length = ps.length → bindArgs (PySem.W.fnOf x qual params body scope .none kV doc pm an cdv ct) ⟨us, []⟩ = pure (ps.zip us))
    (hn : ps.length = n) (hN : N.length = n + m) (hs : ∀ vs H Q E, sp vs H Q E → vs.length = n ∧ t (wE E) (endOf Q) (st0 vs m) H)
    (hb : ∀ (cdv : Value) (A : Around) (outer : List Env) (s : Shared) (H : Hp) (E : XK), Room k (A.deeper (envOfC qual scope s.heap.objs.size f cdv)) → A.guards = some [] →
      PSs (cxOf (L2.CX P w) P w K mg base N qual scope f cdv A outer s H E) body (t (wE E))) : OkG P w K mg base (k + 1) f ps sp := by
  obtain ⟨fd, F⟩ := F
  refine ⟨fd, FnG.of F S (fun vs H Q E z => by rw [(hs vs H Q E z).1, hn]) ?_, F.bindsN b⟩
  intro cdv A outer s H vs Q E hr hg z
  obtain ⟨z1, z2⟩ := hs vs H Q E z
  exact ⟨t (wE E), hb cdv A outer s H E hr hg, by rw [st0_eq z1 hN]; exact z2⟩
end
/-- {} -/
def eD0 : TE := fun _ H Q => nwO (.dK []) H Q
theorem md0 {X : Cx} {pos : Pos} : PE X (.Dict [] [] pos) eD0 := by
  have e : eD0 = fun _ H Q => ∀ d, H d = none → Q (.ref d) (upd H d (.dK [])) := by
    unfold eD0 nwO
    rfl
  rw [e]
  exact pe_dnewK
end MK

namespace MK
open PySem PySem.Spec PyProof.Rows L2

/-! ### side conditions -/
theorem mul1 {i j : Int} (h : -18446744073709551616 < i ∧ i < 18446744073709551616) : mulOk i j := .inl h
theorem mul2 {i j : Int} (h : -18446744073709551616 < j ∧ j < 18446744073709551616) : mulOk i j := .inr (.inl h)
theorem div1 {j : Int} (h : 0 < j ∧ j < 18446744073709551616) : divOk j := h
theorem pow1 {i j : Int} (h : (0 ≤ j ∧ j ≤ 1000000) ∧ -18446744073709551616 < i ∧ i < 18446744073709551616) : powOk i j := h
theorem rng1 {i : Int} (h : -4611686018427387904 ≤ i ∧ i < 4611686018427387904) : rngOk i := h
theorem sz1 {n : Nat} (h : n ≤ 16777216) : szOk n := h

/-! ### steps that change the heap, by the assertions -/
section
variable {K : PySem.W.Frag} {H : Hp} {ps : List SP} {Q : VK} {a b : Addr} {xs ys : List V} {v : V} {i : Int} {j : Nat}
theorem al_l (S : Star H ps) (q : ∀ p H', Star H' (pt p (.lst xs) :: ps) → Q (.ref p) H') : nwO (.lst xs) H Q := nwO_i fun p hp => q p _ (S.newL hp)
theorem al_t (S : Star H ps) (q : ∀ p H', Star H' (fx p (.tup xs) :: ps) → Q (.ref p) H') : nwO (.tup xs) H Q := nwO_i fun p hp => q p _ (S.newT hp)
theorem al_d (S : Star H ps) (q : ∀ p H', Star H' (pt p (.dK []) :: ps) → Q (.ref p) H') : nwO (.dK []) H Q := nwO_i fun p hp => q p _ (S.new' hp id)
theorem list_S (S : Star H ps) (h : H a = some (.lst xs)) (q : ∀ p H', Star H' (pt p (.lst xs) :: ps) → Q (.ref p) H') : listX K (.ref a) H Q := list_l h (nwO_e (al_l S q))
theorem br {c : Bool} {A B : Prop} (h1 : c = true → A) (h2 : c = false → B) : cond c A B := by
  cases c with
  | true => exact h1 rfl
  | false => exact h2 rfl
end
end MK

namespace MK
open PySem PySem.Spec PyProof.Rows L2

theorem brd {p A B : Prop} [Decidable p] (h1 : p → A) (h2 : ¬ p → B) : cond (decide p) A B := br (fun h => h1 (of_decide_eq_true h)) (fun h => h2 (of_decide_eq_false h))
theorem brn {p A B : Prop} [Decidable p] (h1 : ¬ p → A) (h2 : p → B) : cond (!decide p) A B := br (fun h => h1 (fun z => by simp [z] at h)) (fun h => h2 (by simpa using h))

theorem brn' {A B : Prop} {b : Bool} (h1 : b = false → A) (h2 : b = true → B) : cond (!b) A B := by
  cases b with
  | true => exact h2 rfl
  | false => exact h1 rfl

/-! ### data: lists are held, tuples are known -/
mutual
def datP (H : Hp) : V → PyData → List Addr → Prop
  | v, .none, A => A = [] ∧ v = .non
  | v, .bool c, A => A = [] ∧ v = .bl c
  | v, .int i, A => A = [] ∧ v = .int i
  | v, .str x, A => A = [] ∧ v = .str x
  | v, .list ds, A => ∃ a xs A', v = .ref a ∧ A = a :: A' ∧ H a = some (.lst xs) ∧ datA H xs ds A'
  | v, .tuple ds, A => ∃ a xs, v = .ref a ∧ H a = some (.tup xs) ∧ datA H xs ds A
  | v, .dict kvs, A => ∃ a ks A', v = .ref a ∧ A = a :: A' ∧ H a = some (.dK ks) ∧ datK H ks kvs A'
def datA (H : Hp) : List V → List PyData → List Addr → Prop
  | vs, [], A => A = [] ∧ vs = []
  | vs, d :: ds, A => ∃ v r A1 A2, vs = v :: r ∧ A = A1 ++ A2 ∧ datP H v d A1 ∧ datA H r ds A2
def datK (H : Hp) : List (Key × V) → List (PyData × PyData) → List Addr → Prop
  | ks, [], A => A = [] ∧ ks = []
  | ks, p :: r, A => ∃ k v t A1 A2, ks = (k, v) :: t ∧ p.1 = kD k ∧ A = A1 ++ A2 ∧ datP H v p.2 A1 ∧ datK H t r A2
end
mutual
theorem datP_dom {H : Hp} : ∀ (d : PyData) {v : V} {A : List Addr}, datP H v d A → ∀ a ∈ A, H a ≠ none ∧ ¬ isFix (H a)
  | .none, _, _, h, a, ha => by rw [h.1] at ha; cases ha
  | .bool _, _, _, h, a, ha => by rw [h.1] at ha; cases ha
  | .int _, _, _, h, a, ha => by rw [h.1] at ha; cases ha
  | .str _, _, _, h, a, ha => by rw [h.1] at ha; cases ha
  | .list ds, _, _, ⟨b, xs, A', _, e, hb, hs⟩, a, ha => by
    rw [e] at ha
    rcases List.mem_cons.mp ha with z | z
    · rw [z, hb]
      exact ⟨(fun y => by cases y), fun y => y⟩
    · exact datA_dom ds hs a z
  | .tuple ds, _, _, ⟨b, xs, _, hb, hs⟩, a, ha => datA_dom ds hs a ha
  | .dict kvs, _, _, ⟨b, ks, A', _, e, hb, hs⟩, a, ha => by
    rw [e] at ha
    rcases List.mem_cons.mp ha with z | z
    · rw [z, hb]
      exact ⟨(fun y => by cases y), fun y => y⟩
    · exact datK_dom kvs hs a z
theorem datA_dom {H : Hp} : ∀ (ds : List PyData) {vs : List V} {A : List Addr}, datA H vs ds A → ∀ a ∈ A, H a ≠ none ∧ ¬ isFix (H a)
  | [], _, _, h, a, ha => by rw [h.1] at ha; cases ha
  | d :: ds, _, _, ⟨v, r, A1, A2, _, e, h1, h2⟩, a, ha => by
    rw [e] at ha
    rcases List.mem_append.mp ha with z | z
    · exact datP_dom d h1 a z
    · exact datA_dom ds h2 a z
theorem datK_dom {H : Hp} : ∀ (kvs : List (PyData × PyData)) {ks : List (Key × V)} {A : List Addr}, datK H ks kvs A → ∀ a ∈ A, H a ≠ none ∧ ¬ isFix (H a)
  | [], _, _, h, a, ha => by rw [h.1] at ha; cases ha
  | p :: r, _, _, ⟨k, v, t, A1, A2, _, _, e, h1, h2⟩, a, ha => by
    rw [e] at ha
    rcases List.mem_append.mp ha with z | z
    · exact datP_dom p.2 h1 a z
    · exact datK_dom r h2 a z
end
mutual
theorem datP_st {H H' : Hp} (k : Keep H H') : ∀ (d : PyData) {v : V} {A : List Addr}, datP H v d A → (∀ a ∈ A, H' a = H a) → datP H' v d A
  | .none, _, _, h, _ => h
  | .bool _, _, _, h, _ => h
  | .int _, _, _, h, _ => h
  | .str _, _, _, h, _ => h
  | .list ds, _, _, ⟨b, xs, A', e1, e, hb, hs⟩, ha => ⟨b, xs, A', e1, e, by rw [ha b (by simp [e]), hb], datA_st k ds hs fun a z => ha a (by simp [e, z])⟩
  | .tuple ds, _, _, ⟨b, xs, e1, hb, hs⟩, ha => ⟨b, xs, e1, by rw [k b (by rw [hb]; exact True.intro), hb], datA_st k ds hs ha⟩
  | .dict kvs, _, _, ⟨b, ks, A', e1, e, hb, hs⟩, ha => ⟨b, ks, A', e1, e, by rw [ha b (by simp [e]), hb], datK_st k kvs hs fun a z => ha a (by simp [e, z])⟩
theorem datA_st {H H' : Hp} (k : Keep H H') : ∀ (ds : List PyData) {vs : List V} {A : List Addr}, datA H vs ds A → (∀ a ∈ A, H' a = H a) → datA H' vs ds A
  | [], _, _, h, _ => h
  | d :: ds, _, _, ⟨v, r, A1, A2, e1, e, h1, h2⟩, ha => ⟨v, r, A1, A2, e1, e, datP_st k d h1 fun a z => ha a (by simp [e, z]), datA_st k ds h2 fun a z => ha a (by simp [e, z])⟩
theorem datK_st {H H' : Hp} (k : Keep H H') : ∀ (kvs : List (PyData × PyData)) {ks : List (Key × V)} {A : List Addr}, datK H ks kvs A → (∀ a ∈ A, H' a = H a) → datK H' ks kvs A
  | [], _, _, h, _ => h
  | p :: r, _, _, ⟨x, v, t, A1, A2, e1, e2, e, h1, h2⟩, ha => ⟨x, v, t, A1, A2, e1, e2, e, datP_st k p.2 h1 fun a z => ha a (by simp [e, z]), datK_st k r h2 fun a z => ha a (by simp [e, z])⟩
end
def dat (v : V) (d : PyData) : SP where
  P := fun H A => datP H v d A
  dom := fun H A h => datP_dom d h
  st := fun H H' A h e k => datP_st k d h e
def dats (vs : List V) (ds : List PyData) : SP where
  P := fun H A => datA H vs ds A
  dom := fun H A h => datA_dom ds h
  st := fun H H' A h e k => datA_st k ds h e
def datk (ks : List (Key × V)) (kvs : List (PyData × PyData)) : SP where
  P := fun H A => datK H ks kvs A
  dom := fun H A h => datK_dom kvs h
  st := fun H H' A h e k => datK_st k kvs h e

section
variable {H : Hp} {F : List SP} {v : V} {vs : List V} {d : PyData} {ds : List PyData} {a : Addr}
theorem dat_of {φ : Prop} {p : SP} (h : ∀ A, p.P H A ↔ A = [] ∧ φ) : Star H (p :: F) ↔ φ ∧ Star H F :=
  ⟨fun S => by
    obtain ⟨A1, A2, n, h1, h2⟩ := Star.split.mp S
    exact ⟨((h A1).mp h1).2, S.tail⟩, fun ⟨hp, A, n, hA⟩ => Star.split.mpr ⟨[], A, n, (h []).mpr ⟨rfl, hp⟩, hA⟩⟩
theorem dat_n : Star H (dat v .none :: F) ↔ v = .non ∧ Star H F := dat_of fun A => by show datP H v .none A ↔ _; unfold datP; exact Iff.rfl
theorem dat_b {b : Bool} : Star H (dat v (.bool b) :: F) ↔ v = .bl b ∧ Star H F := dat_of fun A => by show datP H v (.bool b) A ↔ _; unfold datP; exact Iff.rfl
theorem dat_i {i : Int} : Star H (dat v (.int i) :: F) ↔ v = .int i ∧ Star H F := dat_of fun A => by show datP H v (.int i) A ↔ _; unfold datP; exact Iff.rfl
theorem dat_s {x : Str} : Star H (dat v (.str x) :: F) ↔ v = .str x ∧ Star H F := dat_of fun A => by show datP H v (.str x) A ↔ _; unfold datP; exact Iff.rfl
theorem dat_l : Star H (dat v (.list ds) :: F) ↔ ∃ a xs, v = .ref a ∧ Star H (pt a (.lst xs) :: dats xs ds :: F) := by
  constructor
  · intro S
    obtain ⟨A1, A2, n, h1, h2⟩ := Star.split.mp S
    have h1 : datP H v (.list ds) A1 := h1
    unfold datP at h1
    obtain ⟨a, xs, A', e1, e, ha, hs⟩ := h1
    subst e
    exact ⟨a, xs, e1, _, n, [a], A' ++ A2, rfl, ⟨rfl, ha, id⟩, A', A2, rfl, hs, h2⟩
  · rintro ⟨a, xs, e1, _, n, _, _, rfl, ⟨rfl, ha, _⟩, A', A2, rfl, hs, h2⟩
    refine Star.split.mpr ⟨a :: A', A2, n, ?_, h2⟩
    show datP H v (.list ds) (a :: A')
    unfold datP
    exact ⟨a, xs, A', e1, rfl, ha, hs⟩
theorem dat_t : Star H (dat v (.tuple ds) :: F) ↔ ∃ a xs, v = .ref a ∧ Star H (fx a (.tup xs) :: dats xs ds :: F) := by
  constructor
  · intro S
    obtain ⟨A1, A2, n, h1, h2⟩ := Star.split.mp S
    have h1 : datP H v (.tuple ds) A1 := h1
    unfold datP at h1
    obtain ⟨a, xs, e1, ha, hs⟩ := h1
    exact ⟨a, xs, e1, _, n, [], A1 ++ A2, rfl, ⟨rfl, ha, True.intro⟩, A1, A2, rfl, hs, h2⟩
  · rintro ⟨a, xs, e1, _, n, _, _, rfl, ⟨rfl, ha, _⟩, A', A2, rfl, hs, h2⟩
    refine Star.split.mpr ⟨A', A2, n, ?_, h2⟩
    show datP H v (.tuple ds) A'
    unfold datP
    exact ⟨a, xs, e1, ha, hs⟩
theorem dat_k {kvs : List (PyData × PyData)} : Star H (dat v (.dict kvs) :: F) ↔ ∃ a ks, v = .ref a ∧ Star H (pt a (.dK ks) :: datk ks kvs :: F) := by
  constructor
  · intro S
    obtain ⟨A1, A2, n, h1, h2⟩ := Star.split.mp S
    have h1 : datP H v (.dict kvs) A1 := h1
    unfold datP at h1
    obtain ⟨a, ks, A', e1, e, ha, hs⟩ := h1
    subst e
    exact ⟨a, ks, e1, _, n, [a], A' ++ A2, rfl, ⟨rfl, ha, id⟩, A', A2, rfl, hs, h2⟩
  · rintro ⟨a, ks, e1, _, n, _, _, rfl, ⟨rfl, ha, _⟩, A', A2, rfl, hs, h2⟩
    refine Star.split.mpr ⟨a :: A', A2, n, ?_, h2⟩
    show datP H v (.dict kvs) (a :: A')
    unfold datP
    exact ⟨a, ks, A', e1, rfl, ha, hs⟩
theorem datk_n {ks : List (Key × V)} : Star H (datk ks [] :: F) ↔ ks = [] ∧ Star H F := dat_of fun A => by show datK H ks [] A ↔ _; unfold datK; exact Iff.rfl
theorem dat_d : Star H (dat v (.dict []) :: F) ↔ ∃ a, v = .ref a ∧ Star H (pt a (.dK []) :: F) := by
  rw [dat_k]
  constructor
  · rintro ⟨a, ks, e, S⟩
    obtain ⟨e2, S2⟩ := datk_n.mp S.p1
    subst e2
    exact ⟨a, e, S2⟩
  · rintro ⟨a, e, S⟩
    have T : Star H (datk [] [] :: pt a (.dK []) :: F) := datk_n.mpr ⟨rfl, S⟩
    exact ⟨a, [], e, T.p1⟩
theorem dats_n : Star H (dats vs [] :: F) ↔ vs = [] ∧ Star H F := dat_of fun A => by show datA H vs [] A ↔ _; unfold datA; exact Iff.rfl
theorem dats_c : Star H (dats vs (d :: ds) :: F) ↔ ∃ v r, vs = v :: r ∧ Star H (dat v d :: dats r ds :: F) := by
  constructor
  · intro S
    obtain ⟨A1, A2, n, h1, h2⟩ := Star.split.mp S
    have h1 : datA H vs (d :: ds) A1 := h1
    unfold datA at h1
    obtain ⟨v, r, B1, B2, e1, e, hv, hr⟩ := h1
    subst e
    exact ⟨v, r, e1, _, n, B1, B2 ++ A2, by simp, hv, B2, A2, rfl, hr, h2⟩
  · rintro ⟨v, r, e1, _, n, B1, _, rfl, hv, B2, A2, rfl, hr, h2⟩
    refine Star.split.mpr ⟨B1 ++ B2, A2, by simpa using n, ?_, h2⟩
    show datA H vs (d :: ds) (B1 ++ B2)
    unfold datA
    exact ⟨v, r, B1, B2, e1, rfl, hv, hr⟩
/-- the i-th item taken out, put back -/
theorem datA_at {H H' : Hp} : ∀ (i : Nat) {ds : List PyData} {vs : List V} {A : List Addr} {d : PyData}, datA H vs ds A → ds[i]? = some d →
    ∃ v A1 A2 A3, vs[i]? = some v ∧ A = A1 ++ A2 ++ A3 ∧ datP H v d A2 ∧ ∀ H' v' d' B, datP H' v' d' B → Keep H H' → (∀ a ∈ A1 ++ A3, H' a = H a) → datA H' (vs.set i v') (ds.set i d') (A1 ++ B ++ A3)
  | i, [], vs, A, d, h, e => by cases i <;> cases e
  | 0, d0 :: ds, vs, A, d, h, e => by
    cases e
    unfold datA at h
    obtain ⟨v, r, A1, A2, e1, e2, h1, h2⟩ := h
    subst e1 e2
    refine ⟨v, [], A1, A2, rfl, by simp, h1, fun H' v' d' B hB k ha => ?_⟩
    show datA H' (v' :: r) (d' :: ds) ([] ++ B ++ A2)
    unfold datA
    exact ⟨v', r, B, A2, rfl, by simp, hB, datA_st k ds h2 fun a z => ha a (by simp [z])⟩
  | i + 1, d0 :: ds, vs, A, d, h, e => by
    unfold datA at h
    obtain ⟨v, r, A1, A2, e1, e2, h1, h2⟩ := h
    subst e1 e2
    have e' : ds[i]? = some d := by simpa using e
    obtain ⟨w, B1, B2, B3, f1, f2, f3, f4⟩ := datA_at (H' := H') i h2 e'
    subst f2
    refine ⟨w, A1 ++ B1, B2, B3, by simpa using f1, by simp, f3, fun H' v' d' B hB k ha => ?_⟩
    show datA H' (v :: r.set i v') (d0 :: ds.set i d') (A1 ++ B1 ++ B ++ B3)
    unfold datA
    exact ⟨v, _, A1, B1 ++ B ++ B3, rfl, by simp, datP_st k d0 h1 fun a z => ha a (by simp [z]), f4 H' v' d' B hB k fun a z => ha a (by
      rcases List.mem_append.mp z with y | y
      · simp [y]
      · simp [y])⟩
/-- the rest, with a hole at i -/
def hole (vs : List V) (ds : List PyData) (i : Nat) : SP where
  P := fun H A => ∃ A1 A3, A = A1 ++ A3 ∧ (∀ a ∈ A, H a ≠ none ∧ ¬ isFix (H a)) ∧ ∀ H' v' d' B, datP H' v' d' B → Keep H H' → (∀ a ∈ A, H' a = H a) → datA H' (vs.set i v') (ds.set i d') (A1 ++ B ++ A3)
  dom := fun H A ⟨_, _, _, h, _⟩ => h
  st := fun H H' A ⟨A1, A3, e, h, f⟩ k q => ⟨A1, A3, e, fun a ha => by rw [k a ha]; exact h a ha, fun H2 v' d' B hB k2 h2 => f H2 v' d' B hB (q.trans k2) fun a ha => (h2 a ha).trans (k a ha)⟩
theorem Star.take (S : Star H (dats vs ds :: F)) {i : Nat} (e : ds[i]? = some d) : ∃ v, vs[i]? = some v ∧ Star H (dat v d :: hole vs ds i :: F) := by
  obtain ⟨A, A', n, h1, h2⟩ := Star.split.mp S
  obtain ⟨v, A1, A2, A3, e1, e2, h3, h4⟩ := datA_at (H' := H) i h1 e
  subst e2
  have dm : ∀ a ∈ A1 ++ A3, H a ≠ none ∧ ¬ isFix (H a) := fun a ha => datA_dom ds h1 a (by
    rcases List.mem_append.mp ha with y | y
    · simp [y]
    · simp [y])
  have pm : (A1 ++ A2 ++ A3 ++ A').Perm (A2 ++ (A1 ++ A3 ++ A')) := by
    have p1 : (A1 ++ A2).Perm (A2 ++ A1) := List.perm_append_comm
    have p2 := (p1.append_right A3).append_right A'
    simpa [List.append_assoc] using p2
  exact ⟨v, e1, _, pm.nodup_iff.mp n, A2, A1 ++ A3 ++ A', rfl, h3, A1 ++ A3, A', rfl, ⟨A1, A3, rfl, dm, fun H' v' d' B hB k ha => h4 H' v' d' B hB k ha⟩, h2⟩
theorem Star.back {i : Nat} {v' : V} {d' : PyData} (S : Star H (dat v' d' :: hole vs ds i :: F)) : Star H (dats (vs.set i v') (ds.set i d') :: F) := by
  obtain ⟨_, n, A2, _, rfl, h3, _, A', rfl, ⟨A1, A3, rfl, dm, f⟩, h2⟩ := S
  have h := f H v' d' A2 h3 (Keep.refl H) fun _ _ => rfl
  have pm : (A2 ++ (A1 ++ A3 ++ A')).Perm (A1 ++ A2 ++ A3 ++ A') := by
    have p1 : (A2 ++ A1).Perm (A1 ++ A2) := List.perm_append_comm
    have p2 := (p1.append_right A3).append_right A'
    simpa [List.append_assoc] using p2
  exact Star.split.mpr ⟨A1 ++ A2 ++ A3, A', pm.nodup_iff.mp n, h, h2⟩
end
mutual
theorem datP_dp {K : PySem.W.Frag} {H : Hp} : ∀ (d : PyData) {v : V} {A : List Addr}, datP H v d A → d.hasDict = false → Dp K H v d
  | .none, _, _, h, _ => by rw [h.2]; exact .non
  | .bool _, _, _, h, _ => by rw [h.2]; exact .bl _
  | .int _, _, _, h, _ => by rw [h.2]; exact .int _
  | .str _, _, _, h, _ => by rw [h.2]; exact .str _
  | .list ds, _, _, ⟨b, xs, A', e1, e, hb, hs⟩, hd => by
    rw [e1]
    exact .lst (SqL.of hb) (datA_dp ds hs (by simpa only [PyData.hasDict] using hd))
  | .tuple ds, _, _, ⟨b, xs, e1, hb, hs⟩, hd => by
    rw [e1]
    exact .tup (SqT.of hb) (datA_dp ds hs (by simpa only [PyData.hasDict] using hd))
  | .dict _, _, _, _, hd => by simp only [PyData.hasDict] at hd; cases hd
theorem datA_dp {K : PySem.W.Frag} {H : Hp} : ∀ (ds : List PyData) {vs : List V} {A : List Addr}, datA H vs ds A → PyData.hasDictAll ds = false → DpAll K H vs ds
  | [], _, _, h, _ => by rw [h.2]; exact .nil
  | d :: ds, _, _, ⟨v, r, A1, A2, e1, e, h1, h2⟩, hd => by
    rw [e1]
    simp only [PyData.hasDictAll, Bool.or_eq_false_iff] at hd
    exact .cons (datP_dp d h1 hd.1) (datA_dp ds h2 hd.2)
end
mutual
theorem datP_rp {K : PySem.W.Frag} {H : Hp} : ∀ (d : PyData) {v : V} {A : List Addr}, datP H v d A → Rp K H v d
  | .none, _, _, h => h.2
  | .bool _, _, _, h => h.2
  | .int _, _, _, h => h.2
  | .str _, _, _, h => h.2
  | .list ds, _, _, ⟨b, xs, A', e1, e, hb, hs⟩ => ⟨b, xs, e1, SqL.of hb, datA_rp ds hs⟩
  | .tuple ds, _, _, ⟨b, xs, e1, hb, hs⟩ => ⟨b, xs, e1, SqT.of hb, datA_rp ds hs⟩
  | .dict kvs, _, _, ⟨b, ks, A', e1, e, hb, hs⟩ => ⟨b, ks, e1, hb, datK_rp kvs hs⟩
theorem datA_rp {K : PySem.W.Frag} {H : Hp} : ∀ (ds : List PyData) {vs : List V} {A : List Addr}, datA H vs ds A → RpA K H vs ds
  | [], _, _, h => h.2
  | d :: ds, _, _, ⟨v, r, A1, A2, e1, e, h1, h2⟩ => ⟨v, r, e1, datP_rp d h1, datA_rp ds h2⟩
theorem datK_rp {K : PySem.W.Frag} {H : Hp} : ∀ (kvs : List (PyData × PyData)) {ks : List (Key × V)} {A : List Addr}, datK H ks kvs A → RpK K H ks kvs
  | [], _, _, h => h.2
  | p :: r, _, _, ⟨k, v, t, A1, A2, e1, e2, e, h1, h2⟩ => ⟨k, v, t, e1, e2, datP_rp p.2 h1, datK_rp r h2⟩
end
section
variable {K : PySem.W.Frag} {H : Hp} {F : List SP} {v u : V} {d e : PyData} {Q : VK}
theorem Star.dp (S : Star H (dat v d :: F)) (h : d.hasDict = false) : Dp K H v d := by
  obtain ⟨A1, A2, n, h1, h2⟩ := Star.split.mp S
  exact datP_dp d h1 h
/-- repr of data -/
theorem repr_D (S : Star H (dat v d :: F)) (ok : RepOk d) (q : Q (.str d.shown) H) : reprX K v H Q := by
  obtain ⟨A1, A2, n, h1, h2⟩ := Star.split.mp S
  exact repr_d (datP_rp d h1) ok q
end
end MK

namespace MK
open PySem PySem.Spec PyProof.Rows L2

/-! ### comprehensions whose element and test leave all as it is -/
section
variable {K : PySem.W.Frag} {H : Hp} {J : It} {G : Hp → Prop} {xs : List V} {te : TE} {tt : TT} {vs : List Nat} {σ : L2.St} {D : Addr} {Q : VK} {ps : List SP} {f : Nat → V} {p : Nat → Bool}
theorem ranges_succ (i : Nat) : List.range (i + 1) = List.range i ++ [i] := List.range_succ
theorem fm_len (f : Nat → V) (p : Nat → Bool) (i : Nat) : (((List.range i).filter p).map f).length ≤ i := by
  rw [List.length_map]
  exact Nat.le_trans (List.length_filter_le _ _) (by rw [List.length_range]; exact Nat.le_refl _)
theorem lc_filter {g : TG} (gx : V → L2.St) (hg : ∀ x H Q, Q (gx x) H → g x (wipe σ vs) H Q) (w : Walk J xs.length G (YAt xs)) (hz : xs.length ≤ 16777216) (hn : H D = none) (S : Star H ps) (hG : ∀ H1 acc, Star H1 (pt D (.lst acc) :: ps) → G H1) (hw : ∀ x, wipe (gx x) vs = wipe σ vs)
    (ht : ∀ i x H1 acc (R : Bool → Hp → Prop), xs[i]? = some x → Star H1 (pt D (.lst acc) :: ps) → (∀ H2, Star H2 (pt D (.lst acc) :: ps) → R (p i) H2) → tt (gx x) H1 R)
    (he : ∀ i x H1 acc (R : VK), xs[i]? = some x → p i = true → Star H1 (pt D (.lst acc) :: ps) → (∀ H2, Star H2 (pt D (.lst acc) :: ps) → R (f i) H2) → te (gx x) H1 R)
    (q : ∀ H1, Star H1 (pt D (.lst (((List.range xs.length).filter p).map f)) :: ps) → Q (.ref D) H1) : LoopC J g tt te vs σ D H Q := by
  refine LoopC.it w (fun i H1 => Star H1 (pt D (.lst (((List.range i).filter p).map f)) :: ps)) (S.newL hn) (fun i H1 _ S1 => hG _ _ S1) ?_ (fun H1 S1 => q H1 S1)
  rintro i x H1 H2 hi S1 ⟨rfl, hx⟩
  refine hg _ _ _ ⟨hw x, ht i x _ _ _ hx S1 fun H3 S3 => ?_⟩
  cases hp : p i with
  | false =>
    rw [if_neg Bool.false_ne_true, ranges_succ, List.filter_append, List.filter_cons_of_neg (by simp [hp]), List.filter_nil, List.append_nil]
    exact S3
  | true =>
    rw [if_pos rfl]
    refine he i x _ _ _ hx hp S3 fun H4 S4 => ⟨_, S4.get, ?_, ?_⟩
    · have h1 := fm_len f p i
      rw [sizeLine_eq]
      omega
    · rw [ranges_succ, List.filter_append, List.filter_cons_of_pos hp, List.filter_nil, List.map_append, List.map_cons, List.map_nil]
      exact S4.updL
end
theorem all_map {n : Nat} (f : Nat → Bool) : (((List.range n).map f).map V.bl) = (List.range n).map fun i => V.bl (f i) := by rw [List.map_map]; rfl
end MK

namespace MK
open PySem PySem.Spec PyProof.Rows L2

/-! ### data whose text is short -/
structure Ni (n m : Nat) (d : PyData) : Prop where
  sh : d.showable = true
  dp : d.depth ≤ n
  sm : d.leavesShort 64 = true
  bk : d.bulk ≤ m
theorem Ni.mono {n m n' m' : Nat} {d : PyData} (h : Ni n m d) (a : n ≤ n') (b : m ≤ m') : Ni n' m' d := ⟨h.sh, Nat.le_trans h.dp a, h.sm, Nat.le_trans h.bk b⟩
theorem Ni.rep {n m : Nat} {d : PyData} (h : Ni n m d) (a : n ≤ 60 := by decide) (b : m ≤ 200000 := by decide) : RepOk d := ⟨h.sh, Nat.le_trans h.dp a, h.sm, Nat.le_trans h.bk b⟩
/-- data without dicts, which == goes over -/
def Pl (d : PyData) : Prop := d.canLay0 = true
theorem Pl.nd {d : PyData} (h : Pl d) : d.hasDict = false := PyData.hasDict_of_canLay d h
theorem pl_all : ∀ {ds : List PyData}, (∀ d ∈ ds, Pl d) → PyData.canLayAll0 ds = true
  | [], _ => rfl
  | d :: ds, h => by
    have a : d.canLay0 = true := h d List.mem_cons_self
    simp only [PyData.canLayAll0, a, pl_all (ds := ds) fun x hx => h x (List.mem_cons_of_mem _ hx), Bool.and_self]
theorem pl_l {ds : List PyData} (h : ∀ d ∈ ds, Pl d) : Pl (.list ds) := by
  show PyData.canLay0 (.list ds) = true
  simp only [PyData.canLay0, pl_all h]
theorem pl_t {ds : List PyData} (h : ∀ d ∈ ds, Pl d) : Pl (.tuple ds) := by
  show PyData.canLay0 (.tuple ds) = true
  simp only [PyData.canLay0, pl_all h]
theorem ten60 : (10 : Nat) ^ 60 < 2 ^ 1920 := by
  have h : (10 : Nat) ^ 60 < 2 ^ 200 := by decide
  exact Nat.lt_of_lt_of_le h (Nat.pow_le_pow_right (by decide) (by decide))
theorem ni_i {n m : Nat} {i : Int} (h : -1000000000000000000000000000000000000000000000000000000000000 < i ∧ i < 1000000000000000000000000000000000000000000000000000000000000) : Ni n m (.int i) := by
  have e : i.natAbs < 10 ^ 60 := by
    have e60 : (10 : Nat) ^ 60 = 1000000000000000000000000000000000000000000000000000000000000 := by decide
    rw [e60]
    omega
  refine ⟨?_, Nat.zero_le _, ?_, Nat.zero_le _⟩
  · simp only [PyData.showable, decide_eq_true_eq]
    by_cases z : i.natAbs = 0
    · rw [z]
      decide
    · exact (Nat.log2_lt z).mpr (Nat.lt_trans e ten60)
  · simp only [PyData.leavesShort, decide_eq_true_eq]
    have e2 := int_text_length_le10 (k := 60) (by decide) e
    show (Str.ofString (toString i)).length ≤ 64
    rw [PySem.ofString_length]
    omega
theorem ni_all {n m : Nat} : ∀ {ds : List PyData}, (∀ d ∈ ds, Ni n m d) → PyData.showableAll ds = true ∧ PyData.depthAll ds ≤ n ∧ PyData.leavesShortAll 64 ds = true ∧ PyData.bulkAll ds ≤ ds.length * (m + 1)
  | [], _ => ⟨rfl, Nat.zero_le _, rfl, Nat.zero_le _⟩
  | d :: ds, h => by
    obtain ⟨a1, a3, a4, a5⟩ := ni_all (ds := ds) fun x hx => h x (List.mem_cons_of_mem _ hx)
    have z := h d List.mem_cons_self
    refine ⟨?_, ?_, ?_, ?_⟩
    · simp only [PyData.showableAll, z.sh, a1, Bool.and_self]
    · simp only [PyData.depthAll]
      exact Nat.max_le.mpr ⟨z.dp, a3⟩
    · simp only [PyData.leavesShortAll, z.sm, a4, Bool.and_self]
    · simp only [PyData.bulkAll, List.length_cons, Nat.add_mul]
      have := z.bk
      omega
theorem ni_l {n m n' m' : Nat} {ds : List PyData} (h : ∀ d ∈ ds, Ni n m d) (e : n + 1 ≤ n') (z : ds.length * (m + 1) ≤ m') : Ni n' m' (.list ds) := by
  obtain ⟨a1, a3, a4, a5⟩ := ni_all h
  exact ⟨by simpa only [PyData.showable] using a1, by simp only [PyData.depth]; omega, by simpa only [PyData.leavesShort] using a4, by simp only [PyData.bulk]; omega⟩
theorem fa0 {P : PyData → Prop} : ∀ d ∈ ([] : List PyData), P d := fun d h => by cases h
theorem fa1 {P : PyData → Prop} {x : PyData} {xs : List PyData} (h : P x) (t : ∀ d ∈ xs, P d) : ∀ d ∈ x :: xs, P d := fun d hd => by
  rcases List.mem_cons.mp hd with e | e
  · rw [e]
    exact h
  · exact t d e
/-- one of the items, which we are not told -/
theorem ix_m {K : PySem.W.Frag} {H : Hp} {Q : VK} {a : Addr} {xs : List V} {i : Int} (h : H a = some (.lst xs)) (h0 : 0 ≤ i) (h1 : i < (xs.length : Nat)) (q : ∀ v, v ∈ xs → Q v H) : ixX K (.ref a) (.int i) H Q := by
  obtain ⟨j, rfl⟩ := Int.eq_ofNat_of_zero_le h0
  have hj : j < xs.length := by omega
  exact ix_l h (atI_nat (List.getElem?_eq_getElem hj)) (q _ (List.getElem_mem hj))
end MK

namespace MK
open PySem PySem.Spec PyProof.Rows L2

/-! ### what is held, in another order, some of it let go -/
def Fr (ps qs : List SP) : Prop := ∀ H, Star H ps → Star H qs
section
variable {H : Hp} {ps qs : List SP} {a b c d e f g h i j k p q : SP}
theorem Star.fr (S : Star H ps) (h : Fr ps qs) : Star H qs := h H S
theorem Fr.refl (ps : List SP) : Fr ps ps := fun _ S => S
theorem Fr.nil (ps : List SP) : Fr ps [] := fun H _ => Star.nil H
theorem Fr.drop (h : Fr ps qs) : Fr (p :: ps) qs := fun H S => h H S.tail
theorem Fr.c0 (h : Fr ps qs) : Fr (q :: ps) (q :: qs) := fun H S => by
  classical
  obtain ⟨A1, A2, n, h1, h2⟩ := Star.split.mp S
  obtain ⟨B, nb, hb⟩ := h H ⟨A2, (List.nodup_append.mp n).2.1, h2⟩
  -- the rest may let go of some: what stays is told by the heap cut to A2
  let H' : Hp := fun x => if x ∈ A1 ∧ ¬ isFix (H x) then none else H x
  have keep : Keep H H' := fun x hx => if_neg fun z => z.2 hx
  have h2' : SL H' ps A2 := h2.st keep fun x hx => if_neg fun z => (List.nodup_append.mp n).2.2 x z.1 x hx rfl
  obtain ⟨C, nc, hc⟩ := h H' ⟨A2, (List.nodup_append.mp n).2.1, h2'⟩
  have dis : ∀ x ∈ A1, x ∉ C := fun x hx hC => (hc.dom x hC).1 (if_pos ⟨hx, (q.dom _ _ h1 x hx).2⟩)
  have back : Keep H' H := fun x hx => by
    by_cases z : x ∈ A1 ∧ ¬ isFix (H x)
    · have e : H' x = none := if_pos z
      rw [e] at hx
      exact hx.elim
    · exact (if_neg z).symm
  have hc2 : SL H qs C := hc.st back fun x hx => by
    have : ¬ (x ∈ A1 ∧ ¬ isFix (H x)) := fun z => dis x z.1 hx
    exact (if_neg this).symm
  exact Star.split.mpr ⟨A1, C, List.nodup_append.mpr ⟨(List.nodup_append.mp n).1, nc, fun x hx y hy e => dis x hx (e ▸ hy)⟩, h1, hc2⟩
theorem Fr.c1 (h : Fr (a :: ps) qs) : Fr (a :: q :: ps) (q :: qs) := fun H S => Fr.c0 h H S.p1
theorem Fr.c2 (h : Fr (a :: b :: ps) qs) : Fr (a :: b :: q :: ps) (q :: qs) := fun H S => Fr.c0 h H S.p2
theorem Fr.c3 (h : Fr (a :: b :: c :: ps) qs) : Fr (a :: b :: c :: q :: ps) (q :: qs) := fun H S => Fr.c0 h H S.p3
theorem Fr.c4 (h : Fr (a :: b :: c :: d :: ps) qs) : Fr (a :: b :: c :: d :: q :: ps) (q :: qs) := fun H S => Fr.c0 h H S.p4
theorem Fr.c5 (h : Fr (a :: b :: c :: d :: e :: ps) qs) : Fr (a :: b :: c :: d :: e :: q :: ps) (q :: qs) := fun H S => Fr.c0 h H S.p5
theorem Fr.c6 (h : Fr (a :: b :: c :: d :: e :: f :: ps) qs) : Fr (a :: b :: c :: d :: e :: f :: q :: ps) (q :: qs) := fun H S => Fr.c0 h H S.p6
theorem Fr.c7 (h : Fr (a :: b :: c :: d :: e :: f :: g :: ps) qs) : Fr (a :: b :: c :: d :: e :: f :: g :: q :: ps) (q :: qs) := fun H S => Fr.c0 h H S.p7
theorem Fr.c8 (w : Fr (a :: b :: c :: d :: e :: f :: g :: h :: ps) qs) : Fr (a :: b :: c :: d :: e :: f :: g :: h :: q :: ps) (q :: qs) := fun H S => Fr.c0 w H S.p8
theorem Fr.c9 (w : Fr (a :: b :: c :: d :: e :: f :: g :: h :: i :: ps) qs) : Fr (a :: b :: c :: d :: e :: f :: g :: h :: i :: q :: ps) (q :: qs) := fun H S => Fr.c0 w H S.p9
theorem Fr.ca (w : Fr (a :: b :: c :: d :: e :: f :: g :: h :: i :: j :: ps) qs) : Fr (a :: b :: c :: d :: e :: f :: g :: h :: i :: j :: q :: ps) (q :: qs) := fun H S => Fr.c0 w H (Star.up (n := [a, b, c, d, e, f, g, h, i, j]) S)
theorem Fr.cb (w : Fr (a :: b :: c :: d :: e :: f :: g :: h :: i :: j :: k :: ps) qs) : Fr (a :: b :: c :: d :: e :: f :: g :: h :: i :: j :: k :: q :: ps) (q :: qs) := fun H S => Fr.c0 w H (Star.up (n := [a, b, c, d, e, f, g, h, i, j, k]) S)
end
/-- what holds between two statements -/
theorem seq_cut {a r : TS} {D : Ends} {σ : L2.St} {H : Hp} (P : L2.St → Hp → Prop) (ha : (∀ σ H, P σ H → r D σ H) → a { D with nx := r D } σ H) (hr : ∀ σ H, P σ H → r D σ H) : tSeq a r D σ H := ha hr
/-! data put together -/
section
variable {H : Hp} {ps qs F : List SP} {xs : List V} {ds : List PyData} {v : V} {d : PyData} {i : Int} {t : Addr} {b : Bool} {s : Str} {r : SP}
theorem Fr.trans {a b c : List SP} (h : Fr a b) (h2 : Fr b c) : Fr a c := fun H S => h2 H (h H S)
theorem Fr.tup (h : Fr ps (fx t (.tup xs) :: dats xs ds :: qs)) : Fr ps (dat (.ref t) (.tuple ds) :: qs) := fun H S => dat_t.mpr ⟨t, xs, rfl, h H S⟩
theorem Fr.lst (h : Fr ps (pt t (.lst xs) :: dats xs ds :: qs)) : Fr ps (dat (.ref t) (.list ds) :: qs) := fun H S => dat_l.mpr ⟨t, xs, rfl, h H S⟩
theorem Fr.dct (h : Fr ps (pt t (.dK []) :: qs)) : Fr ps (dat (.ref t) (.dict []) :: qs) := fun H S => dat_d.mpr ⟨t, rfl, h H S⟩
theorem Fr.int (h : Fr ps qs) : Fr ps (dat (.int i) (.int i) :: qs) := fun H S => dat_i.mpr ⟨rfl, h H S⟩
theorem Fr.bl (h : Fr ps qs) : Fr ps (dat (.bl b) (.bool b) :: qs) := fun H S => dat_b.mpr ⟨rfl, h H S⟩
theorem Fr.non (h : Fr ps qs) : Fr ps (dat .non .none :: qs) := fun H S => dat_n.mpr ⟨rfl, h H S⟩
theorem Fr.str (h : Fr ps qs) : Fr ps (dat (.str s) (.str s) :: qs) := fun H S => dat_s.mpr ⟨rfl, h H S⟩
theorem Fr.ds0 (h : Fr ps qs) : Fr ps (dats [] [] :: qs) := fun H S => dats_n.mpr ⟨rfl, h H S⟩
theorem Fr.dsc (h : Fr ps (dat v d :: dats xs ds :: qs)) : Fr ps (dats (v :: xs) (d :: ds) :: qs) := fun H S => dats_c.mpr ⟨v, xs, rfl, h H S⟩
theorem Star.snoc : ∀ {ds : List PyData} {xs : List V} {F : List SP}, Star H (dats xs ds :: dat v d :: F) → Star H (dats (xs ++ [v]) (ds ++ [d]) :: F)
  | [], xs, F, S => by
    obtain ⟨e, S1⟩ := dats_n.mp S
    subst e
    exact dats_c.mpr ⟨v, [], rfl, Star.fr S1 (Fr.c0 (Fr.ds0 (Fr.refl _)))⟩
  | e :: ds, xs, F, S => by
    obtain ⟨x, r, q, S1⟩ := dats_c.mp S
    subst q
    have T : Star H (dats r ds :: dat v d :: dat x e :: F) := S1.fr (Fr.c1 (Fr.c1 (Fr.refl _)))
    exact dats_c.mpr ⟨x, r ++ [v], rfl, (Star.snoc T).p1⟩
end
end MK

namespace MK
open PySem PySem.Spec PyProof.Rows L2

/-! ### a list or a tuple -/
def sq : Bool → Addr → List V → SP
  | true, a, xs => pt a (.lst xs)
  | false, a, xs => fx a (.tup xs)
section
variable {K : PySem.W.Frag} {H : Hp} {F ps : List SP} {v : V} {b : Bool} {a : Addr} {xs : List V} {ds : List PyData} {Q : VK} {i : Int} {R : It → Hp → Prop}
theorem Star.len_sq (S : Star H (sq b a xs :: F)) (q : Q (.int (xs.length : Int)) H) : lenX K (.ref a) H Q := by
  cases b with
  | true => exact len_l S.get q
  | false => exact len_t S.getF q
theorem Star.ix_sq (S : Star H (sq b a xs :: F)) (e : atI xs i = some v) (q : Q v H) : ixX K (.ref a) (.int i) H Q := by
  cases b with
  | true => exact ix_l S.get e q
  | false => exact ix_t S.getF e q
theorem Star.isi_sq2 {tb : List Addr} (S : Star H (sq b a xs :: F)) (q : Q (.bl true) H) : isiX K [.list, .tuple] tb (.ref a) H Q := by
  cases b with
  | true => exact isi_l S.get q
  | false => exact isi_t S.getF q
/-- a whole number whose text is short -/
def smallI (d : PyData) : Prop := ∃ i : Int, d = .int i ∧ (-1000000000000000000000000000000000000000000000000000 < i ∧ i < 1000000000000000000000000000000000000000000000000000)
theorem smallI.ni {d : PyData} {n m : Nat} (h : smallI d) : Ni n m d := by
  obtain ⟨i, rfl, hi⟩ := h
  exact ni_i (by omega)
theorem smallI.pl {d : PyData} (h : smallI d) : Pl d := by
  obtain ⟨i, rfl, hi⟩ := h
  rfl
end
end MK

namespace MK
open PySem PySem.Spec PyProof.Rows L2

/-! ### further facts that the head tells -/
/-- a def that is read off its class -/
structure CFn (K : PySem.W.Frag) (C : Addr) (m : Str) (f : Addr) : Prop where
  sp : PySem.W.specialIn K (.ref C) "__getattribute__" = some (some (.builtin "type.__getattribute__"))
  rd : PySem.W.readsIn K C (.type "type") = true
  fc : PySem.W.findCls K (.ref C) (.type "type") m = some (.val (.ref f))
  kp : PySem.W.keepIn K (.ref f) = true
inductive Xa where
  | cfn (x m : Str)
  | isc (x : Str)
  | kit (x y : Str) (b : Bool)
  | oex (x : Str)
  | xfc (x : Str)
  | init (x : Str)
  | veb
  | exk (x : Str)
  | mki (x b : Str)
  | kitt (x : Str) (t : String) (b : Bool)
  | oeq (x : Str)
def isFoundVal (r : Option PySem.W.CFound) (v : Value) : Bool := match r with
  | some (.val u) => decide (u = v)
  | _ => false
theorem isFoundVal_ok {r : Option PySem.W.CFound} {v : Value} (h : isFoundVal r v = true) : r = some (.val v) := by
  unfold isFoundVal at h
  split at h
  · rw [of_decide_eq_true h]
  · cases h
def oexB (K : PySem.W.Frag) (C : Addr) : Bool := match K.lookup C with
  | some ⟨.type t, _, .cls cd, sl⟩ => decide (t = "type") && (match cd.mro, sl.toList with
    | .ref C' :: bm, [_, _, _, _, some (.builtin n), _] => decide (C' = C) && (decide (n = "ValueError.__new__") && (!cd.hasDel && (cd.hasDict && PySem.HandSPX.refsVE bm)))
    | _, _ => false)
  | _ => false
def exkB (K : PySem.W.Frag) (D : Addr) : Bool := decide (PySem.W.findIn K (.ref D) "__getattribute__" = some (some (.builtin "BaseException.__getattribute__"))) && (decide (PySem.W.findIn K (.ref D) "__getattr__" = some none) &&
  (decide (PySem.W.subIn K (.ref D) (.type "BaseException") = some true) && (PySem.W.hasDictIn K D && (decide (PySem.W.findIn K (.ref D) "__class__" = some (some (.builtin "object.__class__"))) &&
    (decide (PySem.W.specialIn K (.builtin "object.__class__") "__get__" = some (some (.builtin "getset_descriptor.__get__"))) && (decide (PySem.W.takesIn K (.builtin "object.__class__") = some true) && decide (PySem.W.mroIn K D (.type "object") = some true)))))))
def Xa.ok (K : PySem.W.Frag) : Xa → Bool
  | .cfn x m => decide (PySem.W.specialIn K (.ref (He.ga K x)) "__getattribute__" = some (some (.builtin "type.__getattribute__"))) && (PySem.W.readsIn K (He.ga K x) (.type "type") &&
      (isFoundVal (PySem.W.findCls K (.ref (He.ga K x)) (.type "type") m) (.ref (He.ma K (He.ga K x) m)) && PySem.W.keepIn K (.ref (He.ma K (He.ga K x) m))))
  | .isc x => decide (PySem.W.findIn K (.ref (He.ga K x)) "__class__" = some (some (.builtin "object.__class__"))) && (decide (PySem.W.specialIn K (.builtin "object.__class__") "__get__" = some (some (.builtin "getset_descriptor.__get__"))) &&
      (decide (PySem.W.takesIn K (.builtin "object.__class__") = some true) && decide (PySem.W.mroIn K (He.ga K x) (.type "object") = some true)))
  | .kit x y b => decide (PySem.W.kitOne K (.ref (He.ga K x)) (.ref (He.ga K y)) = some b)
  | .oex x => oexB K (He.ga K x) && (decide (PySem.W.findIn K (.ref (He.ga K x)) "__setattr__" = some (some (.builtin "object.__setattr__"))) && (decide (PySem.W.subIn K (.ref (He.ga K x)) (.type "BaseException") = some true) &&
      (decide (PySem.W.typeIn K (.ref (He.ga K x)) = some (.type "type")) && PySem.W.keepIn K (.ref (He.ga K x)))))
  | .xfc x => xfB K (He.ga K x)
  | .init x => decide (PySem.W.findIn K (.ref (He.ga K x)) "__init__" = some (some (.ref (He.ma K (He.ga K x) "__init__")))) && decide (PySem.W.typeIn K (.ref (He.ma K (He.ga K x) "__init__")) = some (.type "function"))
  | .exk x => exkB K (He.ga K x)
  | .mki x b => PySem.W.makesIn K (He.ga K x) && (decide (PySem.W.findIn K (.ref (He.ga K x)) "__init__" = some (some (.ref (He.ma K (He.ga K b) "__init__")))) && (PySem.W.isFn K (.ref (He.ma K (He.ga K b) "__init__")) && PySem.W.keepIn K (.ref (He.ga K x))))
  | .kitt x t b => decide (PySem.W.kitOne K (.ref (He.ga K x)) (.type t) = some b)
  | .oeq x => decide (PySem.W.mroIn K (He.ga K x) (.type "object") = some true) && (decide (PySem.W.findIn K (.ref (He.ga K x)) "__eq__" = some (some (.builtin "object.__eq__"))) && decide (PySem.W.findIn K (.ref (He.ga K x)) "__ne__" = some (some (.builtin "object.__ne__"))))
  | .veb => isFoundVal (PySem.W.findCls K (.type "ValueError") (.type "type") "__init__") (.builtin "ValueError.__init__")
section
variable {K : PySem.W.Frag}
theorem ba2 {a b : Bool} (h : (a && b) = true) : a = true ∧ b = true := Bool.and_eq_true_iff.mp h
theorem exkB_ok {D : Addr} (h : exkB K D = true) : ExcC K D := by
  obtain ⟨h1, h⟩ := ba2 h
  obtain ⟨h2, h⟩ := ba2 h
  obtain ⟨h3, h⟩ := ba2 h
  obtain ⟨h4, h⟩ := ba2 h
  obtain ⟨h5, h⟩ := ba2 h
  obtain ⟨h6, h⟩ := ba2 h
  obtain ⟨h7, h8⟩ := ba2 h
  exact ⟨of_decide_eq_true h1, of_decide_eq_true h2, of_decide_eq_true h3, h4, of_decide_eq_true h5, of_decide_eq_true h6, of_decide_eq_true h7, of_decide_eq_true h8⟩
theorem exk_ok {x : Str} (c : (Xa.exk x).ok K = true) : ExcC K (He.ga K x) := exkB_ok c
theorem cfn_ok {x m : Str} (c : (Xa.cfn x m).ok K = true) : CFn K (He.ga K x) m (He.ma K (He.ga K x) m) := by
  obtain ⟨c1, c⟩ := ba2 c
  obtain ⟨c2, c⟩ := ba2 c
  obtain ⟨c3, c4⟩ := ba2 c
  exact ⟨of_decide_eq_true c1, c2, isFoundVal_ok c3, c4⟩
theorem isc_ok {x : Str} (c : (Xa.isc x).ok K = true) : IsC K (He.ga K x) := by
  obtain ⟨c1, c⟩ := ba2 c
  obtain ⟨c2, c⟩ := ba2 c
  obtain ⟨c3, c4⟩ := ba2 c
  exact ⟨of_decide_eq_true c1, of_decide_eq_true c2, of_decide_eq_true c3, of_decide_eq_true c4⟩
theorem oeq_ok {x : Str} (c : (Xa.oeq x).ok K = true) : OEq K (He.ga K x) := by
  obtain ⟨c1, c⟩ := ba2 c
  obtain ⟨c2, c3⟩ := ba2 c
  exact ⟨of_decide_eq_true c1, of_decide_eq_true c2, of_decide_eq_true c3⟩
theorem oeqs_nil : ∀ C ∈ ([] : List Addr), OEq K C := fun C h => nomatch h
theorem oeqs_cons {C : Addr} {cs : List Addr} (h : OEq K C) (t : ∀ C ∈ cs, OEq K C) : ∀ D ∈ C :: cs, OEq K D := fun D hd => by
  rcases List.mem_cons.mp hd with rfl | hd
  · exact h
  · exact t D hd
theorem kit_ok {x y : Str} {b : Bool} (c : (Xa.kit x y b).ok K = true) : PySem.W.kitOne K (.ref (He.ga K x)) (.ref (He.ga K y)) = some b := of_decide_eq_true c
theorem kitt_ok {x : Str} {t : String} {b : Bool} (c : (Xa.kitt x t b).ok K = true) : PySem.W.kitOne K (.ref (He.ga K x)) (.type t) = some b := of_decide_eq_true c
theorem oexB_ok {C : Addr} (h : oexB K C = true) : ∃ nm q N bs bm sn sub ab col dd k0 k1 k2 k3 k5, K.lookup C = some (excClassObj nm q C N bs bm true sn sub ab col dd k0 k1 k2 k3 k5 "ValueError.__new__") ∧ PySem.HandSPX.refsVE bm = true := by
  unfold oexB at h
  split at h
  · rename_i t dd cd sl ho
    obtain ⟨ht, h⟩ := ba2 h
    split at h
    · rename_i C' bm k0 k1 k2 k3 n k5 hm hs
      obtain ⟨h1, h⟩ := ba2 h
      obtain ⟨h2, h⟩ := ba2 h
      obtain ⟨h3, h⟩ := ba2 h
      obtain ⟨h4, h5⟩ := ba2 h
      have e1 := of_decide_eq_true h1
      have e2 := of_decide_eq_true h2
      have e3 : cd.hasDel = false := by simpa using h3
      have e0 := of_decide_eq_true ht
      obtain ⟨nm, bs, mro, ns, qn, hd, sn, sub, ab, col, del⟩ := cd
      dsimp only at hm e3 h4
      subst hm e3 h4 e1 e2 e0
      have hsl : sl = #[k0, k1, k2, k3, some (.builtin "ValueError.__new__"), k5] := by
        obtain ⟨l⟩ := sl
        simp only at hs
        rw [hs]
      subst hsl
      exact ⟨nm, qn, ns, bs, bm, sn, sub, ab, col, dd, k0, k1, k2, k3, k5, ho, h5⟩
    · cases h
  · cases h
theorem oex_ok {x : Str} (c : (Xa.oex x).ok K = true) : OexC K (He.ga K x) := by
  obtain ⟨c1, c⟩ := ba2 c
  obtain ⟨c2, c⟩ := ba2 c
  obtain ⟨c3, c⟩ := ba2 c
  obtain ⟨c4, c5⟩ := ba2 c
  exact ⟨oexB_ok c1, of_decide_eq_true c2, of_decide_eq_true c3, of_decide_eq_true c4, c5⟩
theorem xfc_ok {x : Str} (c : (Xa.xfc x).ok K = true) : XfC K (He.ga K x) := xfB_ok c
theorem init_ok {x : Str} (c : (Xa.init x).ok K = true) : PySem.W.findIn K (.ref (He.ga K x)) "__init__" = some (some (.ref (He.ma K (He.ga K x) "__init__"))) ∧ PySem.W.typeIn K (.ref (He.ma K (He.ga K x) "__init__")) = some (.type "function") := by
  obtain ⟨c1, c2⟩ := ba2 c
  exact ⟨of_decide_eq_true c1, of_decide_eq_true c2⟩
theorem veb_ok (c : Xa.veb.ok K = true) : PySem.W.findCls K (.type "ValueError") (.type "type") "__init__" = some (.val (.builtin "ValueError.__init__")) := isFoundVal_ok c
end
/-! the hook -/
structure SaysM (fa : List He.Fa) (fn : List He.DefD) (xa : List Xa) (K : PySem.W.Frag) : Prop where
  d : He.SaysD fa fn K
  x : (xa.all fun f => f.ok K) = true
/-- what the module's names reach, and the interpreter's own statics -/
def refsN (o : Obj) : List Addr := match o.data with
  | .cls cd => [cd.ns]
  | _ => He.refsO o
def lvN (g : Addr → Option Obj) : Nat → List Addr → List Addr
  | 0, _ => []
  | n + 1, fr => fr ++ lvN g n (fr.flatMap fun a => match g a with
    | some o => refsN o
    | none => [])
/-- level by level, no search for doubles (a class's mro is left out: its classes are the module's) -/
def asM (g : Addr → Option Obj) (n : Nat) : List Addr := PySem.cStatics :: lvN g (n + 1) [mainGlobals]
abbrev AlM : Type := He.AlD × Bool
def obsM (n : Nat) (fa : List He.Fa) (fn : List He.DefD) (xa : List Xa) (g : Addr → Option Obj) : AlM := (He.obsD fa fn (He.frG g (asM g n)), xa.all fun f => f.ok (He.frG g (asM g n)))
def hookM (n : Nat) (fa : List He.Fa) (fn : List He.DefD) (xa : List Xa) : PySem.W.Hook where
  α := AlM
  obs := fun s => obsM n fa fn xa s.heap.get?
  val := fun _ => (He.valD fn, true)
  says := fun _ h => ∃ K : PySem.W.Frag, K.In h ∧ SaysM fa fn xa K
  of := fun _ h e => ⟨_, He.frG_in, ⟨congrArg (fun z : AlM => z.1) e, congrArg (fun z : AlM => z.2) e⟩⟩
  keeps := fun _ _ _ ⟨K, hK, c⟩ k => ⟨K, PySem.W.Frag.In.keeps hK k, c⟩
theorem obsM_eq {n : Nat} {fa : List He.Fa} {fn : List He.DefD} {xa : List Xa} {g : Addr → Option Obj} {s : Shared} (h : ∀ a, g a = s.heap.get? a) : obsM n fa fn xa g = (hookM n fa fn xa).obs s := by
  have e : g = s.heap.get? := funext h
  rw [e] <;> rfl
section
variable {fa : List He.Fa} {fn : List He.DefD} {xa : List Xa} {K : PySem.W.Frag}
theorem SaysM.fact (c : SaysM fa fn xa K) (i : Nat) {f : He.Fa} (h : fa[i]? = some f := by rfl) : f.ok K = true := c.d.fact i h
theorem SaysM.def_ (c : SaysM fa fn xa K) (i : Nat) {d : He.DefD} (h : fn[i]? = some d := by rfl) : ∃ fd, FunD K d.name d.qual d.params d.body d.scope (d.dvs K) (d.kws K) (He.fAd K d.at_) fd := c.d.def_ i h
theorem SaysM.xact (c : SaysM fa fn xa K) (i : Nat) {f : Xa} (h : xa[i]? = some f := by rfl) : f.ok K = true := List.all_eq_true.mp c.x f (List.mem_of_getElem? h)
end

/-! ### fields -/
@[irreducible] def fldX (cs : List Addr) (f : Str) (x : V) (H : Hp) (Q : VK) : Prop := ∃ a C dx fs v, x = .ref a ∧ C ∈ cs ∧ H a = some (.ins C dx fs) ∧ fs.lookup f = some v ∧ Q v H
def eFld (cs : List Addr) (f : Str) (te : TE) : TE := fun σ H Q => te σ H fun x H1 => fldX cs f x H1 Q
theorem fld_i {cs : List Addr} {f : Str} {H : Hp} {Q : VK} {a C dx : Addr} {fs : List (Str × V)} {v : V} (h : H a = some (.ins C dx fs)) (hc : C ∈ cs) (hl : fs.lookup f = some v) (q : Q v H) : fldX cs f (.ref a) H Q := by
  unfold fldX
  exact ⟨a, C, dx, fs, v, rfl, hc, h, hl, q⟩
@[irreducible] def stfX (cs : List Addr) (f : Str) (y x : V) (H : Hp) (Q : Hp → Prop) : Prop := ∃ a C dx fs, x = .ref a ∧ C ∈ cs ∧ H a = some (.ins C dx fs) ∧ fs.length < 1000 ∧ Q (upd H a (.ins C dx (putF f y fs)))
def sStF (cs : List Addr) (f : Str) (tv to : TE) : TS := fun D σ H => tv σ H fun y H1 => to σ H1 fun x H2 => stfX cs f y x H2 (D.nx σ)
section
variable {X : Cx} {o e value : Expr} {es : List Expr} {f m : Str} {pos pos' apos p : Pos} {te to tv : TE} {t : TA} {cs : List Addr}
theorem mfld (he : PE X e te) (hc : ∀ C ∈ cs, Cls X.K C ∧ NoAttr X.K C f) (hb : attributeBase e f X.env (eval e X.env) = eval e X.env := by rfl) : PE X (.Attribute e f pos) (eFld cs f te) := by
  constructor
  intro pins s σ H Q I h
  refine attr_of hb (thn (he.run pins s σ H _ I h) ?_)
  rintro u s1 ⟨x, H1, I1, rx, q⟩
  unfold fldX at q
  obtain ⟨a, C, dx, fs, v, ex, hC, ea, l, q⟩ := q
  subst ex
  cases (show u = Value.ref a from rx)
  exact getattr_ok I1 ea (hc C hC).1 (hc C hC).2 l fun u' s2 I2 ru => ⟨v, H1, I2, ru, q⟩
theorem mstf (hv : PE X value tv) (ho : PE X o to) (hc : ∀ C ∈ cs, Cls X.K C ∧ NoAttr X.K C f) (hs : swapsWith value (some (.Attribute o f pos')) pos.line X.env = pure false := by rfl) :
    PS X (.Assign [.Attribute o f pos'] value pos) (sStF cs f tv to) := by
  constructor
  intro pins s σ H D I h
  refine plainObj_wpAny_Assign_Attribute (thn (hv.run pins s σ H _ I h) ?_) hs
  rintro u s1 ⟨y, H1, I1, ry, q⟩
  refine thn (ho.run pins s1 σ H1 _ I1 q) ?_
  rintro ov s2 ⟨x, H2, I2, rx, q2⟩
  unfold stfX at q2
  obtain ⟨a, C, dx, fs, ex, hC, ea, l, q2⟩ := q2
  subst ex
  cases (show ov = Value.ref a from rx)
  exact setattr_ok I2 ea (hc C hC).1 (hc C hC).2 l ry fun s3 I3 => ⟨σ, _, I3, q2⟩
theorem clc {P : Addr → Prop} {C : Addr} {cs : List Addr} (h : P C) (t : ∀ D ∈ cs, P D) : ∀ D ∈ C :: cs, P D := fun D hD => by
  rcases List.mem_cons.mp hD with e | e
  · rw [e]
    exact h
  · exact t D e

/-! ### methods, by the instance's class -/
@[irreducible] def dspX (tbl : List (Addr × Sp)) (m : Str) (x : V) (H : Hp) (R : Sp → Prop) : Prop := ∃ C sp, (C, sp) ∈ tbl ∧ isIns C m x H ∧ R sp
def eMethD (tbl : List (Addr × Sp)) (m : Str) (W : WX) (to : TE) (t : TA) : TE := fun σ H Q => to σ H fun x H1 => dspX tbl m x H1 fun sp => t σ H1 fun vs H2 => sp (x :: vs) H2 Q (fun cls d H3 => W cls d σ H3)
theorem dsp_i {tbl : List (Addr × Sp)} {H : Hp} {R : Sp → Prop} {a C dx : Addr} {fs : List (Str × V)} {sp : Sp} (h : H a = some (.ins C dx fs)) (hm : (C, sp) ∈ tbl) (hl : fs.lookup m = none) (q : R sp) : dspX tbl m (.ref a) H R := by
  unfold dspX
  exact ⟨C, sp, hm, ⟨a, dx, fs, rfl, h, hl⟩, q⟩
/-- what is asked of each class of the table -/
def DspOk (X : Cx) (m : Str) (tbl : List (Addr × Sp)) : Prop := ∀ C sp, (C, sp) ∈ tbl → ∃ f, Cls X.K C ∧ Meth X.K C m f ∧ Cal X f sp
theorem dsp0 : DspOk X m [] := fun C sp h => absurd h List.not_mem_nil
theorem dsp1 {C f : Addr} {sp : Sp} {tbl : List (Addr × Sp)} (c : Cls X.K C) (h : Meth X.K C m f) (k : Cal X f sp) (t : DspOk X m tbl) : DspOk X m ((C, sp) :: tbl) := fun D sp' hD => by
  rcases List.mem_cons.mp hD with e | e
  · cases e
    exact ⟨f, c, h, k⟩
  · exact t D sp' e
theorem mmeth {pl : Sem Bool} {W : WX} {tbl : List (Addr × Sp)} (ho : PE X o to) (d : DspOk X m tbl) (tk : Takes X W) (ha : PA X (e :: es) t)
    (hst : starEach (e :: es) X.env = (false, eval e X.env) :: starEach es X.env := by rfl) (hpl : (backTo pos (starEach es X.env)).any (·.1) = false := by rfl)
    (ht : eval (.Call (.Attribute o m apos) (e :: es) [] pos) X.env = (do
      let ov ← eval o X.env
      standAt apos.atName
      let (f, first) ← holding [ov] (getMethod ov m pl)
      callWith pos f first (backTo pos (starEach (e :: es) X.env)) (backToKw pos (keywordEach [] X.env))) := by rfl) :
    PE X (.Call (.Attribute o m apos) (e :: es) [] pos) (eMethD tbl m W to t) := by
  constructor
  intro pins s σ H Q I h
  refine PySem.W.methodCall_KW (pl := pl) (thn (ho.run pins s σ H _ I h) ?_) ht
  rintro u s1 ⟨x, H1, I1, rx, q⟩
  unfold dspX at q
  obtain ⟨C, sp, hm, ⟨a, dx, fs, ex, ea, l⟩, q⟩ := q
  obtain ⟨f, cl, hf, c⟩ := d C sp hm
  subst ex
  cases (show u = Value.ref a from rx)
  refine getmeth_ok I1 ea cl hf l (PySem.W.callWith_K (first := [.ref a]) (h₀ := X.base) I.ok.mod.kin hf.kp (thn (ha.run pos pins s1 σ H1 _ I1 q) ?_) hst hpl)
  rintro us s2 ⟨vs, H2, I2, r, q2⟩
  exact ⟨I2.kIn, c.run (us := .ref a :: us) (vs := .ref a :: vs) tk I2 (.cons rfl r) q2⟩
theorem mmeth0 {pl : Sem Bool} {W : WX} {tbl : List (Addr × Sp)} (ho : PE X o to) (d : DspOk X m tbl) (tk : Takes X W)
    (ht : eval (.Call (.Attribute o m apos) [] [] pos) X.env = (do
      let ov ← eval o X.env
      standAt apos.atName
      let (f, first) ← holding [ov] (getMethod ov m pl)
      callWith pos f first (backTo pos (starEach [] X.env)) (backToKw pos (keywordEach [] X.env))) := by rfl) :
    PE X (.Call (.Attribute o m apos) [] [] pos) (eMethD tbl m W to tNil) := by
  constructor
  intro pins s σ H Q I h
  refine PySem.W.methodCall_KW (pl := pl) (thn (ho.run pins s σ H _ I h) ?_) ht
  rintro u s1 ⟨x, H1, I1, rx, q⟩
  unfold dspX at q
  obtain ⟨C, sp, hm, ⟨a, dx, fs, ex, ea, l⟩, q⟩ := q
  obtain ⟨f, cl, hf, c⟩ := d C sp hm
  subst ex
  cases (show u = Value.ref a from rx)
  exact getmeth_ok I1 ea cl hf l (PySem.W.callWith_K0 (first := [.ref a]) I1.kIn hf.kp (c.run (us := [.ref a]) (vs := [.ref a]) tk I1 (.cons rfl .nil) q))
/-- C.m(self, ..): the def, read off its class -/
theorem mcfn {pl : Sem Bool} {W : WX} {x : Str} {np : Pos} {C g : Addr} {sp : Sp} (gl : Gl X x) (hm : X.mg x = some (.ref C)) (F : CFn X.K C m g) (c : Cal X g sp) (tk : Takes X W) (ha : PA X (e :: es) t)
    (hdb : (x == ("__debug__" : Str)) = false := by decide +kernel) (hst : starEach (e :: es) X.env = (false, eval e X.env) :: starEach es X.env := by rfl) (hpl : (backTo pos (starEach es X.env)).any (·.1) = false := by rfl)
    (ht : eval (.Call (.Attribute (.Name x np) m apos) (e :: es) [] pos) X.env = (do
      let ov ← eval (.Name x np) X.env
      standAt apos.atName
      let (f, first) ← holding [ov] (getMethod ov m pl)
      callWith pos f first (backTo pos (starEach (e :: es) X.env)) (backToKw pos (keywordEach [] X.env))) := by rfl) :
    PE X (.Call (.Attribute (.Name x np) m apos) (e :: es) [] pos) (eCall sp W t) := by
  constructor
  intro pins s σ H Q I h
  refine PySem.W.methodCall_KW (pl := pl) (ld_glob I gl hm ?_ hdb) ht
  refine PySem.W.method_cls I.kIn F.sp (PySem.W.cls_value I.kIn F.rd F.fc rfl ?_)
  have I' := I.tok (s.toks + 1)
  refine PySem.W.callWith_K (first := []) (h₀ := X.base) I.ok.mod.kin F.kp (thn (ha.run pos pins _ σ H _ I' h) ?_) hst hpl
  rintro us s2 ⟨vs, H2, I2, r, q2⟩
  exact ⟨I2.kIn, c.run tk I2 r q2⟩
/-! ### isinstance(x, C), x an instance of an own class -/
section
variable {K : PySem.W.Frag} {tbl : List (Addr × Bool)} {H : Hp} {Q : VK} {a : Addr} {xs : List V}
end
end
end MK

namespace MK
open PySem PySem.Spec PyProof.Rows L2

/-! ### an own exception, made by its own __init__ -/
/-- C(..), told by its fields; the exception itself is no one's -/
@[irreducible] def nwX (C : Addr) (fs : List (Str × V)) (H : Hp) (Q : XK) : Prop := ∀ d, H d = none → Q (.ref C) (some d) (upd H d (.xd fs))
def excX (C : Addr) (fl : List Str) (vs : List V) (H : Hp) (Q : XK) : Prop := vs.length = fl.length ∧ nwX C ((fl.zip vs).reverse) H Q
theorem nwx_S {C : Addr} {fs fs' : List (Str × V)} {H : Hp} {Q : XK} {ps : List SP} (S : Star H ps) (q : ∀ d H', Star H' (pt d (.xd fs') :: ps) → Q (.ref C) (some d) H') (e : fs = fs' := by rfl) : nwX C fs H Q := by
  subst e
  unfold nwX
  exact fun d hd => q d _ (S.new' hd id)
/-- what the making asks of the __init__ -/
def mkO (C : Addr) (sp : Sp) (vs : List V) (H1 : Hp) (Q : XK) : Prop := vs.length ≤ 1000 ∧ ∀ a, H1 a = none → sp (.ref a :: vs) (upd H1 a (exo a C none))
  (fun v H2 => v = .non ∧ ∃ (d : Addr) (fs : List (Str × V)), H2 a = some (exo a C (some d)) ∧ H2 d = some (exd d fs) ∧ H1 d = none ∧ Q (.ref C) (some d) (upd (del H2 a) d (.xd fs))) (fun _ _ _ => False)
section
variable {X : Cx} {x : Str} {C fI : Addr} {sp : Sp} {e : Expr} {es : List Expr} {ta : TA} {p pos : Pos} {fl : List Str}
theorem pmk_exc (T : OexC X.K C) (iC : PySem.W.findIn X.K (.ref C) "__init__" = some (some (.ref fI)) ∧ PySem.W.typeIn X.K (.ref fI) = some (.type "function")) (c : CalM X fI sp)
    (hsp : ∀ vs H Q, excX C fl vs H Q → mkO C sp vs H Q) (gl : Gl X x) (hm : X.mg x = some (.ref C)) (ha : PA X (e :: es) ta)
    (hdb : (x == ("__debug__" : Str)) = false := by decide +kernel) (he : starEach (e :: es) X.env = (false, eval e X.env) :: starEach es X.env := by rfl) (hpl : (backTo pos (starEach es X.env)).any (·.1) = false := by rfl) :
    PMk X (.Call (.Name x p) (e :: es) [] pos) (fun σ H Q => ta σ H fun vs H1 => excX C fl vs H1 Q) := by
  intro pins s σ H Q I h
  obtain ⟨nm, q, N, bs, bm, sn, sub, ab, col, dd, k0, k1, k2, k3, k5, hC, hbm⟩ := T.cls
  obtain ⟨k, fd, ps, hr, hg, hb, Fg⟩ := c.ex
  refine wpAny_Call_Name_kw (ld_glob I gl hm ?_ hdb)
  refine PySem.W.callWith_K (h₀ := X.base) I.ok.mod.kin T.kC (thn (ha.run pos pins s σ H _ I h) ?_) he hpl
  rintro us s1 ⟨vs, H1, I1, r1, q0⟩
  obtain ⟨hz, q1⟩ := hsp vs H1 Q q0
  refine ⟨I1.kIn, ?_⟩
  show wpAny _ _ (call (.ref C) us) _ _ _
  obtain ⟨hp, g, dr, tk, os⟩ := s1
  obtain ⟨n, en⟩ : ∃ n, n = hp.objs.size + 1 := ⟨_, rfl⟩
  have hsz : hp.objs.size ≤ n := by omega
  have hn : H1 n = none := I1.hok.fresh hsz
  have hq := q1 n hn
  have kk : ∀ b o, hp.get? b = some o → ((hp.push (PySem.W.kdv_tup us)).push (PySem.HandSPX.excO C hp.objs.size)).get? b = some o := fun b o z => Heap.get?_push_of_some _ (Heap.get?_push_of_some _ z)
  have hget : ((hp.push (PySem.W.kdv_tup us)).push (PySem.HandSPX.excO C hp.objs.size)).get? n = some (PySem.HandSPX.excO C hp.objs.size) := by
    rw [en]
    heap_get
  have I2 : Inv X pins σ (upd H1 n (exo n C none)) ⟨(hp.push (PySem.W.kdv_tup us)).push (PySem.HandSPX.excO C hp.objs.size), g, dr, tk, os⟩ := I1.laid (t' := tk) kk hsz (exo_ok hget)
  have r2 : Vals (V.ref n :: vs) (Value.ref n :: us) := .cons rfl r1
  have hl : (Value.ref n :: us).length = ps.length := by
    rw [← r2.length]
    exact Fg.len _ _ _ _ hq
  have b := hb _ (Value.ref n :: us) I2.kIn (by rw [List.append_nil]; exact hl)
  rw [List.append_nil] at b
  have hus : us.length ≤ sizeLine := by
    rw [← Paired.length r1, sizeLine_eq]
    omega
  have run := Fg.run (X.A.under (.builtin "type.__call__" ⟨.ref C :: us, []⟩)) X.stack _ _ ⟨Value.ref n :: us, []⟩ (Value.ref n :: us) _ _ _ (hr.make C us []) (by rw [make_guards]; exact hg) (I2.env0.make C us []) b r2 hq
  subst en
  refine wpAny_call (PySem.HandSPX.call_own F.excBase_ValueError (fun Y => PySem.HandSPX.refsVE_contains Y bm hbm) (I1.kIn _ _ hC) (PySem.W.looks_findIn I1.kIn iC.1) (fun self => PySem.W.bind_fn I1.kIn self iC.2) hus (codeAny_mono run ?_))
  intro r s' z
  rcases r with er | (u | _ | _ | _)
  · obtain ⟨_, _, _, _, _, _, _, _, _, _, _, _, y⟩ := z
    exact y.elim
  · exact z.elim
  · exact z.elim
  · exact z.elim
  · obtain ⟨v, H2, os2, bare2, un2, hok2, rv, ev, d, fs, ea, ed, hd1, q2⟩ := z
    subst ev
    obtain ⟨h2, g2, d2, t2, os'⟩ := s'
    exact ⟨rv, mk_end (raises_own T.exC T.tyC) I1 hsz kk un2 hok2 os2 bare2 ea ed hd1 q2⟩
end
/-- the base class's __init__ leaves the exception that is being made as it is -/
def KeepsM (K : PySem.W.Frag) (spM : Sp) : Prop := ∀ (a C : Addr) (t : Str) (H : Hp) (Q : VK) (E : XK), OexC K C → H a = some (exo a C none) → Q .non H → spM [.ref a, .str t] H Q E
theorem keepsM {K : PySem.W.Frag} {sp : Sp} (hi : ∀ a0 a1 H Q E, sDrop (tVeI K (aC (eV 0) (aC (eV 1) aN))) (endOf Q) [some a0, some a1] H → sp [a0, a1] H Q E) : KeepsM K sp := fun a C t H Q E T e q => by
  refine hi _ _ _ _ _ ?_
  show ∃ (a' C' : Addr) (ws : List V), _
  exact ⟨a, C, [.str t], rfl, by show 1 ≤ 1000; decide, T, e, q⟩
section
variable {K : PySem.W.Frag} {C : Addr} {sp spM : Sp} {f g txt : Str}
theorem upd_back {H : Hp} {a d : Addr} {fs : List (Str × V)} {o1 o2 o3 : HO} (ha : H a = none) (hne : d ≠ a) : upd (del (upd (upd (upd H a o1) d o2) a o3) a) d (.xd fs) = upd H d (.xd fs) := by
  funext b
  by_cases hd : b = d
  · subst hd
    rw [upd_same, upd_same]
  · rw [upd_ne hd, upd_ne hd]
    by_cases hb : b = a
    · subst hb
      rw [del_same, ha]
    · rw [del_ne hb, upd_ne hb, upd_ne hd, upd_ne hb]
theorem exc_one (T : OexC K C) (hno : PySem.W.findIn K (.ref C) f = some none) (hM : KeepsM K spM)
    (hi : ∀ a0 a1 H Q E, tSeq (sDrop (eCall spM (wE E) (aC (eV 0) (aC (eC (.str txt)) aN)))) (tOst K f (eV 0) (eV 1)) (endOf Q) [some a0, some a1] H → sp [a0, a1] H Q E) :
    ∀ vs H Q, excX C [f] vs H Q → mkO C sp vs H Q := by
  intro vs H Q h
  obtain ⟨hl, q⟩ := h
  match vs, hl with
  | [v], _ =>
    refine ⟨by show 1 ≤ 1000; decide, fun a ha => hi _ _ _ _ _ ?_⟩
    refine hM a C txt _ _ _ T upd_same ?_
    show ∃ a' C' : Addr, _
    refine ⟨a, C, rfl, T, hno, .inl ⟨upd_same, fun dx hdx hne => ?_⟩⟩
    rw [upd_ne hne] at hdx
    unfold nwX at q
    refine ⟨rfl, dx, [(f, v)], upd_same, by rw [upd_ne hne, upd_same], hdx, ?_⟩
    rw [upd_back ha hne]
    exact q dx hdx
end
/-- raise C(..) -/
def sRaise (C : Addr) (fl : List Str) (W : WX) (ta : TA) : TS := fun _ σ H => ta σ H fun vs H1 => excX C fl vs H1 fun cls d H' => W cls d σ H'
theorem mraise {X : Cx} {W : WX} {e : Expr} {C : Addr} {fl : List Str} {ta : TA} {pos : Pos} (tk : Takes X W) (he : PMk X e (fun σ H Q => ta σ H fun vs H1 => excX C fl vs H1 Q)) (hc : X.calm = true := by rfl) : PS X (.Raise (some e) none pos) (sRaise C fl W ta) := ps_raise hc tk he

/-! ### try .. except C as e -/
@[irreducible] def wAsM (tbl : List (Value × Bool)) (i : Nat) (ts : Addr → Value → Option Addr → TS) (Wout : WX) (D : Ends) : WX := fun cls d σ H =>
  ((cls, true) ∈ tbl ∧ ∀ a, H a = none → ts a cls d { nx := fun σ' H' => D.nx (σ'.set i none) H', rt := D.rt, bk := fun σ' H' => D.bk (σ'.set i none) H', ct := fun σ' H' => D.ct (σ'.set i none) H' } (σ.set i (some (.ref a))) H) ∨
    ((cls, false) ∈ tbl ∧ Wout cls d σ H)
def sTryAs (tbl : List (Value × Bool)) (i : Nat) (W : WX) (tb : WX → TS) (ts : Addr → Value → Option Addr → TS) : TS := fun D σ H => tb (wAsM tbl i ts W D) D σ H
section
variable {tbl : List (Value × Bool)} {i : Nat} {ts : Addr → Value → Option Addr → TS} {Wout : WX} {D : Ends} {cls : Value} {d : Option Addr} {σ : L2.St} {H : Hp}
theorem was_y (h : (cls, true) ∈ tbl) (q : ∀ a, H a = none → ts a cls d { nx := fun σ' H' => D.nx (σ'.set i none) H', rt := D.rt, bk := fun σ' H' => D.bk (σ'.set i none) H', ct := fun σ' H' => D.ct (σ'.set i none) H' } (σ.set i (some (.ref a))) H) :
    wAsM tbl i ts Wout D cls d σ H := by
  unfold wAsM
  exact .inl ⟨h, q⟩
end
section
variable {X : Cx} {x n : Str} {c : Value} {i : Nat} {body suite : List Stmt} {b₀ : Stmt} {np pos pos' : Pos} {tb : WX → TS} {ts : Addr → Value → Option Addr → TS} {Wout : WX} {tbl : List (Value × Bool)}
theorem mtry_as (hs : X.stack = X.env :: X.outer) (hf : X.env.frame = some X.env.locals) (hN : X.N.Nodup) (hi : X.N[i]? = some n) (hln : X.env.kindOf n = some .local) (hc : Names X x c) (tk : Takes X Wout)
    (ht : ∀ cls b, (cls, b) ∈ tbl → PySem.W.exmOne X.K cls c = some b)
    (hb : ∀ (W : WX) (pn : List (Addr × Obj)) (xe : Value → Shared → Prop), Takes (X.tr pn xe) W → PassesOwn (model X.prog X.w) X.A X.env xe → PSs (X.tr pn xe) body (tb W))
    (hsu : ∀ (a : Addr) (oe : Obj) (cls : Value) (d : Option Addr) (pn : List (Addr × Obj)), Zc cls d oe → (∃ vs, oe.data = .fields vs) → PSs (X.suite a ((a, oe) :: pn)) (b₀ :: suite) (ts a cls d)) :
    PS X (.Try body [.ExceptHandler (some (.Name x np)) (some n) (b₀ :: suite) pos'] [] [] pos) (sTryAs tbl i Wout tb ts) := by
  have R := ps_try_as (pos := pos) (np := np) (pos' := pos') (tb := fun W D σ H => ∃ W' : WX, (∀ c d σ H, W' c d σ H → W c d σ H) ∧ tb W' D σ H) hs hf hN hi hln hc tk (fun W pn xe t po => ⟨fun pins s σ H D I h => by
    obtain ⟨W', hw, h⟩ := h
    exact (hb W' pn xe (t.imp hw) po).run pins s σ H D I h⟩) hsu
  refine ⟨fun pins s σ H D I h => R.run pins s σ H D I ⟨_, ?_, h⟩⟩
  intro cls d σ' H' q
  unfold wAsM at q
  rcases q with ⟨hm, q⟩ | ⟨hm, q⟩
  · exact ⟨true, ht _ _ hm, fun _ => q, fun z => by cases z⟩
  · exact ⟨false, ht _ _ hm, (fun z => by cases z), fun _ => q⟩
end
/-! e.f in the suite -/
@[irreducible] def exfX (cls : Value) (d : Option Addr) (cs : List Addr) (f : Str) (H : Hp) (Q : VK) : Prop := ∃ (C dd : Addr) (fs : List (Str × V)) (v : V), cls = .ref C ∧ C ∈ cs ∧ d = some dd ∧ H dd = some (.xd fs) ∧ fs.lookup f = some v ∧ Q v H
theorem exf_i {C dd : Addr} {cs : List Addr} {f : Str} {H : Hp} {Q : VK} {fs : List (Str × V)} {v : V} (h : H dd = some (.xd fs)) (hc : C ∈ cs) (hl : fs.lookup f = some v) (q : Q v H) : exfX (.ref C) (some dd) cs f H Q := by
  unfold exfX
  exact ⟨C, dd, fs, v, rfl, hc, rfl, h, hl, q⟩
def eXf (a : Addr) (cls : Value) (d : Option Addr) (cs : List Addr) (f : Str) (te : TE) : TE := fun σ H Q => te σ H fun x H1 => x = .ref a ∧ exfX cls d cs f H1 Q
theorem mxf {X : Cx} {a : Addr} {oe : Obj} {cls : Value} {d : Option Addr} {e : Expr} {te : TE} {pos : Pos} {n : Str} {cs : List Addr} (hcs : ∀ C ∈ cs, XfC X.K C ∧ PySem.W.findIn X.K (.ref C) n = some none)
    (hz : Zc cls d oe) (hf : ∃ vs, oe.data = .fields vs) (he : PE X e te) (hb : attributeBase e n X.env (eval e X.env) = eval e X.env := by rfl) (hp : (a, oe) ∈ X.pn := by exact List.mem_cons_self) :
    PE X (.Attribute e n pos) (eXf a cls d cs n te) := by
  constructor
  intro pins s σ H Q I h
  refine attr_of hb (thn (he.run pins s σ H _ I h) ?_)
  rintro u s1 ⟨x, H1, I1, rx, ex, q⟩
  subst ex
  cases (show u = Value.ref a from rx)
  unfold exfX at q
  obtain ⟨C, dd, fs, v, ec, hC, ed, ea, l, q⟩ := q
  subst ec ed
  obtain ⟨T, hno⟩ := hcs C hC
  obtain ⟨ha, _⟩ := I1.pin (a, oe) (List.mem_append_left _ hp)
  obtain ⟨vs, hd⟩ := hf
  obtain ⟨mA, hns, hr⟩ : ObjOk X.prog X.w H1 s1.heap dd (.xd fs) := I1.hok dd _ ea
  obtain ⟨od, ho, hl⟩ := lookIn_ns hns
  obtain ⟨u, hu, ru⟩ := RelO.some_of (v := v) (o := mA n) (by rw [← l]; exact hr n)
  have J : PySem.W.InstAt s1.heap a oe C (some od) := ⟨ha, hz.1, by unfold PySem.W.notCls; rw [hd] <;> rfl, by rw [hz.2]; exact ho⟩
  exact PySem.HandSPX.exc_get I1.kIn J T.ga T.gg T.exC (PySem.W.findObj_own T.hdC hno rfl (by rw [hl, hu])) (handed_of ru) ⟨v, H1, I1.tok _, ru, q⟩
end MK

namespace MK
open PySem PySem.Spec PyProof.Rows L2

/-! ### methods of lists -/
theorem tyv_l {K : PySem.W.Frag} {H : Hp} {a : Addr} {xs : List V} (h : H a = some (.lst xs)) : tyV K "list" (.ref a) H := .inl ⟨rfl, xs, .of h⟩
@[irreducible] def opApp : V → List V → Hp → VK → Prop := rAppend
theorem t_app {X : Cx} : MtM X "list.append" opApp := by
  unfold opApp
  exact mt_append
section
variable {K : PySem.W.Frag} {H : Hp} {Q : VK} {ps : List SP} {a : Addr} {xs : List V} {y : V}
theorem app_S (S : Star H (pt a (.lst xs) :: ps)) (z : xs.length < 16777216) (q : ∀ H', Star H' (pt a (.lst (xs ++ [y])) :: ps) → Q .non H') : opApp (.ref a) [y] H Q := by
  unfold opApp
  exact ⟨a, xs, y, rfl, rfl, S.get, by rw [sizeLine_eq]; exact z, q _ S.updL⟩
@[irreducible] def enX (K : PySem.W.Frag) (vs : List V) (H : Hp) (R : It → Hp → Prop) : Prop := ∃ a xs, vs = [.ref a] ∧ SqL K H a xs ∧ R (Ite K a) H
def iEn (K : PySem.W.Frag) (ta : TA) : TI := fun σ H R => ta σ H fun vs H1 => enX K vs H1 R
theorem menu {X : Cx} {e : Expr} {ta : TA} {p pos tpos : Pos} {elts : List Expr} {kk : Nat} (hg : Gl X "enumerate") (hm : X.mg "enumerate" = none) (ha : PA X [e] ta) (hs : starEach [e] X.env = [(false, eval e X.env)] := by rfl) :
    PI X (.Tuple elts kk tpos) (.Call (.Name "enumerate" p) [e] [] pos) (iEn X.K ta) := by
  have e : iEn X.K ta = iEnum X.K ta := by
    unfold iEn iEnum enX
    rfl
  rw [e]
  exact pi_enum hg hm ha hs
theorem en_l {R : It → Hp → Prop} (h : H a = some (.lst xs)) (q : R (Ite K a) H) : enX K [.ref a] H R := by
  unfold enX
  exact ⟨a, xs, rfl, .of h, q⟩
theorem pair_S {i : Nat} {v : V} {fi fx' : Nat → Option V} {H' : Hp} (S : Star H ps) (y : YPair fi fx' i H v H') : ∃ T x z, v = .ref T ∧ fi i = some x ∧ fx' i = some z ∧ Star H' (fx T (.tup [x, z]) :: ps) := by
  obtain ⟨T, x, z, h1, h2, h3, h4, h5⟩ := y
  subst h1 h3
  exact ⟨T, x, z, rfl, h4, h5, S.newT h2⟩
end
theorem stf_S {cs : List Addr} {f : Str} {y : V} {H : Hp} {ps : List SP} {Q : Hp → Prop} {a C dx : Addr} {fs : List (Str × V)} (S : Star H (pt a (.ins C dx fs) :: ps)) (hc : C ∈ cs) (z : fs.length < 1000) (q : ∀ H', Star H' (pt a (.ins C dx (putF f y fs)) :: ps) → Q H') : stfX cs f y (.ref a) H Q := by
  unfold stfX
  exact ⟨a, C, dx, fs, rfl, hc, S.get, z, q _ (S.upd' id)⟩
theorem Star.ints {H : Hp} {F : List SP} : ∀ {xs : List Nat}, Star H F → Star H (dats (xs.map fun k => V.int (k : Nat)) (xs.map fun k => PyData.int (k : Nat)) :: F)
  | [], S => dats_n.mpr ⟨rfl, S⟩
  | x :: xs, S => dats_c.mpr ⟨_, _, rfl, dat_i.mpr ⟨rfl, Star.ints (xs := xs) S⟩⟩
theorem Fr.ints {ps qs : List SP} {xs : List Nat} (h : Fr ps qs) : Fr ps (dats (xs.map fun k => V.int (k : Nat)) (xs.map fun k => PyData.int (k : Nat)) :: qs) := fun H S => Star.ints (h H S)
theorem Star.mkI {C x dx : Addr} {H : Hp} {ps : List SP} (S : Star H ps) (hx : H x = none) (hd : H dx = none) (hne : dx ≠ x) : Star (upd (upd H dx (.own x)) x (.ins C dx [])) (pt x (.ins C dx []) :: ps) := by
  have S1 : Star (upd H dx (.own x)) (pt dx (.own x) :: ps) := S.new' hd id
  have S2 := S1.new' (a := x) (o := .ins C dx []) (by rw [upd_ne (Ne.symm hne)]; exact hx) id
  exact S2.p1.tail
/-- the j-th statement of a class's body -/
def clsAt (s : Stmt) (j : Nat) : Stmt := match s with
  | .ClassDef _ _ _ b _ _ _ _ _ _ _ => b.getD j (.Pass ⟨0, 0, 0, 0⟩)
  | _ => .Pass ⟨0, 0, 0, 0⟩
theorem cl0 {P : Addr → Prop} : ∀ D ∈ ([] : List Addr), P D := fun D hD => absurd hD List.not_mem_nil
section
variable {X : Cx} {D C : Addr} {b : Bool} {tbl : List (Addr × Bool)} {xt : List (Value × Bool)} {cls c : Value}
theorem xt0 : ∀ cls b, (cls, b) ∈ ([] : List (Value × Bool)) → PySem.W.exmOne X.K cls c = some b := fun C b h => absurd h List.not_mem_nil
theorem xt1 (h : PySem.W.exmOne X.K cls c = some b) (t : ∀ cls b, (cls, b) ∈ xt → PySem.W.exmOne X.K cls c = some b) : ∀ cls' b', (cls', b') ∈ (cls, b) :: xt → PySem.W.exmOne X.K cls' c = some b' := fun C' b' hm => by
  rcases List.mem_cons.mp hm with e | e
  · cases e
    exact h
  · exact t C' b' e
/-- a class, read -/
theorem mcls {x : Str} {p : Pos} (gl : Gl X x) (hm : X.mg x = some (.ref C)) (hdb : (x == ("__debug__" : Str)) = false := by decide +kernel) : PE X (.Name x p) (eC (.ref C)) := by
  constructor
  intro pins s σ H Q I h
  exact ld_glob I gl hm ⟨.ref C, H, I.tok _, rfl, h⟩ hdb
end
end MK

/-! isinstance of a caught error that has fields -/
namespace PySem.W
open PySem PySem.Spec PySem.Calls PyProof.Rows
section
variable {prog : Program} {w : World} {A : Around} {E : Value → Shared → Prop} {s : Shared} {K : Frag} {x D : Addr} {ox : Obj} {od : Option Obj}
theorem mk_findData {C : Addr} {name : Str} {a g : Value} (hc : (clsIn K C).isSome = true) (ha : findIn K (.ref C) name = some (some a)) (hg : specialIn K a "__get__" = some (some g)) (ht : takesIn K a = some true) : findObj K C od name = some (.bind g a) := by
  cases hcd : clsIn K C with
  | none =>
    rw [hcd] at hc
    cases hc
  | some cd =>
    unfold findObj
    rw [hcd, Option.bind_some, ha, Option.bind_some]
    simp [hg, ht]
theorem mk_kinE {Q : Option Value → Shared → Prop} (e : L2.ExcC K D) (X : K.In s.heap) (I : InstAt s.heap x ox D od) (h : Q (some (.ref D)) { s with toks := s.toks + 1 }) : wpAny (model prog w) A (getAttr? (.ref x) "__class__") Q E s := by
  have hf : findObj K D od "__class__" = some (.bind (.builtin "getset_descriptor.__get__") (.builtin "object.__class__")) := mk_findData (by obtain ⟨cd, hc, _⟩ := any_some e.hd; rw [hc]; rfl) e.ha e.hn e.ht
  obtain ⟨hp, g, d, t, os⟩ := s
  have y0 := I.type (M := model prog w)
  have y1 := looks_findIn (M := model prog w) X e.hg
  have y2 := looks_findIn (M := model prog w) X e.hk
  have y3 := looks_find (M := model prog w) X I hf
  have sub : Looks (model prog w) hp (isInstance (.ref x) (.type "BaseException")) true := y0.andThen (looks_subIn X e.hs)
  have z0 : (false && onTheHeap (Value.builtin "BaseException.__getattribute__")) = false := rfl
  have z2 : (Value.builtin "BaseException.__getattribute__" == Value.builtin "object.__getattribute__") = false := by decide +kernel
  have z1 : (onTheHeap (Value.ref D) && Value.builtin "BaseException.__getattribute__" == Value.builtin "object.__getattribute__") = false := by rw [z2]; rfl
  unfold getAttr? getAttrBy? getAttrBy
  refine wpAny_bind (wpAny_mkText (wpAny_bind (wpAny_attempt (wpAny_holding (wpAny_bind (y0.at (wpAny_bind (y1.at ?_))))))))
  show wpAny _ _ (if (onTheHeap (Value.ref D) && Value.builtin "BaseException.__getattribute__" == Value.builtin "object.__getattribute__") = true then _ else _) _ _ _
  rw [z1, if_neg Bool.false_ne_true]
  unfold getAttrByItsOwn hookBefore
  refine wpAny_bind ?_
  rw [if_pos (show onTheHeap (Value.ref D) = true from rfl)]
  refine y2.at ?_
  refine wpAny_bind (wpAny_attempt (wpAny_holding ?_))
  unfold callGetattribute
  rw [z0, if_neg Bool.false_ne_true]
  unfold boundAndCalled
  rw [PySem.F.excAttr_ValueError.ga.bind (.ref x)]
  refine wpAny_bind (wpAny_pure ?_)
  show wpAny _ _ (call (.builtin "BaseException.__getattribute__") [.ref x, .str "__class__" t]) _ _ _
  refine wpAny_call (codeAny_call_builtin PySem.F.excAttr_ValueError.ga.plain PySem.F.entry_bexc_ga ?_)
  refine @check_slot (model prog w) _ _ ⟨hp, g, d, t + 1, os⟩ "BaseException.__getattribute__" "BaseException" "__getattribute__" (.ref x) [.str "__class__" t] [] _ (by decide +kernel) (by decide +kernel) sub (PySem.F.args_bexc_ga (.ref x) (.str "__class__" t)) ?_
  unfold Builtin.«object.__getattribute__»
  refine wpAny_bind (wpAny_of_eq (a := ((Value.ref x : Value), [Value.str "__class__" t])) (by first | rfl | (simp only [slotArgs]; rfl)) ?_)
  refine wpAny_bind (wpAny_pure (wpAny_bind (y0.at (wpAny_bind (y3.at ?_)))))
  show wpAny _ _ (holding [Value.builtin "object.__class__"] (call (.builtin "getset_descriptor.__get__") [.builtin "object.__class__", .ref x, .ref D]) >>= ret) _ _ _
  refine wpAny_bind (wpAny_holding (wpAny_call (class_get (s := ⟨hp, g, d, t + 1, os⟩) (ox := ox) (od := od) X I e.hm ?_)))
  refine wpAny_pure ?_
  show wpAny _ _ (handedOut (.ref D)) _ _ _
  rw [handedOut_of (v := .ref D) rfl]
  first
    | exact wpAny_pure (wpAny_pure h)
    | exact wpAny_pure h
    | exact wpAny_pure (wpAny_bind (wpAny_pure (wpAny_pure h)))
theorem mk_kitE (e : L2.ExcC K D) : KitX K (.ref x) (.ref D) (fun h => InstAt h x ox D od) where
  ty := fun _ _ _ I => I.type
  it := fun _ _ X _ => by
    obtain ⟨cdD, hcD, _⟩ := any_some e.hd
    unfold clsIn at hcD
    split at hcD
    · rename_i c' d' cd' sl' ho
      intro A' Q' E' s' k q
      unfold isType loadHead
      exact wpAny_bind (wpAny_loadPart (k _ _ (X _ _ ho)) (wpAny_pure q))
    · cases hcD
  ne := fun h tp dd its n sl X htp => by
    obtain ⟨cdD, hcD, _⟩ := any_some e.hd
    refine Bool.eq_false_iff.mpr fun q => ?_
    have e : D = tp := Value.ref.inj (beq_iff_eq.mp q)
    subst e
    unfold clsIn at hcD
    split at hcD
    · rename_i c' d' cd' sl' ho
      have z := (X _ _ ho).symm.trans htp
      cases z
    · cases hcD
  ca := fun X I k => mk_kinE e X I k
end
end PySem.W
namespace MK
open PySem PySem.Spec PyProof.Rows L2
@[irreducible] def exiX (cls : Value) (d : Option Addr) (tbl : List (Addr × Bool)) (H : Hp) (Q : VK) : Prop := ∃ (C dd : Addr) (b : Bool) (fs : List (Str × V)), cls = .ref C ∧ (C, b) ∈ tbl ∧ d = some dd ∧ H dd = some (.xd fs) ∧ Q (.bl b) H
theorem exi_i {C dd : Addr} {b : Bool} {tbl : List (Addr × Bool)} {H : Hp} {Q : VK} {fs : List (Str × V)} (h : H dd = some (.xd fs)) (hm : (C, b) ∈ tbl) (q : Q (.bl b) H) : exiX (.ref C) (some dd) tbl H Q := by
  unfold exiX
  exact ⟨C, dd, b, fs, rfl, hm, rfl, h, q⟩
def cIsE (a : Addr) (cls : Value) (d : Option Addr) (D : Addr) (tbl : List (Addr × Bool)) : List V → Hp → VK → Prop := fun xs H Q => match xs with
  | [x, .ref E] => (x = .ref a ∧ E = D) ∧ exiX cls d tbl H Q
  | _ => False
/-- where the error stands, behind a pin -/
theorem exi_core {X : Cx} {pins : List (Addr × Obj)} {σ : L2.St} {s : Shared} {a : Addr} {oe : Obj} {cls : Value} {d : Option Addr} {tbl : List (Addr × Bool)} {H : Hp} {Q : VK} {t : Value → Bool → Prop} (I : Inv X pins σ H s) (hp : (a, oe) ∈ X.pn) (hz : Zc cls d oe) (hf : ∃ vs, oe.data = .fields vs)
    (ht : ∀ C b, (C, b) ∈ tbl → ExcC X.K C ∧ t (.ref C) b) (q : exiX cls d tbl H Q) : ∃ C b od, ExcC X.K C ∧ t (.ref C) b ∧ PySem.W.InstAt s.heap a oe C (some od) ∧ Q (.bl b) H := by
  unfold exiX at q
  obtain ⟨C, dd, b, fs, ec, hm, ed, ea, q⟩ := q
  subst ec ed
  obtain ⟨hC, hk⟩ := ht C b hm
  obtain ⟨hget, _⟩ := I.pin (a, oe) (List.mem_append.mpr (.inl hp))
  obtain ⟨vs, hv⟩ := hf
  obtain ⟨mA, hns, hr⟩ : ObjOk X.prog X.w H s.heap dd (.xd fs) := I.hok dd _ ea
  obtain ⟨od, ho, hl⟩ := lookIn_ns hns
  exact ⟨C, b, od, hC, hk, ⟨hget, hz.1, by unfold PySem.W.notCls; rw [hv] <;> rfl, by rw [hz.2]; exact ho⟩, q⟩
theorem k_isE {X : Cx} {a D : Addr} {oe : Obj} {cls : Value} {d : Option Addr} {tbl : List (Addr × Bool)} (ht : ∀ C b, (C, b) ∈ tbl → ExcC X.K C ∧ PySem.W.kitOne X.K (.ref C) (.ref D) = some b) (hz : Zc cls d oe) (hf : ∃ vs, oe.data = .fields vs) (hp : (a, oe) ∈ X.pn := by exact List.mem_cons_self) :
    CallR X (.builtin "isinstance") (cIsE a cls d D tbl) := by
  intro pins s σ H xs us Q I r h
  unfold cIsE at h
  split at h
  · rename_i x E
    obtain ⟨⟨e1, e2⟩, q⟩ := h
    subst e1 e2
    obtain ⟨C, b, od, hC, hk, J, q⟩ := exi_core (t := fun c b => PySem.W.kitOne X.K c (.ref E) = some b) I hp hz hf ht q
    obtain ⟨u1, u2, rfl, r1, r2⟩ := vals2 r
    cases (show u1 = Value.ref a from r1)
    cases (show u2 = Value.ref E from r2)
    exact PySem.W.kia_one (PySem.W.mk_kitE hC) I.kIn J hk (fun z => nomatch z) fun tk => ⟨.bl b, H, I.kept (t' := tk) fun _ _ z => z, rfl, q⟩
  · exact h.elim
/-- isinstance(e, T), T a built-in class -/
def cIsEB (a : Addr) (cls : Value) (d : Option Addr) (T : String) (tbl : List (Addr × Bool)) : List V → Hp → VK → Prop := fun xs H Q => match xs with
  | [x, c] => (x = .ref a ∧ c = .ty T) ∧ exiX cls d tbl H Q
  | _ => False
theorem k_isEB {X : Cx} {a : Addr} {T : String} {oe : Obj} {cls : Value} {d : Option Addr} {tbl : List (Addr × Bool)} (ht : ∀ C b, (C, b) ∈ tbl → ExcC X.K C ∧ PySem.W.kitOne X.K (.ref C) (.type T) = some b) (hz : Zc cls d oe) (hf : ∃ vs, oe.data = .fields vs) (hp : (a, oe) ∈ X.pn := by exact List.mem_cons_self) :
    CallR X (.builtin "isinstance") (cIsEB a cls d T tbl) := by
  intro pins s σ H xs us Q I r h
  unfold cIsEB at h
  split at h
  · rename_i x c
    obtain ⟨⟨e1, e2⟩, q⟩ := h
    subst e1 e2
    obtain ⟨C, b, od, hC, hk, J, q⟩ := exi_core (t := fun c b => PySem.W.kitOne X.K c (.type T) = some b) I hp hz hf ht q
    obtain ⟨u1, u2, rfl, r1, r2⟩ := vals2 r
    cases (show u1 = Value.ref a from r1)
    cases (show u2 = Value.type T from r2)
    exact PySem.W.kia_one (PySem.W.mk_kitE hC) I.kIn J hk (fun z => nomatch z) fun tk => ⟨.bl b, H, I.kept (t' := tk) fun _ _ z => z, rfl, q⟩
  · exact h.elim
/-- a table of classes, each with what is known of it -/
theorem iq0 {P : Addr → Bool → Prop} : ∀ C b, (C, b) ∈ ([] : List (Addr × Bool)) → P C b := fun _ _ h => absurd h List.not_mem_nil
theorem iq1 {P : Addr → Bool → Prop} {C : Addr} {b : Bool} {tbl : List (Addr × Bool)} (h : P C b) (t : ∀ C b, (C, b) ∈ tbl → P C b) : ∀ C' b', (C', b') ∈ (C, b) :: tbl → P C' b' := fun C' b' hm => by
  rcases List.mem_cons.mp hm with e | e
  · cases e
    exact h
  · exact t C' b' e
section
variable {X : Cx} {D C : Addr} {b : Bool} {tbl : List (Addr × Bool)}
theorem ie0 : ∀ C b, (C, b) ∈ ([] : List (Addr × Bool)) → ExcC X.K C ∧ PySem.W.kitOne X.K (.ref C) (.ref D) = some b := fun C b h => absurd h List.not_mem_nil
theorem ie1 (h : ExcC X.K C ∧ PySem.W.kitOne X.K (.ref C) (.ref D) = some b) (t : ∀ C b, (C, b) ∈ tbl → ExcC X.K C ∧ PySem.W.kitOne X.K (.ref C) (.ref D) = some b) :
    ∀ C' b', (C', b') ∈ (C, b) :: tbl → ExcC X.K C' ∧ PySem.W.kitOne X.K (.ref C') (.ref D) = some b' := fun C' b' hm => by
  rcases List.mem_cons.mp hm with e | e
  · cases e
    exact h
  · exact t C' b' e
end
end MK

namespace MK
open PySem PySem.Spec PyProof.Rows L2

/-! ### further methods of lists -/
@[irreducible] def opIns : V → List V → Hp → VK → Prop := fun x vs H Q => ∃ (l : Addr) (xs : List V) (i : Int) (y : V), x = .ref l ∧ vs = [.int i, y] ∧ H l = some (.lst xs) ∧ xs.length < sizeLine ∧ 0 ≤ i ∧ i < 2 ^ 63 ∧
    Q .non (upd H l (.lst (xs.take i.toNat ++ [y] ++ xs.drop i.toNat)))
@[irreducible] def opIdx (K : PySem.W.Frag) : V → List V → Hp → VK → Prop := rIndex K
section
variable {X : Cx}
theorem t_ins : MtM X "list.insert" opIns := by
  unfold opIns
  exact mt_insert
theorem t_idx : MtM X "list.index" (opIdx X.K) := by
  unfold opIdx
  exact mt_index
end
section
variable {K : PySem.W.Frag} {H : Hp} {Q : VK} {ps : List SP} {a b : Addr} {xs ys : List V} {y : V}
theorem ins_S {k : Nat} (S : Star H (pt a (.lst xs) :: ps)) (hz : xs.length < 16777216) (hk : k ≤ xs.length) (q : ∀ H', Star H' (pt a (.lst (xs.take k ++ [y] ++ xs.drop k)) :: ps) → Q .non H') : opIns (.ref a) [.int (k : Int), y] H Q := by
  unfold opIns
  have e63 : (2 : Int) ^ 63 = 9223372036854775808 := by decide
  exact ⟨a, xs, (k : Int), y, rfl, rfl, S.get, by rw [sizeLine_eq]; exact hz, by omega, by rw [e63]; omega, q _ S.updL⟩
end

/-! ### slices -/
section
variable {K : PySem.W.Frag} {H : Hp} {Q : VK} {ps : List SP} {a : Addr} {xs : List V} {lo hi : Option Int}
end

/-! ### reversed -/
/-! ### try .. except C -/
section
variable {tbl : List (Value × Bool)} {ts : Addr → Value → Option Addr → TS} {Wout : WX} {D : Ends} {cls : Value} {d : Option Addr} {σ : L2.St} {H : Hp}
end
section
variable {X : Cx} {x : Str} {c : Value} {body suite : List Stmt} {b₀ : Stmt} {np pos pos' : Pos} {tb : WX → TS} {ts : Addr → Value → Option Addr → TS} {Wout : WX} {tbl : List (Value × Bool)}
end
end MK

namespace MK
open PySem PySem.Spec PyProof.Rows L2
/-! ### zip of two lists -/
/-! ### xs[::-1] -/
/-! ### a, b = c, d -/
def sPar (i j : Nat) (ta : TA) : TS := fun D σ H => ta σ H fun vs H1 => match vs with
  | [v, w] => D.nx ((σ.set i (some v)).set j (some w)) H1
  | _ => False
theorem sPar_eq (i j : Nat) (ta : TA) : sPar i j ta = tPar i j ta := by
  unfold sPar tPar
  funext D σ H
  congr 1
  funext vs H1
  refine propext ⟨fun h => ?_, fun ⟨v, w, e, h⟩ => by subst e; exact h⟩
  match vs, h with
  | [v, w], h => exact ⟨v, w, rfl, h⟩
theorem mpar {X : Cx} {i j : Nat} {x y : Str} {a b : Expr} {ta : TA} {px py pt pos : Pos} {kt k2 pt2} (hc : X.calm = true) (hN : X.N.Nodup) (hi : X.N[i]? = some x) (hj : X.N[j]? = some y) (hij : i ≠ j)
    (hx : X.env.scope.names.lookup x = some .local) (hy : X.env.scope.names.lookup y = some .local) (ha : PA X [a, b] ta)
    (hw : swappedStores [.Tuple [.Name x px, .Name y py] kt pt] (.Tuple [a, b] k2 pt2) X.env = pure (some [x, y]) := by rfl)
    (hs : swapsWithSole [.Tuple [.Name x px, .Name y py] kt pt] (.Tuple [a, b] k2 pt2) pos.line X.env = pure false := by rfl) :
    PS X (.Assign [.Tuple [.Name x px, .Name y py] kt pt] (.Tuple [a, b] k2 pt2) pos) (sPar i j ta) := by
  rw [sPar_eq]
  exact ps_par hc hN hi hj hij hx hy ha hw hs
end MK

namespace MK
open PySem PySem.Spec PyProof.Rows L2

/-! ### dicts: what is at a key -/
theorem valV_drop {κ : Type} [DecidableEq κ] (kvs : List (κ × V)) (k j : κ) : valV (dropK kvs k) j = if j = k then none else valV kvs j := by
  induction kvs with
  | nil =>
    show valV [] j = _
    rw [valV_nil]
    split <;> rfl
  | cons p r ih =>
    by_cases hp : p.1 = k
    · have e : dropK (p :: r) k = dropK r k := by simp [dropK, List.filter_cons, hp]
      rw [e, ih]
      by_cases hj : j = k
      · rw [if_pos hj, if_pos hj]
      · rw [if_neg hj, if_neg hj, valV_neg (fun z => hj (by rw [← z, hp]))]
    · have e : dropK (p :: r) k = p :: dropK r k := by simp [dropK, List.filter_cons, hp]
      rw [e]
      by_cases hj : p.1 = j
      · rw [valV_pos hj, valV_pos hj, if_neg (fun z => hp (hj.trans z))]
      · rw [valV_neg hj, valV_neg hj, ih]

/-! ### in, not in -/
@[irreducible] def inX (K : PySem.W.Frag) (neg : Bool) : R2 := fun x y H Q => rIn K neg x y H Q ∨ (∃ a o, y = .ref a ∧ DGet H a x o ∧ Q (.bl (if neg then !o.isSome else o.isSome)) H) ∨ ∃ d ds, Dp K H x d ∧ Dp K H y (.list ds) ∧ SeqAt.shaped d = true ∧ SeqAt.shaped (.list ds) = true ∧ Q (.bl (if neg then !(ds.any fun z => PyData.eqv z d) else ds.any fun z => PyData.eqv z d)) H
section
variable {X : Cx}
theorem o_in (hu : X.A.units + 65 < cLine) : OpR X (compareOp .In) (inX X.K false) := by
  intro pins s σ H x y v u Q I rx ry q
  unfold inX at q
  rcases q with q | ⟨a, o, ey, g, q⟩ | ⟨d, ds, h1, h2, h3, h4, q⟩
  · exact op_in_seq pins s σ H x y v u Q I rx ry q
  · subst ey
    cases (show u = Value.ref a from ry)
    exact d_in (by omega) I g rx fun s3 I3 => ⟨.bl o.isSome, H, I3, rfl, q⟩
  · exact op_inD hu pins s σ H x y v u Q I rx ry ⟨d, ds, h1, h2, h3, h4, q⟩
theorem o_ni (hu : X.A.units + 65 < cLine) : OpR X (compareOp .NotIn) (inX X.K true) := by
  intro pins s σ H x y v u Q I rx ry q
  unfold inX at q
  rcases q with q | ⟨a, o, ey, g, q⟩ | ⟨d, ds, h1, h2, h3, h4, q⟩
  · exact op_notIn_seq pins s σ H x y v u Q I rx ry q
  · subst ey
    cases (show u = Value.ref a from ry)
    exact d_notIn (by omega) I g rx fun s3 I3 => ⟨.bl (!o.isSome), H, I3, rfl, q⟩
  · exact op_notInD hu pins s σ H x y v u Q I rx ry ⟨d, ds, h1, h2, h3, h4, q⟩
end
section
variable {K : PySem.W.Frag} {H : Hp} {Q : VK} {ps : List SP} {a b p : Addr} {xs ys : List V} {x y v : V} {n : Int} {neg : Bool}
theorem in_l (h : H a = some (.lst xs)) (fx : flatV x = true) (f : xs.all flatV = true) (q : Q (.bl (if neg then !inV x xs else inV x xs)) H) : inX K neg x (.ref a) H Q := by
  unfold inX
  exact .inl ⟨a, xs, rfl, .inl (.of h), fx, f, q⟩
theorem in_d {kvs : List (Key × V)} {k : Key} (h : H a = some (.dK kvs)) (q : Q (.bl (if neg then !(valV kvs k).isSome else (valV kvs k).isSome)) H) : inX K neg (kV k) (.ref a) H Q := by
  unfold inX
  exact .inr (.inl ⟨a, _, rfl, DGet.k h, q⟩)
theorem in_di {kvs : List (Key × V)} (h : H a = some (.dK kvs)) (q : Q (.bl (if neg then !(valV kvs (.inl n)).isSome else (valV kvs (.inl n)).isSome)) H) : inX K neg (.int n) (.ref a) H Q := in_d (k := .inl n) h q
/-- whole numbers in a list of whole numbers -/
theorem inV_ints {ns : List Int} : inV (.int n) (ns.map V.int) = decide (n ∈ ns) := by
  unfold inV
  rw [List.any_map]
  induction ns with
  | nil => rfl
  | cons m r ih =>
    rw [List.any_cons, ih]
    show (decide _ || _) = _
    by_cases e : m = n
    · subst e
      simp [eqV]
    · have e2 : ¬ (n = m) := fun z => e z.symm
      simp [eqV, e, e2]
/-- stores into a dict -/
theorem setd_i {Q : Hp → Prop} {kvs : List (Key × V)} (S : Star H (pt a (.dK kvs) :: ps)) (z : kvs.length < 16777216) (q : ∀ H', Star H' (pt a (.dK (putK kvs (.inl n) v)) :: ps) → Q H') : setX (.ref a) (.int n) v H Q := set_dk (k := .inl n) S.get z (q _ (S.upd' id))
theorem setd_s {Q : Hp → Prop} {w : Str} {kvs : List (Key × V)} (S : Star H (pt a (.dK kvs) :: ps)) (z : kvs.length < 16777216) (q : ∀ H', Star H' (pt a (.dK (putK kvs (.inr w) v)) :: ps) → Q H') : setX (.ref a) (.str w) v H Q := set_dk (k := .inr w) S.get z (q _ (S.upd' id))
end

/-! ### displays -/
def tPs : List (TE × TE) → L2.St → Hp → (List (V × V) → Hp → Prop) → Prop
  | [], _, H, Q => Q [] H
  | (tk, tv) :: r, σ, H, Q => tk σ H fun x H1 => tv σ H1 fun y H2 => tPs r σ H2 fun ps H3 => Q ((x, y) :: ps) H3
theorem tPs_eq : ∀ (trs : List (TE × TE)) (σ : L2.St) (H : Hp) (Q : List (V × V) → Hp → Prop), tPs trs σ H Q = tPairs trs σ H Q
  | [], _, _, _ => rfl
  | (tk, tv) :: r, σ, H, Q => by
    show (tk σ H fun x H1 => tv σ H1 fun y H2 => tPs r σ H2 fun ps H3 => Q ((x, y) :: ps) H3) = (tk σ H fun x H1 => tv σ H1 fun y H2 => tPairs r σ H2 fun ps H3 => Q ((x, y) :: ps) H3)
    congr 1
    funext x H1
    congr 1
    funext y H2
    exact tPs_eq r σ H2 _
@[irreducible] def disX (v : V) (ps : List (V × V)) (H : Hp) (Q : VK) : Prop := ∃ (p : Addr) (kvs : List (Key × V)), v = .ref p ∧ H p = some (.dK []) ∧ ps = kvs.map (fun kv => (kV kv.1, kv.2)) ∧ kvs.length ≤ 15 ∧ Q (.ref p) (upd H p (.dK (mergeK [] kvs)))
def eDis (trs : List (TE × TE)) : TE := fun σ H Q => nwO (.dK []) H fun v H1 => tPs trs σ H1 fun ps H2 => disX v ps H2 Q
theorem mdis {X : Cx} {pos : Pos} {keys : List (Option Expr)} {values : List Expr} {trs : List (TE × TE)} (h : PPs X pos keys values trs) (hall : keys.all (·.isSome) = true := by rfl) (hl : keys.length = values.length := by rfl) (h0 : keys ≠ [] := by intro z; cases z)
    (h15 : keys.length ≤ 15 := by decide) : PE X (.Dict keys values pos) (eDis trs) := by
  refine pe_imp (pe_disp h hall hl h0 h15) fun σ H Q q => ?_
  unfold eDis at q
  intro p hp
  have q := nwO_e q p hp
  rw [tPs_eq] at q
  have mono : ∀ (trs : List (TE × TE)) (H : Hp) (A B : List (V × V) → Hp → Prop), (∀ ps H, A ps H = B ps H) → tPairs trs σ H A = tPairs trs σ H B := fun trs H A B e => by
    have : A = B := by
      funext ps H
      exact e ps H
    rw [this]
  have e : ∀ (ps : List (V × V)) (H2 : Hp), disX (.ref p) ps H2 Q = (H2 p = some (.dK []) ∧ ∃ kvs : List (Key × V), ps = kvs.map (fun kv => (kV kv.1, kv.2)) ∧ kvs.length ≤ 15 ∧ Q (.ref p) (upd H2 p (.dK (mergeK [] kvs)))) := fun ps H2 => by
    unfold disX
    refine propext ⟨?_, ?_⟩
    · rintro ⟨p', kvs, e1, e2, e3, e4, e5⟩
      cases e1
      exact ⟨e2, kvs, e3, e4, e5⟩
    · rintro ⟨e2, kvs, e3, e4, e5⟩
      exact ⟨p, kvs, rfl, e2, e3, e4, e5⟩
  rw [mono trs _ _ _ e] at q
  exact q
theorem dis_S {H : Hp} {Q : VK} {F : List SP} {p : Addr} {ps : List (V × V)} (kvs : List (Key × V)) (S : Star H (pt p (.dK []) :: F)) (e : ps = kvs.map fun kv => (kV kv.1, kv.2)) (em : mergeK [] kvs = kvs) (hl : kvs.length ≤ 15) (q : ∀ H', Star H' (pt p (.dK kvs) :: F) → Q (.ref p) H') : disX (.ref p) ps H Q := by
  unfold disX
  refine ⟨p, kvs, rfl, S.get, e, hl, ?_⟩
  rw [em]
  exact q _ (S.upd' id)

/-! ### pop, get, setdefault -/
section
variable {H : Hp} {Q : VK} {F : List SP} {a : Addr} {n : Int} {v w : V} {R : Prop} {kvs : List (Key × V)}
end
section
variable {H : Hp} {Q : VK} {F : List SP} {a b : Addr} {n : Int} {v w : V} {kvs : List (Key × V)}
end

/-! ### dict(x), list(d) -/
@[irreducible] def dctX (K : PySem.W.Frag) (x : V) (H : Hp) (Q : VK) : Prop := (∃ a kvs, x = .ref a ∧ Rd H a (.dK kvs) ∧ nwO (.dK kvs) H Q) ∨
  ∃ (a : Addr) (ps : List Addr) (kvs : List (Key × V)), x = .ref a ∧ SqL K H a (ps.map V.ref) ∧ Paired (fun p kv => SqT K H p [kV kv.1, kv.2]) ps kvs ∧ nwO (.dK (mergeK [] kvs)) H Q
def cDict (K : PySem.W.Frag) : List V → Hp → VK → Prop := fun xs H Q => match xs with
  | [x] => dctX K x H Q
  | _ => False
theorem k_dict {X : Cx} (hc : X.calm = true) : CallR X (.type "dict") (cDict X.K) := call_imp (call_or call_dictD (call_dictP hc)) fun xs H Q q => by
  unfold cDict at q
  split at q
  · unfold dctX at q
    rcases q with ⟨a, kvs, e, h, q⟩ | ⟨a, ps, kvs, e, h, h2, q⟩
    · subst e
      exact .inl ⟨a, kvs, rfl, h, nwO_e q⟩
    · subst e
      exact .inr ⟨a, ps, kvs, rfl, h, h2, nwO_e q⟩
  · exact q.elim
theorem dct_S {K : PySem.W.Frag} {H : Hp} {Q : VK} {F : List SP} {a : Addr} {kvs : List (Key × V)} (S : Star H F) (h : H a = some (.dK kvs)) (q : ∀ p H', Star H' (pt p (.dK kvs) :: F) → Q (.ref p) H') : dctX K (.ref a) H Q := by
  unfold dctX
  exact .inl ⟨a, kvs, rfl, .inl h, nwO_i fun p hp => q p _ (S.new' hp id)⟩
theorem dctp_S {K : PySem.W.Frag} {H : Hp} {Q : VK} {F : List SP} {a : Addr} {ps : List Addr} {kvs : List (Key × V)} (S : Star H F) (h : H a = some (.lst (ps.map V.ref))) (h2 : Paired (fun p kv => SqT K H p [kV kv.1, kv.2]) ps kvs) (q : ∀ p H', Star H' (pt p (.dK (mergeK [] kvs)) :: F) → Q (.ref p) H') : dctX K (.ref a) H Q := by
  unfold dctX
  exact .inr ⟨a, ps, kvs, rfl, .of h, h2, nwO_i fun p hp => q p _ (S.new' hp id)⟩

/-! ### op= -/
def agAdd : V → V → Hp → VK → Prop := fun x y H Q => match x, y with
  | .int i, .int j => Q (.int (i + j)) H
  | _, _ => False
section
variable {X : Cx} {op : Operator} {o e i value : Expr} {f : Str} {pos tpos : Pos} {to tv te ti : TE} {cs : List Addr} {r : V → V → Hp → VK → Prop}
theorem g_add : InOp X .Add agAdd := fun pins s σ H x y u v Q I rx ry q => by
  unfold agAdd at q
  split at q
  · exact in_add pins s σ H _ _ u v Q I rx ry ⟨_, _, rfl, rfl, q⟩
  · exact q.elim
def sAgF (cs : List Addr) (f : Str) (r : V → V → Hp → VK → Prop) (to tv : TE) : TS := fun D σ H => to σ H fun x H1 => fldX cs f x H1 fun v H2 => tv σ H2 fun y H3 => r v y H3 fun z H4 => stfX cs f z x H4 (D.nx σ)
theorem magf (ho : PE X o to) (hv : PE X value tv) (hop : InOp X op r) (hc : ∀ C ∈ cs, Cls X.K C ∧ NoAttr X.K C f) : PS X (.AugAssign (.Attribute o f tpos) op value pos) (sAgF cs f r to tv) := by
  refine ⟨fun pins s σ H D I h => ?_⟩
  refine wpAny_AugAssign_AttributeAny (thn (ho.run pins s σ H _ I h) fun ov s1 ⟨x, H1, I1, rx, q⟩ => ?_)
  unfold fldX at q
  obtain ⟨a, C, dx, fs, v, ex, hC, ea, l, q⟩ := q
  subst ex
  obtain rfl : ov = Value.ref a := rx
  refine getattr_ok I1 ea (hc C hC).1 (hc C hC).2 l fun u s2 I2 ru => thn (hv.run pins s2 σ H1 _ I2 q) fun w3 s3 ⟨y, H2, I3, ry, q3⟩ => thn (hop pins s3 σ H2 v y u w3 _ I3 ru ry q3) fun w4 s4 ⟨z, H3, I4, rz, q4⟩ => ?_
  unfold stfX at q4
  obtain ⟨a', C', dx', fs', ex', hC', ea', l', q4⟩ := q4
  cases ex'
  exact setattr_ok I4 ea' (hc C' hC').1 (hc C' hC').2 l' rz fun s5 I5 => ⟨σ, _, I5, q4⟩
end
section
variable {H : Hp} {F : List SP} {a : Addr} {n : Int} {v z : V} {kvs : List (Key × V)} {R : V → Prop} {Q : Hp → Prop}
end
end MK

namespace MK
open PySem PySem.Spec PyProof.Rows L2

/-! ### try with several clauses, each with a name or without one -/
abbrev Sui := Addr → Value → Option Addr → TS
/-- the clauses of the text, and what their suites do -/
inductive Clauses (X : Cx) : List ExceptHandler → List (Value × Option Nat × Sui) → Prop
  | nil : Clauses X [] []
  | plain {x : Str} {c : Value} {ts : Sui} {b₀ : Stmt} {suite : List Stmt} {np pos' : Pos} {hds : List ExceptHandler} {l : List (Value × Option Nat × Sui)} (hc : Names X x c)
      (hsu : ∀ (a : Addr) (oe : Obj) (cls : Value) (d : Option Addr) (pn : List (Addr × Obj)), Zc cls d oe → (∃ vs, oe.data = .fields vs) → PSs (X.suite a ((a, oe) :: pn)) (b₀ :: suite) (ts a cls d)) (r : Clauses X hds l) :
      Clauses X (.ExceptHandler (some (.Name x np)) none (b₀ :: suite) pos' :: hds) ((c, none, ts) :: l)
  | named {x n : Str} {i : Nat} {c : Value} {ts : Sui} {b₀ : Stmt} {suite : List Stmt} {np pos' : Pos} {hds : List ExceptHandler} {l : List (Value × Option Nat × Sui)} (hN : X.N.Nodup) (hi : X.N[i]? = some n) (hln : X.env.kindOf n = some .local) (hc : Names X x c)
      (hsu : ∀ (a : Addr) (oe : Obj) (cls : Value) (d : Option Addr) (pn : List (Addr × Obj)), Zc cls d oe → (∃ vs, oe.data = .fields vs) → PSs (X.suite a ((a, oe) :: pn)) (b₀ :: suite) (ts a cls d)) (r : Clauses X hds l) :
      Clauses X (.ExceptHandler (some (.Name x np)) (some n) (b₀ :: suite) pos' :: hds) ((c, some i, ts) :: l)
section
variable {X : Cx} {body : List Stmt} {h₀ : ExceptHandler} {hds : List ExceptHandler} {l : List (Value × Option Nat × Sui)} {pos : Pos} {tb : WX → TS} {Wout : WX}
end
/-! by tables: which classes a clause takes -/
section
variable {Wout : WX} {D : Ends} {hs : List (List (Value × Bool) × Option Nat × Sui)} {t : List (Value × Bool)} {cls : Value} {d : Option Addr} {σ : L2.St} {H : Hp} {ts : Sui} {i : Nat}
end
/-! ### int(x) -/
end MK

namespace MK
open PySem PySem.Spec PyProof.Rows L2
/-! ### sum, sorted, abs, str -/
section
variable {X : Cx}
end
section
variable {H : Hp} {Q : VK} {K : PySem.W.Frag} {a : Addr} {ns : List Int} {ps : List SP}
end
/-! ### nested targets -/
section
variable {K : PySem.W.Frag} {H : Hp} {σ : L2.St} {Q : L2.St → Hp → Prop} {g : TG} {gs : List TG} {v : V} {vs xs : List V} {a : Addr} {n : Nat} {R : List V → Prop}
end
end MK

namespace MK
open PySem PySem.Spec PyProof.Rows L2

/-! ### {} whose keys will be tuples -/
/-! ### list(range(..)), tuple(range(..)) -/
section
variable {X : Cx} {a b : Expr} {ta tb : TE} {p p2 pos pos2 : Pos}
end
/-! ### reading them -/
end MK

namespace MK
open PySem PySem.Spec PyProof.Rows L2

/-! ### the head's run, in parts -/
end MK

namespace Lawk17
open PySem PySem.Spec PyProof.Rows L2 MK
/-! the text by places -/
def top (i : Nat) : Stmt := PySem.Challenge.pw_makeskept_k17_within_and_refused.main.body.getD i (.Pass ⟨0, 0, 0, 0⟩)
abbrev s_Order_init : Stmt := clsAt (top 11) 0
abbrev s_is_whole : Stmt := top 7
abbrev s_MakesError_init : Stmt := clsAt (top 2) 0
abbrev s_Order_label_behind : Stmt := clsAt (top 11) 2
abbrev s_Order_label_all : Stmt := clsAt (top 11) 3
abbrev s_L_cell_at : Stmt := top 16
abbrev s_L_box : Stmt := top 17
abbrev s_L_take : Stmt := top 18
abbrev s_Order_marks : Stmt := clsAt (top 11) 7
abbrev s_Tour_many : Stmt := clsAt (top 14) 2
abbrev s_Order_many : Stmt := clsAt (top 11) 6
abbrev s_L_above : Stmt := top 19
abbrev s_Order_anew : Stmt := clsAt (top 11) 10
abbrev s_NoMark_init : Stmt := clsAt (top 4) 0
abbrev s_TooMany_init : Stmt := clsAt (top 5) 0
abbrev s_NoMake_init : Stmt := clsAt (top 3) 0
abbrev s_L_odd : Stmt := top 23
abbrev s_Tour_by_marks : Stmt := clsAt (top 14) 6
abbrev s_Tour_coming : Stmt := clsAt (top 14) 7
abbrev s_Order_copied : Stmt := clsAt (top 11) 11
abbrev s_Tour_leaving : Stmt := clsAt (top 14) 8
abbrev s_Order_need_mark : Stmt := clsAt (top 11) 1
abbrev s_Tour_need_make : Stmt := clsAt (top 14) 1
abbrev s_Tour_order : Stmt := clsAt (top 14) 5
abbrev s_Order_behind : Stmt := clsAt (top 11) 4
abbrev s_Tour_marks_of : Stmt := clsAt (top 14) 4
abbrev s_Order_ahead : Stmt := clsAt (top 11) 8
abbrev s_Tour_init : Stmt := clsAt (top 14) 0
abbrev s_Tour_grow : Stmt := clsAt (top 14) 3
abbrev s_Tour_within : Stmt := clsAt (top 14) 9
abbrev s_Tour_beneath : Stmt := clsAt (top 14) 10
abbrev s_L_call : Stmt := top 21
abbrev s_L_pairs_right : Stmt := top 20
abbrev s_L_told : Stmt := top 22
abbrev s_L_refused_right : Stmt := top 24
abbrev s_L_full_right : Stmt := top 25
abbrev s_law : Stmt := top 26
abbrev N_Order_init : List Str := ["self"]
theorem sc_Order_init : FnScope N_Order_init ["self"] (defScope s_Order_init) := ⟨rfl, rfl, rfl, by decide +kernel, rfl, by decide +kernel, by decide +kernel⟩
abbrev N_is_whole : List Str := ["thing", "low", "high"]
theorem sc_is_whole : FnScope N_is_whole ["thing", "low", "high"] (defScope s_is_whole) := ⟨rfl, rfl, rfl, by decide +kernel, rfl, by decide +kernel, by decide +kernel⟩
abbrev N_MakesError_init : List Str := ["self", "text"]
theorem sc_MakesError_init : FnScope N_MakesError_init ["self", "text"] (defScope s_MakesError_init) := ⟨rfl, rfl, rfl, by decide +kernel, rfl, by decide +kernel, by decide +kernel⟩
abbrev N_Order_label_behind : List Str := ["self", "at"]
theorem sc_Order_label_behind : FnScope N_Order_label_behind ["self", "at"] (defScope s_Order_label_behind) := ⟨rfl, rfl, rfl, by decide +kernel, rfl, by decide +kernel, by decide +kernel⟩
abbrev N_Order_label_all : List Str := ["self", "step", "at", "mark"]
theorem sc_Order_label_all : FnScope N_Order_label_all ["self"] (defScope s_Order_label_all) := ⟨rfl, rfl, rfl, by decide +kernel, rfl, by decide +kernel, by decide +kernel⟩
abbrev N_L_cell_at : List Str := ["_law_script", "_law_k"]
theorem sc_L_cell_at : FnScope N_L_cell_at ["_law_script", "_law_k"] (defScope s_L_cell_at) := ⟨rfl, rfl, rfl, by decide +kernel, rfl, by decide +kernel, by decide +kernel⟩
abbrev N_L_box : List Str := ["_law_cell"]
theorem sc_L_box : FnScope N_L_box ["_law_cell"] (defScope s_L_box) := ⟨rfl, rfl, rfl, by decide +kernel, rfl, by decide +kernel, by decide +kernel⟩
abbrev N_L_take : List Str := ["_law_box_here", "_law_many", "_law_digit", "_law_number"]
theorem sc_L_take : FnScope N_L_take ["_law_box_here", "_law_many"] (defScope s_L_take) := ⟨rfl, rfl, rfl, by decide +kernel, rfl, by decide +kernel, by decide +kernel⟩
abbrev N_Order_marks : List Str := ["self"]
theorem sc_Order_marks : FnScope N_Order_marks ["self"] (defScope s_Order_marks) := ⟨rfl, rfl, rfl, by decide +kernel, rfl, by decide +kernel, by decide +kernel⟩
abbrev N_Tour_many : List Str := ["self"]
theorem sc_Tour_many : FnScope N_Tour_many ["self"] (defScope s_Tour_many) := ⟨rfl, rfl, rfl, by decide +kernel, rfl, by decide +kernel, by decide +kernel⟩
abbrev N_Order_many : List Str := ["self"]
theorem sc_Order_many : FnScope N_Order_many ["self"] (defScope s_Order_many) := ⟨rfl, rfl, rfl, by decide +kernel, rfl, by decide +kernel, by decide +kernel⟩
abbrev N_L_above : List Str := ["_law_owners", "_law_make", "_law_found"]
theorem sc_L_above : FnScope N_L_above ["_law_owners", "_law_make"] (defScope s_L_above) := ⟨rfl, rfl, rfl, by decide +kernel, rfl, by decide +kernel, by decide +kernel⟩
abbrev N_Order_anew : List Str := ["self"]
theorem sc_Order_anew : FnScope N_Order_anew ["self"] (defScope s_Order_anew) := ⟨rfl, rfl, rfl, by decide +kernel, rfl, by decide +kernel, by decide +kernel⟩
abbrev N_NoMark_init : List Str := ["self", "found"]
theorem sc_NoMark_init : FnScope N_NoMark_init ["self", "found"] (defScope s_NoMark_init) := ⟨rfl, rfl, rfl, by decide +kernel, rfl, by decide +kernel, by decide +kernel⟩
abbrev N_TooMany_init : List Str := ["self", "count"]
theorem sc_TooMany_init : FnScope N_TooMany_init ["self", "count"] (defScope s_TooMany_init) := ⟨rfl, rfl, rfl, by decide +kernel, rfl, by decide +kernel, by decide +kernel⟩
abbrev N_NoMake_init : List Str := ["self", "found"]
theorem sc_NoMake_init : FnScope N_NoMake_init ["self", "found"] (defScope s_NoMake_init) := ⟨rfl, rfl, rfl, by decide +kernel, rfl, by decide +kernel, by decide +kernel⟩
abbrev N_L_odd : List Str := ["_law_box_here", "_law_tour", "_law_many", "_law_some"]
theorem sc_L_odd : FnScope N_L_odd ["_law_box_here", "_law_tour", "_law_many"] (defScope s_L_odd) := ⟨rfl, rfl, rfl, by decide +kernel, rfl, by decide +kernel, by decide +kernel⟩
abbrev N_Tour_by_marks : List Str := ["self", "side", "owners", "make", "marks", "mark"]
theorem sc_Tour_by_marks : FnScope N_Tour_by_marks ["self", "side"] (defScope s_Tour_by_marks) := ⟨rfl, rfl, rfl, by decide +kernel, rfl, by decide +kernel, by decide +kernel⟩
abbrev N_Tour_coming : List Str := ["self"]
theorem sc_Tour_coming : FnScope N_Tour_coming ["self"] (defScope s_Tour_coming) := ⟨rfl, rfl, rfl, by decide +kernel, rfl, by decide +kernel, by decide +kernel⟩
abbrev N_Order_copied : List Str := ["self", "other"]
theorem sc_Order_copied : FnScope N_Order_copied ["self"] (defScope s_Order_copied) := ⟨rfl, rfl, rfl, by decide +kernel, rfl, by decide +kernel, by decide +kernel⟩
abbrev N_Tour_leaving : List Str := ["self"]
theorem sc_Tour_leaving : FnScope N_Tour_leaving ["self"] (defScope s_Tour_leaving) := ⟨rfl, rfl, rfl, by decide +kernel, rfl, by decide +kernel, by decide +kernel⟩
abbrev N_Order_need_mark : List Str := ["self", "mark"]
theorem sc_Order_need_mark : FnScope N_Order_need_mark ["self", "mark"] (defScope s_Order_need_mark) := ⟨rfl, rfl, rfl, by decide +kernel, rfl, by decide +kernel, by decide +kernel⟩
abbrev N_Tour_need_make : List Str := ["self", "make"]
theorem sc_Tour_need_make : FnScope N_Tour_need_make ["self", "make"] (defScope s_Tour_need_make) := ⟨rfl, rfl, rfl, by decide +kernel, rfl, by decide +kernel, by decide +kernel⟩
abbrev N_Tour_order : List Str := ["self"]
theorem sc_Tour_order : FnScope N_Tour_order ["self"] (defScope s_Tour_order) := ⟨rfl, rfl, rfl, by decide +kernel, rfl, by decide +kernel, by decide +kernel⟩
abbrev N_Order_behind : List Str := ["self", "mark", "at", "number"]
theorem sc_Order_behind : FnScope N_Order_behind ["self", "mark"] (defScope s_Order_behind) := ⟨rfl, rfl, rfl, by decide +kernel, rfl, by decide +kernel, by decide +kernel⟩
abbrev N_Tour_marks_of : List Str := ["self", "make"]
theorem sc_Tour_marks_of : FnScope N_Tour_marks_of ["self", "make"] (defScope s_Tour_marks_of) := ⟨rfl, rfl, rfl, by decide +kernel, rfl, by decide +kernel, by decide +kernel⟩
abbrev N_Order_ahead : List Str := ["self", "one", "other"]
theorem sc_Order_ahead : FnScope N_Order_ahead ["self", "one", "other"] (defScope s_Order_ahead) := ⟨rfl, rfl, rfl, by decide +kernel, rfl, by decide +kernel, by decide +kernel⟩
abbrev N_Tour_init : List Str := ["self"]
theorem sc_Tour_init : FnScope N_Tour_init ["self"] (defScope s_Tour_init) := ⟨rfl, rfl, rfl, by decide +kernel, rfl, by decide +kernel, by decide +kernel⟩
abbrev N_Tour_grow : List Str := ["self", "make", "comes"]
theorem sc_Tour_grow : FnScope N_Tour_grow ["self", "make"] (defScope s_Tour_grow) := ⟨rfl, rfl, rfl, by decide +kernel, rfl, by decide +kernel, by decide +kernel⟩
abbrev N_Tour_within : List Str := ["self", "one", "other", "comes", "leaves", "begins", "ends"]
theorem sc_Tour_within : FnScope N_Tour_within ["self", "one", "other"] (defScope s_Tour_within) := ⟨rfl, rfl, rfl, by decide +kernel, rfl, by decide +kernel, by decide +kernel⟩
abbrev N_Tour_beneath : List Str := ["self", "make", "other"]
theorem sc_Tour_beneath : FnScope N_Tour_beneath ["self", "make"] (defScope s_Tour_beneath) := ⟨rfl, rfl, rfl, by decide +kernel, rfl, by decide +kernel, by decide +kernel⟩
abbrev N_L_call : List Str := ["_law_tour", "_law_way", "_law_one", "_law_other"]
theorem sc_L_call : FnScope N_L_call ["_law_tour", "_law_way", "_law_one", "_law_other"] (defScope s_L_call) := ⟨rfl, rfl, rfl, by decide +kernel, rfl, by decide +kernel, by decide +kernel⟩
abbrev N_L_pairs_right : List Str := ["_law_tour", "_law_owners", "_law_coming", "_law_one", "_law_due", "_law_other", "_law_found", "_law_inside"]
theorem sc_L_pairs_right : FnScope N_L_pairs_right ["_law_tour", "_law_owners", "_law_coming"] (defScope s_L_pairs_right) := ⟨rfl, rfl, rfl, by decide +kernel, rfl, by decide +kernel, by decide +kernel⟩
abbrev N_L_told : List Str := ["_law_tour", "_law_way", "_law_one", "_law_other", "_law_found", "e"]
theorem sc_L_told : FnScope N_L_told ["_law_tour", "_law_way", "_law_one", "_law_other"] (defScope s_L_told) := ⟨rfl, rfl, rfl, by decide +kernel, rfl, by decide +kernel, by decide +kernel⟩
abbrev N_L_refused_right : List Str := ["_law_box_here", "_law_tour", "_law_many", "_law_way", "_law_both", "_law_one", "_law_other", "_law_good", "_law_due", "_law_things", "_law_found"]
theorem sc_L_refused_right : FnScope N_L_refused_right ["_law_box_here", "_law_tour", "_law_many"] (defScope s_L_refused_right) := ⟨rfl, rfl, rfl, by decide +kernel, rfl, by decide +kernel, by decide +kernel⟩
abbrev N_L_full_right : List Str := ["_law_tour", "_law_k", "_law_seen"]
theorem sc_L_full_right : FnScope N_L_full_right [] (defScope s_L_full_right) := ⟨rfl, rfl, rfl, by decide +kernel, rfl, by decide +kernel, by decide +kernel⟩
abbrev N_law : List Str := ["_law_script", "_law_tour", "_law_owners", "_law_coming", "_law_k", "_law_box_here", "_law_make"]
theorem sc_law : FnScope N_law ["_law_script"] (defScope s_law) := ⟨rfl, rfl, rfl, by decide +kernel, rfl, by decide +kernel, by decide +kernel⟩
def fa : List He.Fa := [.glo "is_whole", .glo "_law_cell_at", .glo "_law_box", .glo "_law_take", .glo "_law_above", .glo "_law_odd", .glo "_law_call", .glo "_law_pairs_right", .glo "_law_told", .glo "_law_refused_right", .glo "_law_full_right", .glo "law", .glo "MakesError", .glo "NoMake", .glo "NoMark", .glo "TooMany", .glo "Order", .glo "Tour", .free "ValueError", .free "bool", .free "dict", .free "enumerate", .free "int", .free "isinstance", .free "len", .free "list", .free "max", .free "min", .free "range", .free "repr", .int "MOST_MARKS" 200, .int "TOP_LABEL" 1024, .int "MOST_MAKES" 64, .cls "Order", .noat "Order" "standing", .noat "Order" "labelled", .noat "Order" "given", .noat "Order" "times", .mkr "Order", .cls "Tour", .noat "Tour" "placed", .noat "NoMark" "found", .meth "Order" "need_mark", .noat "TooMany" "count", .meth "Order" "label_behind", .meth "Order" "label_all", .meth "Order" "behind", .noat "Tour" "both_marks", .mkr "Tour", .noat "NoMake" "found", .meth "Tour" "need_make", .meth "Tour" "grow", .meth "Tour" "marks_of", .meth "Order" "marks", .meth "Tour" "by_marks", .meth "Tour" "coming", .meth "Order" "ahead", .meth "Tour" "within", .meth "Tour" "beneath", .exm "TooMany" "MakesError" true, .exm "NoMark" "MakesError" true, .exm "NoMake" "MakesError" true, .meth "Tour" "many", .meth "Order" "many", .meth "Order" "copied", .meth "Tour" "order", .meth "Order" "anew", .meth "Tour" "leaving"]
def xa : List Xa := [.kitt "Tour" "int" false, .isc "Tour", .kitt "Order" "int" false, .isc "Order", .kitt "Tour" "bool" false, .kitt "Order" "bool" false, .veb , .cfn "MakesError" "__init__", .oex "NoMark", .init "NoMark", .oex "TooMany", .init "TooMany", .oex "NoMake", .init "NoMake", .exk "TooMany", .kitt "TooMany" "ValueError" true, .exk "NoMark", .kitt "NoMark" "ValueError" true, .exk "NoMake", .kitt "NoMake" "ValueError" true, .kit "TooMany" "NoMake" false, .kit "NoMark" "NoMake" false, .kit "NoMake" "NoMake" true, .kit "TooMany" "TooMany" true, .kit "NoMark" "TooMany" false, .kit "NoMake" "TooMany" false, .xfc "NoMark", .xfc "NoMake", .xfc "TooMany", .oeq "Tour", .oeq "Order"]
abbrev dd_Order_init : He.DefD := ⟨("Order", some "__init__"), "__init__", "Order.__init__", defArgs s_Order_init, defBody s_Order_init, defScope s_Order_init, [], []⟩
abbrev dd_is_whole : He.DefD := ⟨("is_whole", none), "is_whole", "is_whole", defArgs s_is_whole, defBody s_is_whole, defScope s_is_whole, [], []⟩
abbrev dd_MakesError_init : He.DefD := ⟨("MakesError", some "__init__"), "__init__", "MakesError.__init__", defArgs s_MakesError_init, defBody s_MakesError_init, defScope s_MakesError_init, [], []⟩
abbrev dd_Order_label_behind : He.DefD := ⟨("Order", some "label_behind"), "label_behind", "Order.label_behind", defArgs s_Order_label_behind, defBody s_Order_label_behind, defScope s_Order_label_behind, [], []⟩
abbrev dd_Order_label_all : He.DefD := ⟨("Order", some "label_all"), "label_all", "Order.label_all", defArgs s_Order_label_all, defBody s_Order_label_all, defScope s_Order_label_all, [], []⟩
abbrev dd_L_cell_at : He.DefD := ⟨("_law_cell_at", none), "_law_cell_at", "_law_cell_at", defArgs s_L_cell_at, defBody s_L_cell_at, defScope s_L_cell_at, [], []⟩
abbrev dd_L_box : He.DefD := ⟨("_law_box", none), "_law_box", "_law_box", defArgs s_L_box, defBody s_L_box, defScope s_L_box, [], []⟩
abbrev dd_L_take : He.DefD := ⟨("_law_take", none), "_law_take", "_law_take", defArgs s_L_take, defBody s_L_take, defScope s_L_take, [], []⟩
abbrev dd_Order_marks : He.DefD := ⟨("Order", some "marks"), "marks", "Order.marks", defArgs s_Order_marks, defBody s_Order_marks, defScope s_Order_marks, [], []⟩
abbrev dd_Tour_many : He.DefD := ⟨("Tour", some "many"), "many", "Tour.many", defArgs s_Tour_many, defBody s_Tour_many, defScope s_Tour_many, [], []⟩
abbrev dd_Order_many : He.DefD := ⟨("Order", some "many"), "many", "Order.many", defArgs s_Order_many, defBody s_Order_many, defScope s_Order_many, [], []⟩
abbrev dd_L_above : He.DefD := ⟨("_law_above", none), "_law_above", "_law_above", defArgs s_L_above, defBody s_L_above, defScope s_L_above, [], []⟩
abbrev dd_Order_anew : He.DefD := ⟨("Order", some "anew"), "anew", "Order.anew", defArgs s_Order_anew, defBody s_Order_anew, defScope s_Order_anew, [], []⟩
abbrev dd_NoMark_init : He.DefD := ⟨("NoMark", some "__init__"), "__init__", "NoMark.__init__", defArgs s_NoMark_init, defBody s_NoMark_init, defScope s_NoMark_init, [], []⟩
abbrev dd_TooMany_init : He.DefD := ⟨("TooMany", some "__init__"), "__init__", "TooMany.__init__", defArgs s_TooMany_init, defBody s_TooMany_init, defScope s_TooMany_init, [], []⟩
abbrev dd_NoMake_init : He.DefD := ⟨("NoMake", some "__init__"), "__init__", "NoMake.__init__", defArgs s_NoMake_init, defBody s_NoMake_init, defScope s_NoMake_init, [], []⟩
abbrev dd_L_odd : He.DefD := ⟨("_law_odd", none), "_law_odd", "_law_odd", defArgs s_L_odd, defBody s_L_odd, defScope s_L_odd, [], []⟩
abbrev dd_Tour_by_marks : He.DefD := ⟨("Tour", some "by_marks"), "by_marks", "Tour.by_marks", defArgs s_Tour_by_marks, defBody s_Tour_by_marks, defScope s_Tour_by_marks, [], []⟩
abbrev dd_Tour_coming : He.DefD := ⟨("Tour", some "coming"), "coming", "Tour.coming", defArgs s_Tour_coming, defBody s_Tour_coming, defScope s_Tour_coming, [], []⟩
abbrev dd_Order_copied : He.DefD := ⟨("Order", some "copied"), "copied", "Order.copied", defArgs s_Order_copied, defBody s_Order_copied, defScope s_Order_copied, [], []⟩
abbrev dd_Tour_leaving : He.DefD := ⟨("Tour", some "leaving"), "leaving", "Tour.leaving", defArgs s_Tour_leaving, defBody s_Tour_leaving, defScope s_Tour_leaving, [], []⟩
abbrev dd_Order_need_mark : He.DefD := ⟨("Order", some "need_mark"), "need_mark", "Order.need_mark", defArgs s_Order_need_mark, defBody s_Order_need_mark, defScope s_Order_need_mark, [], []⟩
abbrev dd_Tour_need_make : He.DefD := ⟨("Tour", some "need_make"), "need_make", "Tour.need_make", defArgs s_Tour_need_make, defBody s_Tour_need_make, defScope s_Tour_need_make, [], []⟩
abbrev dd_Tour_order : He.DefD := ⟨("Tour", some "order"), "order", "Tour.order", defArgs s_Tour_order, defBody s_Tour_order, defScope s_Tour_order, [], []⟩
abbrev dd_Order_behind : He.DefD := ⟨("Order", some "behind"), "behind", "Order.behind", defArgs s_Order_behind, defBody s_Order_behind, defScope s_Order_behind, [], []⟩
abbrev dd_Tour_marks_of : He.DefD := ⟨("Tour", some "marks_of"), "marks_of", "Tour.marks_of", defArgs s_Tour_marks_of, defBody s_Tour_marks_of, defScope s_Tour_marks_of, [], []⟩
abbrev dd_Order_ahead : He.DefD := ⟨("Order", some "ahead"), "ahead", "Order.ahead", defArgs s_Order_ahead, defBody s_Order_ahead, defScope s_Order_ahead, [], []⟩
abbrev dd_Tour_init : He.DefD := ⟨("Tour", some "__init__"), "__init__", "Tour.__init__", defArgs s_Tour_init, defBody s_Tour_init, defScope s_Tour_init, [], []⟩
abbrev dd_Tour_grow : He.DefD := ⟨("Tour", some "grow"), "grow", "Tour.grow", defArgs s_Tour_grow, defBody s_Tour_grow, defScope s_Tour_grow, [], []⟩
abbrev dd_Tour_within : He.DefD := ⟨("Tour", some "within"), "within", "Tour.within", defArgs s_Tour_within, defBody s_Tour_within, defScope s_Tour_within, [], []⟩
abbrev dd_Tour_beneath : He.DefD := ⟨("Tour", some "beneath"), "beneath", "Tour.beneath", defArgs s_Tour_beneath, defBody s_Tour_beneath, defScope s_Tour_beneath, [], []⟩
abbrev dd_L_call : He.DefD := ⟨("_law_call", none), "_law_call", "_law_call", defArgs s_L_call, defBody s_L_call, defScope s_L_call, [], []⟩
abbrev dd_L_pairs_right : He.DefD := ⟨("_law_pairs_right", none), "_law_pairs_right", "_law_pairs_right", defArgs s_L_pairs_right, defBody s_L_pairs_right, defScope s_L_pairs_right, [], []⟩
abbrev dd_L_told : He.DefD := ⟨("_law_told", none), "_law_told", "_law_told", defArgs s_L_told, defBody s_L_told, defScope s_L_told, [], []⟩
abbrev dd_L_refused_right : He.DefD := ⟨("_law_refused_right", none), "_law_refused_right", "_law_refused_right", defArgs s_L_refused_right, defBody s_L_refused_right, defScope s_L_refused_right, [], []⟩
abbrev dd_L_full_right : He.DefD := ⟨("_law_full_right", none), "_law_full_right", "_law_full_right", defArgs s_L_full_right, defBody s_L_full_right, defScope s_L_full_right, [], []⟩
abbrev dd_law : He.DefD := ⟨("law", none), "law", "law", defArgs s_law, defBody s_law, defScope s_law, [], []⟩
def fn : List He.DefD := [dd_Order_init, dd_is_whole, dd_MakesError_init, dd_Order_label_behind, dd_Order_label_all, dd_L_cell_at, dd_L_box, dd_L_take, dd_Order_marks, dd_Tour_many, dd_Order_many, dd_L_above, dd_Order_anew, dd_NoMark_init, dd_TooMany_init, dd_NoMake_init, dd_L_odd, dd_Tour_by_marks, dd_Tour_coming, dd_Order_copied, dd_Tour_leaving, dd_Order_need_mark, dd_Tour_need_make, dd_Tour_order, dd_Order_behind, dd_Tour_marks_of, dd_Order_ahead, dd_Tour_init, dd_Tour_grow, dd_Tour_within, dd_Tour_beneath, dd_L_call, dd_L_pairs_right, dd_L_told, dd_L_refused_right, dd_L_full_right, dd_law]
/-! the head: one run of the top -/
abbrev R : PySem.W.OpenRow := PySem.W.OpenLaw.row PySem.Challenge.rw_makeskept_k17_within_and_refused
abbrev hk : PySem.W.Hook := hookM 6 fa fn xa
def ob (s : PySem.W.SharedT) : AlM := obsM 6 fa fn xa (HandSHeadRun.getT s)
theorem ob_eq (s : PySem.W.SharedT) : ob s = hk.obs s.abs := obsM_eq (HandSHeadRun.getT_eq s)
def loose : List Str := ["_wall", "MakesError", "NoMake", "NoMark", "TooMany", "is_whole", "MOST_MARKS", "TOP_LABEL", "Order", "MOST_MAKES", "Tour", "_law_cell_at", "_law_box", "_law_take", "_law_above", "_law_pairs_right", "_law_call", "_law_told", "_law_odd", "_law_refused_right", "_law_full_right"]
theorem run (w : World) : HandSHeadRun.RunEq R (PySem.W.view R.prog [26]) hk ob 3500 loose w := by
  intro os
  kernel_rfl

end Lawk17
namespace MK
open PySem PySem.Spec PyProof.Rows L2

/-! ### dict(d), its keys tuples -/
/-! ### d.pop(k), k a tuple -/
/-! ### sorted(d), its keys pairs of whole numbers; sorted of a list of such pairs -/
section
variable {K : PySem.W.Frag} {H : Hp} {F : List SP} {Q : VK} {a : Addr} {xs : List V} {L ps : List (Nat × Nat)} {kvs : List (List Key × V)}
end
end MK

namespace MK
open PySem PySem.Spec PyProof.Rows L2

/-! ### dicts walked through: locked meanwhile -/
def isDct : HO → Prop
  | .dK _ => True
  | .dT _ => True
  | _ => False
def Ul (p : SP) : Prop := ∀ H d od u A, p.P H A → H d = some (.frz od u) → isDct u → d ∉ A → p.P (upd H d u) A
class UlC (p : SP) : Prop where
  h : Ul p
class UlL (ps : List SP) : Prop where
  h : ∀ H d od u A, SL H ps A → H d = some (.frz od u) → isDct u → d ∉ A → SL (upd H d u) ps A
instance : UlL [] := ⟨fun H d od u A h _ _ _ => h⟩
instance {p : SP} {ps : List SP} [a : UlC p] [b : UlL ps] : UlL (p :: ps) := ⟨fun H d od u A ⟨A1, A2, e, h1, h2⟩ hd hu hn => by
  subst e
  exact ⟨A1, A2, rfl, a.h _ _ _ _ _ h1 hd hu fun z => hn (List.mem_append_left _ z), b.h _ _ _ _ _ h2 hd hu fun z => hn (List.mem_append_right _ z)⟩⟩
theorem upd_nd {H : Hp} {a d : Addr} {o u : HO} {od : Obj} (h : H a = some o) (hd : H d = some (.frz od u)) (hne : ∀ o' u', o ≠ .frz o' u') : (upd H d u) a = some o := by
  rw [upd_ne (fun z => by rw [z, hd] at h; cases h; exact hne _ _ rfl)]
  exact h
instance {a : Addr} {o : HO} : UlC (pt a o) := ⟨fun H d od u A ⟨e, h, n⟩ hd hu hn => ⟨e, by
  rw [upd_ne (fun z => hn (by rw [e, z]; exact List.mem_singleton.mpr rfl))]
  exact h, n⟩⟩
instance {a : Addr} {xs : List V} : UlC (fx a (.tup xs)) := ⟨fun H d od u A ⟨e, h, n⟩ hd hu hn => ⟨e, upd_nd h hd (fun _ _ z => nomatch z), n⟩⟩
instance {φ : Prop} : UlC (pr φ) := ⟨fun H d od u A h _ _ _ => h⟩
instance {α : Type} {f : α → SP} [i : ∀ x, UlC (f x)] : UlC (ex f) := ⟨fun H d od u A ⟨x, h⟩ hd hu hn => ⟨x, (i x).h _ _ _ _ _ h hd hu hn⟩⟩
instance {ps : List SP} [i : UlL ps] : UlC (sep ps) := ⟨fun H d od u A h hd hu hn => i.h _ _ _ _ _ h hd hu hn⟩
mutual
theorem datP_ul {H H' : Hp} (k : ∀ a xs, H a = some (.tup xs) → H' a = some (.tup xs)) : ∀ (d : PyData) {v : V} {A : List Addr}, datP H v d A → (∀ a ∈ A, H' a = H a) → datP H' v d A
  | .none, _, _, h, _ => h
  | .bool _, _, _, h, _ => h
  | .int _, _, _, h, _ => h
  | .str _, _, _, h, _ => h
  | .list ds, _, _, ⟨b, xs, A', e1, e, hb, hs⟩, ha => ⟨b, xs, A', e1, e, by rw [ha b (by simp [e]), hb], datA_ul k ds hs fun a z => ha a (by simp [e, z])⟩
  | .tuple ds, _, _, ⟨b, xs, e1, hb, hs⟩, ha => ⟨b, xs, e1, k b xs hb, datA_ul k ds hs ha⟩
  | .dict kvs, _, _, ⟨b, ks, A', e1, e, hb, hs⟩, ha => ⟨b, ks, A', e1, e, by rw [ha b (by simp [e]), hb], datK_ul k kvs hs fun a z => ha a (by simp [e, z])⟩
theorem datA_ul {H H' : Hp} (k : ∀ a xs, H a = some (.tup xs) → H' a = some (.tup xs)) : ∀ (ds : List PyData) {vs : List V} {A : List Addr}, datA H vs ds A → (∀ a ∈ A, H' a = H a) → datA H' vs ds A
  | [], _, _, h, _ => h
  | d :: ds, _, _, ⟨v, r, A1, A2, e1, e, h1, h2⟩, ha => ⟨v, r, A1, A2, e1, e, datP_ul k d h1 fun a z => ha a (by simp [e, z]), datA_ul k ds h2 fun a z => ha a (by simp [e, z])⟩
theorem datK_ul {H H' : Hp} (k : ∀ a xs, H a = some (.tup xs) → H' a = some (.tup xs)) : ∀ (ds : List (PyData × PyData)) {vs : List (Key × V)} {A : List Addr}, datK H vs ds A → (∀ a ∈ A, H' a = H a) → datK H' vs ds A
  | [], _, _, h, _ => h
  | p :: r, _, _, ⟨x, v, t, A1, A2, e1, e2, e, h1, h2⟩, ha => ⟨x, v, t, A1, A2, e1, e2, e, datP_ul k p.2 h1 fun a z => ha a (by simp [e, z]), datK_ul k r h2 fun a z => ha a (by simp [e, z])⟩
end
theorem upd_tup {H : Hp} {d : Addr} {od : Obj} {u : HO} (hd : H d = some (.frz od u)) : ∀ a xs, H a = some (.tup xs) → (upd H d u) a = some (.tup xs) := fun a xs h => upd_nd h hd fun _ _ z => nomatch z
theorem upd_own {H : Hp} {d : Addr} {u : HO} {A : List Addr} (hn : d ∉ A) : ∀ a ∈ A, (upd H d u) a = H a := fun a ha => upd_ne fun z => hn (z ▸ ha)
instance {v : V} {d : PyData} : UlC (dat v d) := ⟨fun H d' od u A h hd hu hn => datP_ul (upd_tup hd) d h (upd_own hn)⟩
instance {vs : List V} {ds : List PyData} : UlC (dats vs ds) := ⟨fun H d' od u A h hd hu hn => datA_ul (upd_tup hd) ds h (upd_own hn)⟩
instance {ks : List (Key × V)} {kvs : List (PyData × PyData)} : UlC (datk ks kvs) := ⟨fun H d' od u A h hd hu hn => datK_ul (upd_tup hd) kvs h (upd_own hn)⟩
instance {K : PySem.W.Frag} {a : Addr} {xs : List V} : UlC (scr K a xs) := ⟨fun H d od u A h hd hu hn => ⟨h.1, h.2.imp (fun ⟨o, z⟩ => ⟨o, by
  rw [upd_ne (fun e => by rw [e, hd] at z; cases z; exact hu)]
  exact z⟩) fun z => z⟩⟩
instance {b : Bool} {a : Addr} {xs : List V} : UlC (sq b a xs) := by cases b <;> unfold sq <;> infer_instance
section
variable {H : Hp} {F : List SP} {d : Addr} {od : Obj} {u : HO}
end
section
variable {H : Hp} {F : List SP} {d : Addr} {u : HO} {σ : L2.St} {t : TS} {te : TE} {D : Ends} {Q : VK}
end
section
variable {H : Hp} {d : Addr} {o : Obj} {R : It → Hp → Prop}
end
end MK

namespace MK
open PySem PySem.Spec PyProof.Rows L2
/-! tuples of whole numbers are kept for ever; comprehensions over held data -/
section
variable {H : Hp} {F : List SP} {v : V} {xs vs : List V} {ds : List PyData} {zs : List Int}
theorem zints : ∀ {zs : List Int} {vs : List V} {F : List SP}, Star H (dats vs (zs.map PyData.int) :: F) ↔ vs = zs.map V.int ∧ Star H F
  | [], vs, F => dats_n
  | z :: zs, vs, F => by
    rw [List.map_cons, List.map_cons]
    constructor
    · intro S
      obtain ⟨v, r, e, S1⟩ := dats_c.mp S
      obtain ⟨e2, S2⟩ := dat_i.mp S1
      obtain ⟨e3, S3⟩ := zints.mp S2
      exact ⟨by rw [e, e2, e3], S3⟩
    · rintro ⟨e, S⟩
      subst e
      exact dats_c.mpr ⟨_, _, rfl, dat_i.mpr ⟨rfl, zints.mpr ⟨rfl, S⟩⟩⟩
end
section
variable {K : PySem.W.Frag} {F : List SP} {H : Hp} {Q : VK} {a D : Addr} {σ : L2.St} {g : TG} {tt : TT} {te : TE} {vs : List Nat} {xs : List V} {ds : List PyData}
end
section
variable {K : PySem.W.Frag} {H : Hp} {F : List SP} {v : V} {xs vs acc : List V} {ds : List PyData}
end
end MK

/-! MkErv: a caught error handed to a def. Own work, by an AI agent. -/
namespace MK
open PySem PySem.Spec PyProof.Rows L2
section
variable {P : Program} {w : World} {K : PySem.W.Frag} {mg : Str → Option Value} {base : Heap} {f : Addr} {x qual : Str} {ps N : List Str} {scope : Scope}
/-- what a def promises that is handed the error that is caught, with its class and its dict -/
structure FnE (P : Program) (w : World) (K : PySem.W.Frag) (mg : Str → Option Value) (base : Heap) (k : Nat) (f : Addr) (fd : FuncData) (ps : List Str) (sp : Addr → Value → Option Addr → Sp) : Prop where
  len : ∀ a cls d vs H Q E, sp a cls d vs H Q E → vs.length = ps.length
  run : ∀ (A : Around) (outer : List Env) (s : Shared) (H : Hp) (args : Args) (us : List Value) (vs : List V) (Q : VK) (a : Addr) (oe : Obj) (cls : Value) (d : Option Addr), Zc cls d oe → (∃ fl, oe.data = .fields fl) →
    L2H.RoomH k A → A.guards = some [] → L2H.PinOk outer H s (a, oe) → Env0 P w K mg base A outer s H → BindsTo s fd args (ps.zip us) → Vals vs us → sp a cls d vs H Q (fun _ _ _ => False) →
      codeAny (model P w) A (.call (.ref f) args) (CR (L2.CX P w) outer P w H s Q (fun _ _ _ => False)) s
abbrev cxE (P : Program) (w : World) (K : PySem.W.Frag) (mg : Str → Option Value) (base : Heap) (N : List Str) (qual : Str) (scope : Scope) (f : Addr) (cdv : Value) (A : Around) (outer : List Env) (s : Shared) (H : Hp) (p : Addr × Obj) : Cx :=
  L2H.cxH (L2.CX P w) P w K mg base N qual scope f cdv A outer s H (fun _ _ _ => False) p
theorem FnE.of {k : Nat} {fd : FuncData} {sp : Addr → Value → Option Addr → Sp} {params : Arguments} {body : List Stmt} (F : FunD K x qual params body scope [] [] f fd) (S : FnScope N ps scope) (len : ∀ a cls d vs H Q E, sp a cls d vs H Q E → vs.length = ps.length)
    (hbody : ∀ (cdv : Value) (A : Around) (outer : List Env) (s : Shared) (H : Hp) (vs : List V) (Q : VK) (a : Addr) (oe : Obj) (cls : Value) (d : Option Addr), Zc cls d oe → (∃ fl, oe.data = .fields fl) →
      L2H.RoomH k (A.deeper (envOfC qual scope s.heap.objs.size f cdv)) → A.guards = some [] → sp a cls d vs H Q (fun _ _ _ => False) →
      ∃ t, PSs (cxE P w K mg base N qual scope f cdv A outer s H (a, oe)) body t ∧ t { nx := fun _ H' => Q .non H', rt := Q } (start N vs) H) :
    FnE P w K mg base (k + 1) f fd ps sp := by
  obtain ⟨oc, od, dV, kV, doc, pm, an, cdv, ct, osl, e, lk, hcd, _, _⟩ := F.ex
  subst e
  refine ⟨len, ?_⟩
  intro A outer s H args us vs Q a oe cls d hz hf hr hg hpin e0 hb r hsp
  have hl := len _ _ _ _ _ _ _ hsp
  have kin : K.In s.heap := e0.mod.kin.keeps (fun b o z => (e0.bs b o z).1)
  have kinds : ∀ y ∈ ps.zip us, scope.names.lookup y.1 = some .local ∨
      (scope.names.lookup y.1 = some .cell ∧ ((cellsFrom (s.heap.objs.size + 1) scope.names []).lookup y.1).isSome = true) := by
    intro y hy
    have hm : y.1 ∈ ps := (List.of_mem_zip (show (y.1, y.2) ∈ ps.zip us from hy)).1
    rcases S.par y.1 hm with q | q
    · exact Or.inl q
    · exact Or.inr ⟨q, PySem.W.cellsFrom_some _ _ _ (Or.inl q)⟩
  refine codeAny_call_function hr.depth (kin _ _ lk) rfl S.co S.gen rfl (PySem.W.codeRec_of kin hcd) (hb _ _ _ _ ?_)
  refine wpAny_newFunctionEnv_cells S.kind kinds ?_
  intro env he s1 x
  subst he
  have lim : s.heap.NoLimit := e0.mod.nolimit.keeps (fun b o z => (e0.bs b o z).1)
  refine ⟨lim.keeps x.toInCall.keep, codeAny_func ?_⟩
  obtain ⟨t, ht, hq⟩ := hbody cdv A outer s H vs Q a oe cls d hz hf (hr.deeper _) hg hsp
  refine wpAny_mono (ht.run [] s1 (start N vs) H _ (L2H.inv_startH S hpin e0 hl r x) hq) ?_ (fun _ _ z => z)
  intro fl s' hs
  cases fl with
  | next =>
    obtain ⟨σ', H', J, q⟩ := hs
    exact ⟨V.non, H', J.os, J.bare, J.base, J.hok, rfl, q⟩
  | ret u =>
    obtain ⟨v, σ', H', J, rv, q⟩ := hs
    exact ⟨v, H', J.os, J.bare, J.base, J.hok, rv, q⟩
  | brk =>
    obtain ⟨_, _, _, q⟩ := hs
    exact q.elim
  | cont =>
    obtain ⟨_, _, _, q⟩ := hs
    exact q.elim
structure OkE (P : Program) (w : World) (K : PySem.W.Frag) (mg : Str → Option Value) (base : Heap) (k : Nat) (f : Addr) (ps : List Str) (sp : Addr → Value → Option Addr → Sp) : Prop where
  ex : ∃ fd, FnE P w K mg base k f fd ps sp ∧ L2.Binds K fd ps []
theorem OkE.of {k : Nat} {sp : Addr → Value → Option Addr → Sp} {params : Arguments} {body : List Stmt} {t : Addr → Value → Option Addr → WX → TS} {n m : Nat} (F : ∃ fd, FunD K x qual params body scope [] [] f fd) (S : FnScope N ps scope)
    (b : ∀ (kV doc pm : Value) (an : Option Addr) (cdv ct : Value) (us : List Value), us.length = ps.length → bindArgs (PySem.W.fnOf x qual params body scope .none kV doc pm an cdv ct) ⟨us, []⟩ = pure (ps.zip us))
    (hn : ps.length = n) (hN : N.length = n + m) (hs : ∀ a cls d vs H Q E, sp a cls d vs H Q E → vs.length = n ∧ t a cls d (wE E) (endOf Q) (st0 vs m) H)
    (hb : ∀ (cdv : Value) (A : Around) (outer : List Env) (s : Shared) (H : Hp) (a : Addr) (oe : Obj) (cls : Value) (d : Option Addr), Zc cls d oe → (∃ fl, oe.data = .fields fl) → L2H.RoomH k (A.deeper (envOfC qual scope s.heap.objs.size f cdv)) → A.guards = some [] →
      PSs (cxE P w K mg base N qual scope f cdv A outer s H (a, oe)) body (t a cls d (wE fun _ _ _ => False))) : OkE P w K mg base (k + 1) f ps sp := by
  obtain ⟨fd, F⟩ := F
  refine ⟨fd, FnE.of F S (fun a cls d vs H Q E z => by rw [(hs a cls d vs H Q E z).1, hn]) ?_, F.bindsN b⟩
  intro cdv A outer s H vs Q a oe cls d hz hf hr hg z
  obtain ⟨z1, z2⟩ := hs a cls d vs H Q _ z
  exact ⟨t a cls d (wE fun _ _ _ => False), hb cdv A outer s H a oe cls d hz hf hr hg, by rw [st0_eq z1 hN]; exact z2⟩
end
section
variable {X : Cx} {a : Addr} {oe : Obj} {cls : Value} {d : Option Addr} {f : Addr} {sp : Addr → Value → Option Addr → Sp} {x : Str} {p pos : Pos} {e : Expr} {es : List Expr} {t : TA}
theorem units65 {k : Nat} {A : Around} (r : Room k A) : A.units + 65 < cLine := by
  have := r.un
  omega
end
end MK

namespace MK
open PySem PySem.Spec PyProof.Rows L2

/-! ### sorted(d), its keys whole numbers, however many -/
end MK

namespace MK
open PySem PySem.Spec PyProof.Rows L2

/-! ### d.setdefault(k, x) -/
section
variable {H H' : Hp} {Q : VK} {F ps : List SP} {a p : Addr} {n : Int} {z : V} {kvs : List (Key × V)} {o : HO}
/-! ### what holds in a wider heap -/
end

/-! ### list(d.items()) -/
def its : List Addr → List (Key × V) → SP
  | t :: ts, q :: r => sep [fx t (.tup [kV q.1, q.2]), its ts r]
  | _, _ => pr True
section
variable {H : Hp} {Q : VK} {F : List SP} {a : Addr} {kvs : List (Key × V)}
end

/-! ### list(d.values()) -/
section
variable {H : Hp} {Q : VK} {F : List SP} {a : Addr} {kvs : List (Key × V)}
end
end MK
namespace MK
open PySem PySem.Spec PyProof.Rows L2

/-! ### d.setdefault(k, x), k a tuple -/
section
variable {H : Hp} {Q : VK} {F : List SP} {a b : Addr} {z : V} {kvs : List (List Key × V)} {k : List Key}
end
end MK
namespace MK
open PySem PySem.Spec PyProof.Rows L2

/-! ### list(d.values()), its keys tuples -/
end MK

/-! sorted(set(xs)) of a list of whole numbers -/
namespace MK
open PySem PySem.Spec PyProof.Rows L2
section
variable {P : Program} {w : World} {A : Around} {E : Value → Shared → Prop} {s : Shared}
end
section
variable {X : Cx}
end
section
variable {H : Hp} {Q : VK} {F : List SP}
end
end MK

namespace Lawk17
open PySem PySem.Spec PyProof.Rows L2 MK
def t_Order_init (K : PySem.W.Frag) (W : WX) : TS := tSeq (sStF [(He.ga K "Order")] "standing" (eL (aC (eC (.int 0)) (aN))) (eV 0)) (tSeq (sStF [(He.ga K "Order")] "labelled" (eDis [(eC (.int 0), eC (.int 0))]) (eV 0)) (tSeq (sStF [(He.ga K "Order")] "given" (eC (.int 1)) (eV 0)) (sStF [(He.ga K "Order")] "times" (eC (.int 0)) (eV 0))))
@[irreducible] def sp_Order_init (K : PySem.W.Frag) : Sp := fun vs H Q E => vs.length = 1 ∧ t_Order_init K (wE E) (endOf Q) (st0 vs 0) H
theorem sp_Order_init_i {K : PySem.W.Frag} {a0 : V} {H : Hp} {Q : VK} {E : XK} (h : t_Order_init K (wE E) (endOf Q) [some a0] H) : sp_Order_init K [a0] H Q E := by unfold sp_Order_init; exact ⟨rfl, h⟩
def t_is_whole (K : PySem.W.Frag) (W : WX) : TS := sRet (eAnd (eF (cIsi K .int [(He.ga K "Order"), (He.ga K "Tour")]) (aC (eV 0) (aC (eC (.ty "int")) aN))) (eAnd (eNot (eF (cIsi K .bool [(He.ga K "Order"), (He.ga K "Tour")]) (aC (eV 0) (aC (eC (.ty "bool")) aN)))) (eChain (opLe) (opLe) (eV 1) (eV 0) (eV 2))))
@[irreducible] def sp_is_whole (K : PySem.W.Frag) : Sp := fun vs H Q E => vs.length = 3 ∧ t_is_whole K (wE E) (endOf Q) (st0 vs 0) H
theorem sp_is_whole_i {K : PySem.W.Frag} {a0 a1 a2 : V} {H : Hp} {Q : VK} {E : XK} (h : t_is_whole K (wE E) (endOf Q) [some a0, some a1, some a2] H) : sp_is_whole K [a0, a1, a2] H Q E := by unfold sp_is_whole; exact ⟨rfl, h⟩
def t_MakesError_init (K : PySem.W.Frag) (W : WX) : TS := sDrop (tVeI K (aC (eV 0) (aC (eV 1) (aN))))
@[irreducible] def sp_MakesError_init (K : PySem.W.Frag) : Sp := fun vs H Q E => vs.length = 2 ∧ t_MakesError_init K (wE E) (endOf Q) (st0 vs 0) H
theorem sp_MakesError_init_i {K : PySem.W.Frag} {a0 a1 : V} {H : Hp} {Q : VK} {E : XK} (h : t_MakesError_init K (wE E) (endOf Q) [some a0, some a1] H) : sp_MakesError_init K [a0, a1] H Q E := by unfold sp_MakesError_init; exact ⟨rfl, h⟩
def t_Order_label_behind (K : PySem.W.Frag) (W : WX) : TS := tSeq (sIf (kT (eB (opLt) (eB (opAdd K) (eV 1) (eC (.int 1))) (eF (cLen K) (aC (eFld [(He.ga K "Order")] "standing" (eV 0)) (aN))))) (sRet (eB (ixX K) (eFld [(He.ga K "Order")] "labelled" (eV 0)) (eB (ixX K) (eFld [(He.ga K "Order")] "standing" (eV 0)) (eB (opAdd K) (eV 1) (eC (.int 1)))))) (tNext)) (sRet (eC (.int 1024)))
@[irreducible] def sp_Order_label_behind (K : PySem.W.Frag) : Sp := fun vs H Q E => vs.length = 2 ∧ t_Order_label_behind K (wE E) (endOf Q) (st0 vs 0) H
theorem sp_Order_label_behind_i {K : PySem.W.Frag} {a0 a1 : V} {H : Hp} {Q : VK} {E : XK} (h : t_Order_label_behind K (wE E) (endOf Q) [some a0, some a1] H) : sp_Order_label_behind K [a0, a1] H Q E := by unfold sp_Order_label_behind; exact ⟨rfl, h⟩
def b_Order_label_all_1 (K : PySem.W.Frag) (W : WX) : TS := sSetI (eB (opMul) (eV 2) (eV 1)) (eFld [(He.ga K "Order")] "labelled" (eV 0)) (eV 3)
def t_Order_label_all (K : PySem.W.Frag) (W : WX) : TS := tSeq (sSet 1 (eB (opDiv) (eC (.int 1024)) (eF (cLen K) (aC (eFld [(He.ga K "Order")] "standing" (eV 0)) (aN))))) (tSeq (sFor (iEn K (aC (eFld [(He.ga K "Order")] "standing" (eV 0)) (aN))) (gU K [2, 3]) (b_Order_label_all_1 K W)) (sAgF [(He.ga K "Order")] "times" agAdd (eV 0) (eC (.int 1))))
@[irreducible] def sp_Order_label_all (K : PySem.W.Frag) : Sp := fun vs H Q E => vs.length = 1 ∧ t_Order_label_all K (wE E) (endOf Q) (st0 vs 3) H
theorem sp_Order_label_all_i {K : PySem.W.Frag} {a0 : V} {H : Hp} {Q : VK} {E : XK} (h : t_Order_label_all K (wE E) (endOf Q) [some a0, none, none, none] H) : sp_Order_label_all K [a0] H Q E := by unfold sp_Order_label_all; exact ⟨rfl, h⟩
def t_L_cell_at (K : PySem.W.Frag) (W : WX) : TS := tSeq (sIf (kT (eB (opLt) (eV 1) (eF (cLen K) (aC (eV 0) (aN))))) (sRet (eB (ixX K) (eV 0) (eV 1))) (tNext)) (sRet (eB (opAdd K) (eB (opMul) (eC (.int 7919)) (eV 1)) (eC (.int 13))))
@[irreducible] def sp_L_cell_at (K : PySem.W.Frag) : Sp := fun vs H Q E => vs.length = 2 ∧ t_L_cell_at K (wE E) (endOf Q) (st0 vs 0) H
theorem sp_L_cell_at_i {K : PySem.W.Frag} {a0 a1 : V} {H : Hp} {Q : VK} {E : XK} (h : t_L_cell_at K (wE E) (endOf Q) [some a0, some a1] H) : sp_L_cell_at K [a0, a1] H Q E := by unfold sp_L_cell_at; exact ⟨rfl, h⟩
def t_L_box (K : PySem.W.Frag) (W : WX) : TS := sRet (eDis [(eC (.str "left"), eF (cMax K) (aC (eC (.int 0)) (aC (eB (opSub) (eV 0) (eB (opPow) (eC (.int 10)) (eC (.int 18)))) (aN)))), (eC (.str "seed"), eB (opMod) (eV 0) (eC (.int 2147483647))), (eC (.str "turn"), eC (.int 0))])
@[irreducible] def sp_L_box (K : PySem.W.Frag) : Sp := fun vs H Q E => vs.length = 1 ∧ t_L_box K (wE E) (endOf Q) (st0 vs 0) H
theorem sp_L_box_i {K : PySem.W.Frag} {a0 : V} {H : Hp} {Q : VK} {E : XK} (h : t_L_box K (wE E) (endOf Q) [some a0] H) : sp_L_box K [a0] H Q E := by unfold sp_L_box; exact ⟨rfl, h⟩
def t_L_take (K : PySem.W.Frag) (W : WX) : TS := tSeq (sIf (kT (eB (opGt) (eB (ixX K) (eV 0) (eC (.str "left"))) (eC (.int 0)))) (tSeq (sSet 2 (eB (opMod) (eB (ixX K) (eV 0) (eC (.str "left"))) (eV 1))) (tSeq (sSetI (eB (opDiv) (eB (ixX K) (eV 0) (eC (.str "left"))) (eV 1)) (eV 0) (eC (.str "left"))) (sRet (eV 2)))) (tNext)) (tSeq (sSetI (eB (opAdd K) (eB (ixX K) (eV 0) (eC (.str "turn"))) (eC (.int 1))) (eV 0) (eC (.str "turn"))) (tSeq (sSet 3 (eB (opMod) (eB (opPow) (eB (opAdd K) (eB (ixX K) (eV 0) (eC (.str "seed"))) (eB (opMul) (eC (.int 7919)) (eB (ixX K) (eV 0) (eC (.str "turn"))))) (eC (.int 3))) (eC (.int 2147483629)))) (tSeq (sSet 3 (eB (opMod) (eB (opPow) (eB (opAdd K) (eV 3) (eB (opMul) (eC (.int 104729)) (eB (ixX K) (eV 0) (eC (.str "turn"))))) (eC (.int 2))) (eC (.int 2147483587)))) (sRet (eB (opMod) (eB (opDiv) (eV 3) (eC (.int 8))) (eV 1))))))
@[irreducible] def sp_L_take (K : PySem.W.Frag) : Sp := fun vs H Q E => vs.length = 2 ∧ t_L_take K (wE E) (endOf Q) (st0 vs 2) H
theorem sp_L_take_i {K : PySem.W.Frag} {a0 a1 : V} {H : Hp} {Q : VK} {E : XK} (h : t_L_take K (wE E) (endOf Q) [some a0, some a1, none, none] H) : sp_L_take K [a0, a1] H Q E := by unfold sp_L_take; exact ⟨rfl, h⟩
def t_Order_marks (K : PySem.W.Frag) (W : WX) : TS := sRet (eF (cList K) (aC (eFld [(He.ga K "Order")] "standing" (eV 0)) (aN)))
@[irreducible] def sp_Order_marks (K : PySem.W.Frag) : Sp := fun vs H Q E => vs.length = 1 ∧ t_Order_marks K (wE E) (endOf Q) (st0 vs 0) H
theorem sp_Order_marks_i {K : PySem.W.Frag} {a0 : V} {H : Hp} {Q : VK} {E : XK} (h : t_Order_marks K (wE E) (endOf Q) [some a0] H) : sp_Order_marks K [a0] H Q E := by unfold sp_Order_marks; exact ⟨rfl, h⟩
def t_Tour_many (K : PySem.W.Frag) (W : WX) : TS := sRet (eF (cLen K) (aC (eFld [(He.ga K "Tour")] "both_marks" (eV 0)) (aN)))
@[irreducible] def sp_Tour_many (K : PySem.W.Frag) : Sp := fun vs H Q E => vs.length = 1 ∧ t_Tour_many K (wE E) (endOf Q) (st0 vs 0) H
theorem sp_Tour_many_i {K : PySem.W.Frag} {a0 : V} {H : Hp} {Q : VK} {E : XK} (h : t_Tour_many K (wE E) (endOf Q) [some a0] H) : sp_Tour_many K [a0] H Q E := by unfold sp_Tour_many; exact ⟨rfl, h⟩
def t_Order_many (K : PySem.W.Frag) (W : WX) : TS := sRet (eF (cLen K) (aC (eFld [(He.ga K "Order")] "standing" (eV 0)) (aN)))
@[irreducible] def sp_Order_many (K : PySem.W.Frag) : Sp := fun vs H Q E => vs.length = 1 ∧ t_Order_many K (wE E) (endOf Q) (st0 vs 0) H
def b_L_above_1 (K : PySem.W.Frag) (W : WX) : TS := tSeq (sSet 1 (eB (ixX K) (eV 0) (eV 1))) (sDrop (tBM K "list" opApp (eV 2) (aC (eV 1) (aN))))
def t_L_above (K : PySem.W.Frag) (W : WX) : TS := tSeq (sSet 2 (eL (aN))) (tSeq (sWhile (kT (eB (opGt) (eV 1) (eC (.int 0)))) (b_L_above_1 K W)) (sRet (eV 2)))
@[irreducible] def sp_L_above (K : PySem.W.Frag) : Sp := fun vs H Q E => vs.length = 2 ∧ t_L_above K (wE E) (endOf Q) (st0 vs 1) H
theorem sp_L_above_i {K : PySem.W.Frag} {a0 a1 : V} {H : Hp} {Q : VK} {E : XK} (h : t_L_above K (wE E) (endOf Q) [some a0, some a1, none] H) : sp_L_above K [a0, a1] H Q E := by unfold sp_L_above; exact ⟨rfl, h⟩
def t_Order_anew (K : PySem.W.Frag) (W : WX) : TS := sRet (eFld [(He.ga K "Order")] "times" (eV 0))
@[irreducible] def sp_Order_anew (K : PySem.W.Frag) : Sp := fun vs H Q E => vs.length = 1 ∧ t_Order_anew K (wE E) (endOf Q) (st0 vs 0) H
theorem sp_Order_anew_i {K : PySem.W.Frag} {a0 : V} {H : Hp} {Q : VK} {E : XK} (h : t_Order_anew K (wE E) (endOf Q) [some a0] H) : sp_Order_anew K [a0] H Q E := by unfold sp_Order_anew; exact ⟨rfl, h⟩
def t_NoMark_init (K : PySem.W.Frag) (W : WX) : TS := tSeq (sDrop (eCall (sp_MakesError_init K) W (aC (eV 0) (aC (eC (.str "no mark")) (aN))))) (tOst K "found" (eV 0) (eV 1))
@[irreducible] def sp_NoMark_init (K : PySem.W.Frag) : Sp := fun vs H Q E => vs.length = 2 ∧ t_NoMark_init K (wE E) (endOf Q) (st0 vs 0) H
theorem sp_NoMark_init_i {K : PySem.W.Frag} {a0 a1 : V} {H : Hp} {Q : VK} {E : XK} (h : t_NoMark_init K (wE E) (endOf Q) [some a0, some a1] H) : sp_NoMark_init K [a0, a1] H Q E := by unfold sp_NoMark_init; exact ⟨rfl, h⟩
def t_TooMany_init (K : PySem.W.Frag) (W : WX) : TS := tSeq (sDrop (eCall (sp_MakesError_init K) W (aC (eV 0) (aC (eC (.str "too many")) (aN))))) (tOst K "count" (eV 0) (eV 1))
@[irreducible] def sp_TooMany_init (K : PySem.W.Frag) : Sp := fun vs H Q E => vs.length = 2 ∧ t_TooMany_init K (wE E) (endOf Q) (st0 vs 0) H
theorem sp_TooMany_init_i {K : PySem.W.Frag} {a0 a1 : V} {H : Hp} {Q : VK} {E : XK} (h : t_TooMany_init K (wE E) (endOf Q) [some a0, some a1] H) : sp_TooMany_init K [a0, a1] H Q E := by unfold sp_TooMany_init; exact ⟨rfl, h⟩
def t_NoMake_init (K : PySem.W.Frag) (W : WX) : TS := tSeq (sDrop (eCall (sp_MakesError_init K) W (aC (eV 0) (aC (eC (.str "no kept make")) (aN))))) (tOst K "found" (eV 0) (eV 1))
@[irreducible] def sp_NoMake_init (K : PySem.W.Frag) : Sp := fun vs H Q E => vs.length = 2 ∧ t_NoMake_init K (wE E) (endOf Q) (st0 vs 0) H
theorem sp_NoMake_init_i {K : PySem.W.Frag} {a0 a1 : V} {H : Hp} {Q : VK} {E : XK} (h : t_NoMake_init K (wE E) (endOf Q) [some a0, some a1] H) : sp_NoMake_init K [a0, a1] H Q E := by unfold sp_NoMake_init; exact ⟨rfl, h⟩
def t_L_odd (K : PySem.W.Frag) (W : WX) : TS := tSeq (sSet 3 (eL (aC (eU opNeg (eC (.int 1))) (aC (eV 2) (aC (eB (opAdd K) (eV 2) (eC (.int 1))) (aC (eB (opPow) (eC (.int 10)) (eC (.int 39))) (aC (eB (opSub) (eC (.int 0)) (eB (opPow) (eC (.int 10)) (eC (.int 39)))) (aC (eC (.bl true)) (aC (eC (.bl false)) (aC (eC .non) (aC (eC (.str "0")) (aC (eC (.str "")) (aC (eL (aC (eC (.int 0)) (aN))) (aC (eT (aC (eC (.int 0)) (aN))) (aC (eD0) (aC (eL (aN)) (aC (eV 1) (aC (eL (aC (eV 1) (aN))) (aN))))))))))))))))))) (sRet (eB (ixX K) (eV 3) (eCall (sp_L_take K) W (aC (eV 0) (aC (eC (.int 16)) (aN))))))
@[irreducible] def sp_L_odd (K : PySem.W.Frag) : Sp := fun vs H Q E => vs.length = 3 ∧ t_L_odd K (wE E) (endOf Q) (st0 vs 1) H
theorem sp_L_odd_i {K : PySem.W.Frag} {a0 a1 a2 : V} {H : Hp} {Q : VK} {E : XK} (h : t_L_odd K (wE E) (endOf Q) [some a0, some a1, some a2, none] H) : sp_L_odd K [a0, a1, a2] H Q E := by unfold sp_L_odd; exact ⟨rfl, h⟩
def c_Tour_by_marks_1 (K : PySem.W.Frag) : TE := eT (aC (eB (ixX K) (eV 4) (eV 1)) (aC (eV 3) (aN)))
def c_Tour_by_marks_2 (K : PySem.W.Frag) : TE := eB (ixX K) (eV 2) (eV 5)
def t_Tour_by_marks (K : PySem.W.Frag) (W : WX) : TS := tSeq (sSet 2 (eF (cDict K) (aC (eLc (iEn K (aC (eFld [(He.ga K "Tour")] "both_marks" (eV 0)) (aN))) (gU K [3, 4]) (tYes) (c_Tour_by_marks_1 K) [3, 4]) (aN)))) (sRet (eLc (iV K (eMethD [((He.ga K "Order"), sp_Order_marks K)] "marks" W (eFld [(He.ga K "Tour")] "placed" (eV 0)) aN)) (gN 5) (kT (eB (inX K false) (eV 5) (eV 2))) (c_Tour_by_marks_2 K) [5]))
@[irreducible] def sp_Tour_by_marks (K : PySem.W.Frag) : Sp := fun vs H Q E => vs.length = 2 ∧ t_Tour_by_marks K (wE E) (endOf Q) (st0 vs 4) H
theorem sp_Tour_by_marks_i {K : PySem.W.Frag} {a0 a1 : V} {H : Hp} {Q : VK} {E : XK} (h : t_Tour_by_marks K (wE E) (endOf Q) [some a0, some a1, none, none, none, none] H) : sp_Tour_by_marks K [a0, a1] H Q E := by unfold sp_Tour_by_marks; exact ⟨rfl, h⟩
def t_Tour_coming (K : PySem.W.Frag) (W : WX) : TS := sRet (eMethD [((He.ga K "Tour"), sp_Tour_by_marks K)] "by_marks" W (eV 0) (aC (eC (.int 0)) (aN)))
@[irreducible] def sp_Tour_coming (K : PySem.W.Frag) : Sp := fun vs H Q E => vs.length = 1 ∧ t_Tour_coming K (wE E) (endOf Q) (st0 vs 0) H
theorem sp_Tour_coming_i {K : PySem.W.Frag} {a0 : V} {H : Hp} {Q : VK} {E : XK} (h : t_Tour_coming K (wE E) (endOf Q) [some a0] H) : sp_Tour_coming K [a0] H Q E := by unfold sp_Tour_coming; exact ⟨rfl, h⟩
def t_Order_copied (K : PySem.W.Frag) (W : WX) : TS := tSeq (sSet 1 (eMake (He.ga K "Order") (sp_Order_init K) W aN)) (tSeq (sStF [(He.ga K "Order")] "standing" (eF (cList K) (aC (eFld [(He.ga K "Order")] "standing" (eV 0)) (aN))) (eV 1)) (tSeq (sStF [(He.ga K "Order")] "labelled" (eF (cDict K) (aC (eFld [(He.ga K "Order")] "labelled" (eV 0)) (aN))) (eV 1)) (tSeq (sStF [(He.ga K "Order")] "given" (eFld [(He.ga K "Order")] "given" (eV 0)) (eV 1)) (tSeq (sStF [(He.ga K "Order")] "times" (eFld [(He.ga K "Order")] "times" (eV 0)) (eV 1)) (sRet (eV 1))))))
@[irreducible] def sp_Order_copied (K : PySem.W.Frag) : Sp := fun vs H Q E => vs.length = 1 ∧ t_Order_copied K (wE E) (endOf Q) (st0 vs 1) H
theorem sp_Order_copied_i {K : PySem.W.Frag} {a0 : V} {H : Hp} {Q : VK} {E : XK} (h : t_Order_copied K (wE E) (endOf Q) [some a0, none] H) : sp_Order_copied K [a0] H Q E := by unfold sp_Order_copied; exact ⟨rfl, h⟩
def t_Tour_leaving (K : PySem.W.Frag) (W : WX) : TS := sRet (eMethD [((He.ga K "Tour"), sp_Tour_by_marks K)] "by_marks" W (eV 0) (aC (eC (.int 1)) (aN)))
@[irreducible] def sp_Tour_leaving (K : PySem.W.Frag) : Sp := fun vs H Q E => vs.length = 1 ∧ t_Tour_leaving K (wE E) (endOf Q) (st0 vs 0) H
theorem sp_Tour_leaving_i {K : PySem.W.Frag} {a0 : V} {H : Hp} {Q : VK} {E : XK} (h : t_Tour_leaving K (wE E) (endOf Q) [some a0] H) : sp_Tour_leaving K [a0] H Q E := by unfold sp_Tour_leaving; exact ⟨rfl, h⟩
def t_Order_need_mark (K : PySem.W.Frag) (W : WX) : TS := sIf (kOr (kNot (kT (eCall (sp_is_whole K) W (aC (eV 1) (aC (eC (.int 0)) (aC (eB (opSub) (eFld [(He.ga K "Order")] "given" (eV 0)) (eC (.int 1))) (aN))))))) (kT (eB (inX K true) (eV 1) (eFld [(He.ga K "Order")] "labelled" (eV 0))))) (sRaise (He.ga K "NoMark") ["found"] W (aC (eV 1) (aN))) (tNext)
@[irreducible] def sp_Order_need_mark (K : PySem.W.Frag) : Sp := fun vs H Q E => vs.length = 2 ∧ t_Order_need_mark K (wE E) (endOf Q) (st0 vs 0) H
theorem sp_Order_need_mark_i {K : PySem.W.Frag} {a0 a1 : V} {H : Hp} {Q : VK} {E : XK} (h : t_Order_need_mark K (wE E) (endOf Q) [some a0, some a1] H) : sp_Order_need_mark K [a0, a1] H Q E := by unfold sp_Order_need_mark; exact ⟨rfl, h⟩
def t_Tour_need_make (K : PySem.W.Frag) (W : WX) : TS := sIf (kNot (kT (eCall (sp_is_whole K) W (aC (eV 1) (aC (eC (.int 0)) (aC (eB (opSub) (eF (cLen K) (aC (eFld [(He.ga K "Tour")] "both_marks" (eV 0)) (aN))) (eC (.int 1))) (aN))))))) (sRaise (He.ga K "NoMake") ["found"] W (aC (eV 1) (aN))) (tNext)
@[irreducible] def sp_Tour_need_make (K : PySem.W.Frag) : Sp := fun vs H Q E => vs.length = 2 ∧ t_Tour_need_make K (wE E) (endOf Q) (st0 vs 0) H
theorem sp_Tour_need_make_i {K : PySem.W.Frag} {a0 a1 : V} {H : Hp} {Q : VK} {E : XK} (h : t_Tour_need_make K (wE E) (endOf Q) [some a0, some a1] H) : sp_Tour_need_make K [a0, a1] H Q E := by unfold sp_Tour_need_make; exact ⟨rfl, h⟩
def t_Tour_order (K : PySem.W.Frag) (W : WX) : TS := sRet (eMethD [((He.ga K "Order"), sp_Order_copied K)] "copied" W (eFld [(He.ga K "Tour")] "placed" (eV 0)) aN)
@[irreducible] def sp_Tour_order (K : PySem.W.Frag) : Sp := fun vs H Q E => vs.length = 1 ∧ t_Tour_order K (wE E) (endOf Q) (st0 vs 0) H
theorem sp_Tour_order_i {K : PySem.W.Frag} {a0 : V} {H : Hp} {Q : VK} {E : XK} (h : t_Tour_order K (wE E) (endOf Q) [some a0] H) : sp_Tour_order K [a0] H Q E := by unfold sp_Tour_order; exact ⟨rfl, h⟩
def t_Order_behind (K : PySem.W.Frag) (W : WX) : TS := tSeq (sDrop (eMethD [((He.ga K "Order"), sp_Order_need_mark K)] "need_mark" W (eV 0) (aC (eV 1) (aN)))) (tSeq (sIf (kT (eB (opEq K) (eF (cLen K) (aC (eFld [(He.ga K "Order")] "standing" (eV 0)) (aN))) (eC (.int 200)))) (sRaise (He.ga K "TooMany") ["count"] W (aC (eB (opAdd K) (eC (.int 200)) (eC (.int 1))) (aN))) (tNext)) (tSeq (sSet 2 (tBM K "list" (opIdx K) (eFld [(He.ga K "Order")] "standing" (eV 0)) (aC (eV 1) (aN)))) (tSeq (sIf (kT (eB (opLt) (eB (opSub) (eMethD [((He.ga K "Order"), sp_Order_label_behind K)] "label_behind" W (eV 0) (aC (eV 2) (aN))) (eB (ixX K) (eFld [(He.ga K "Order")] "labelled" (eV 0)) (eV 1))) (eC (.int 2)))) (sDrop (eMethD [((He.ga K "Order"), sp_Order_label_all K)] "label_all" W (eV 0) aN)) (tNext)) (tSeq (sSet 3 (eFld [(He.ga K "Order")] "given" (eV 0))) (tSeq (sSetI (eB (opDiv) (eB (opAdd K) (eB (ixX K) (eFld [(He.ga K "Order")] "labelled" (eV 0)) (eV 1)) (eMethD [((He.ga K "Order"), sp_Order_label_behind K)] "label_behind" W (eV 0) (aC (eV 2) (aN)))) (eC (.int 2))) (eFld [(He.ga K "Order")] "labelled" (eV 0)) (eV 3)) (tSeq (sDrop (tBM K "list" opIns (eFld [(He.ga K "Order")] "standing" (eV 0)) (aC (eB (opAdd K) (eV 2) (eC (.int 1))) (aC (eV 3) (aN))))) (tSeq (sAgF [(He.ga K "Order")] "given" agAdd (eV 0) (eC (.int 1))) (sRet (eV 3)))))))))
@[irreducible] def sp_Order_behind (K : PySem.W.Frag) : Sp := fun vs H Q E => vs.length = 2 ∧ t_Order_behind K (wE E) (endOf Q) (st0 vs 2) H
theorem sp_Order_behind_i {K : PySem.W.Frag} {a0 a1 : V} {H : Hp} {Q : VK} {E : XK} (h : t_Order_behind K (wE E) (endOf Q) [some a0, some a1, none, none] H) : sp_Order_behind K [a0, a1] H Q E := by unfold sp_Order_behind; exact ⟨rfl, h⟩
def t_Tour_marks_of (K : PySem.W.Frag) (W : WX) : TS := tSeq (sDrop (eMethD [((He.ga K "Tour"), sp_Tour_need_make K)] "need_make" W (eV 0) (aC (eV 1) (aN)))) (sRet (eB (ixX K) (eFld [(He.ga K "Tour")] "both_marks" (eV 0)) (eV 1)))
@[irreducible] def sp_Tour_marks_of (K : PySem.W.Frag) : Sp := fun vs H Q E => vs.length = 2 ∧ t_Tour_marks_of K (wE E) (endOf Q) (st0 vs 0) H
theorem sp_Tour_marks_of_i {K : PySem.W.Frag} {a0 a1 : V} {H : Hp} {Q : VK} {E : XK} (h : t_Tour_marks_of K (wE E) (endOf Q) [some a0, some a1] H) : sp_Tour_marks_of K [a0, a1] H Q E := by unfold sp_Tour_marks_of; exact ⟨rfl, h⟩
def t_Order_ahead (K : PySem.W.Frag) (W : WX) : TS := tSeq (sDrop (eMethD [((He.ga K "Order"), sp_Order_need_mark K)] "need_mark" W (eV 0) (aC (eV 1) (aN)))) (tSeq (sDrop (eMethD [((He.ga K "Order"), sp_Order_need_mark K)] "need_mark" W (eV 0) (aC (eV 2) (aN)))) (sRet (eB (opLt) (eB (ixX K) (eFld [(He.ga K "Order")] "labelled" (eV 0)) (eV 1)) (eB (ixX K) (eFld [(He.ga K "Order")] "labelled" (eV 0)) (eV 2)))))
@[irreducible] def sp_Order_ahead (K : PySem.W.Frag) : Sp := fun vs H Q E => vs.length = 3 ∧ t_Order_ahead K (wE E) (endOf Q) (st0 vs 0) H
theorem sp_Order_ahead_i {K : PySem.W.Frag} {a0 a1 a2 : V} {H : Hp} {Q : VK} {E : XK} (h : t_Order_ahead K (wE E) (endOf Q) [some a0, some a1, some a2] H) : sp_Order_ahead K [a0, a1, a2] H Q E := by unfold sp_Order_ahead; exact ⟨rfl, h⟩
def t_Tour_init (K : PySem.W.Frag) (W : WX) : TS := tSeq (sStF [(He.ga K "Tour")] "placed" (eMake (He.ga K "Order") (sp_Order_init K) W aN) (eV 0)) (sStF [(He.ga K "Tour")] "both_marks" (eL (aC (eT (aC (eC (.int 0)) (aC (eMethD [((He.ga K "Order"), sp_Order_behind K)] "behind" W (eFld [(He.ga K "Tour")] "placed" (eV 0)) (aC (eC (.int 0)) (aN))) (aN)))) (aN))) (eV 0))
@[irreducible] def sp_Tour_init (K : PySem.W.Frag) : Sp := fun vs H Q E => vs.length = 1 ∧ t_Tour_init K (wE E) (endOf Q) (st0 vs 0) H
theorem sp_Tour_init_i {K : PySem.W.Frag} {a0 : V} {H : Hp} {Q : VK} {E : XK} (h : t_Tour_init K (wE E) (endOf Q) [some a0] H) : sp_Tour_init K [a0] H Q E := by unfold sp_Tour_init; exact ⟨rfl, h⟩
def t_Tour_grow (K : PySem.W.Frag) (W : WX) : TS := tSeq (sDrop (eMethD [((He.ga K "Tour"), sp_Tour_need_make K)] "need_make" W (eV 0) (aC (eV 1) (aN)))) (tSeq (sIf (kT (eB (opEq K) (eF (cLen K) (aC (eFld [(He.ga K "Tour")] "both_marks" (eV 0)) (aN))) (eC (.int 64)))) (sRaise (He.ga K "TooMany") ["count"] W (aC (eB (opAdd K) (eC (.int 64)) (eC (.int 1))) (aN))) (tNext)) (tSeq (sSet 2 (eMethD [((He.ga K "Order"), sp_Order_behind K)] "behind" W (eFld [(He.ga K "Tour")] "placed" (eV 0)) (aC (eB (ixX K) (eB (ixX K) (eFld [(He.ga K "Tour")] "both_marks" (eV 0)) (eV 1)) (eC (.int 0))) (aN)))) (tSeq (sDrop (tBM K "list" opApp (eFld [(He.ga K "Tour")] "both_marks" (eV 0)) (aC (eT (aC (eV 2) (aC (eMethD [((He.ga K "Order"), sp_Order_behind K)] "behind" W (eFld [(He.ga K "Tour")] "placed" (eV 0)) (aC (eV 2) (aN))) (aN)))) (aN)))) (sRet (eB (opSub) (eF (cLen K) (aC (eFld [(He.ga K "Tour")] "both_marks" (eV 0)) (aN))) (eC (.int 1)))))))
@[irreducible] def sp_Tour_grow (K : PySem.W.Frag) : Sp := fun vs H Q E => vs.length = 2 ∧ t_Tour_grow K (wE E) (endOf Q) (st0 vs 1) H
theorem sp_Tour_grow_i {K : PySem.W.Frag} {a0 a1 : V} {H : Hp} {Q : VK} {E : XK} (h : t_Tour_grow K (wE E) (endOf Q) [some a0, some a1, none] H) : sp_Tour_grow K [a0, a1] H Q E := by unfold sp_Tour_grow; exact ⟨rfl, h⟩
def t_Tour_within (K : PySem.W.Frag) (W : WX) : TS := tSeq (sDrop (eMethD [((He.ga K "Tour"), sp_Tour_need_make K)] "need_make" W (eV 0) (aC (eV 1) (aN)))) (tSeq (sDrop (eMethD [((He.ga K "Tour"), sp_Tour_need_make K)] "need_make" W (eV 0) (aC (eV 2) (aN)))) (tSeq (sAsg (eB (ixX K) (eFld [(He.ga K "Tour")] "both_marks" (eV 0)) (eV 1)) (gU K [3, 4])) (tSeq (sAsg (eB (ixX K) (eFld [(He.ga K "Tour")] "both_marks" (eV 0)) (eV 2)) (gU K [5, 6])) (sRet (eAnd (eNot (eMethD [((He.ga K "Order"), sp_Order_ahead K)] "ahead" W (eFld [(He.ga K "Tour")] "placed" (eV 0)) (aC (eV 5) (aC (eV 3) (aN))))) (eNot (eMethD [((He.ga K "Order"), sp_Order_ahead K)] "ahead" W (eFld [(He.ga K "Tour")] "placed" (eV 0)) (aC (eV 4) (aC (eV 6) (aN))))))))))
@[irreducible] def sp_Tour_within (K : PySem.W.Frag) : Sp := fun vs H Q E => vs.length = 3 ∧ t_Tour_within K (wE E) (endOf Q) (st0 vs 4) H
theorem sp_Tour_within_i {K : PySem.W.Frag} {a0 a1 a2 : V} {H : Hp} {Q : VK} {E : XK} (h : t_Tour_within K (wE E) (endOf Q) [some a0, some a1, some a2, none, none, none, none] H) : sp_Tour_within K [a0, a1, a2] H Q E := by unfold sp_Tour_within; exact ⟨rfl, h⟩
def c_Tour_beneath_1 (K : PySem.W.Frag) : TE := eV 2
def t_Tour_beneath (K : PySem.W.Frag) (W : WX) : TS := tSeq (sDrop (eMethD [((He.ga K "Tour"), sp_Tour_need_make K)] "need_make" W (eV 0) (aC (eV 1) (aN)))) (sRet (eLc (iV K (eMethD [((He.ga K "Tour"), sp_Tour_coming K)] "coming" W (eV 0) aN)) (gN 2) (kAnd (kT (eB (opNe K) (eV 2) (eV 1))) (kT (eMethD [((He.ga K "Tour"), sp_Tour_within K)] "within" noW (eV 0) (aC (eV 1) (aC (eV 2) (aN)))))) (c_Tour_beneath_1 K) [2]))
@[irreducible] def sp_Tour_beneath (K : PySem.W.Frag) : Sp := fun vs H Q E => vs.length = 2 ∧ t_Tour_beneath K (wE E) (endOf Q) (st0 vs 1) H
theorem sp_Tour_beneath_i {K : PySem.W.Frag} {a0 a1 : V} {H : Hp} {Q : VK} {E : XK} (h : t_Tour_beneath K (wE E) (endOf Q) [some a0, some a1, none] H) : sp_Tour_beneath K [a0, a1] H Q E := by unfold sp_Tour_beneath; exact ⟨rfl, h⟩
def t_L_call (K : PySem.W.Frag) (W : WX) : TS := sIf (kT (eB (opEq K) (eV 1) (eC (.int 0)))) (sDrop (eMethD [((He.ga K "Tour"), sp_Tour_grow K)] "grow" W (eV 0) (aC (eV 2) (aN)))) (sIf (kT (eB (opEq K) (eV 1) (eC (.int 1)))) (sDrop (eMethD [((He.ga K "Tour"), sp_Tour_marks_of K)] "marks_of" W (eV 0) (aC (eV 2) (aN)))) (sIf (kT (eB (opEq K) (eV 1) (eC (.int 2)))) (sDrop (eMethD [((He.ga K "Tour"), sp_Tour_beneath K)] "beneath" W (eV 0) (aC (eV 2) (aN)))) (sDrop (eMethD [((He.ga K "Tour"), sp_Tour_within K)] "within" W (eV 0) (aC (eV 2) (aC (eV 3) (aN)))))))
@[irreducible] def sp_L_call (K : PySem.W.Frag) : Sp := fun vs H Q E => vs.length = 4 ∧ t_L_call K (wE E) (endOf Q) (st0 vs 0) H
theorem sp_L_call_i {K : PySem.W.Frag} {a0 a1 a2 a3 : V} {H : Hp} {Q : VK} {E : XK} (h : t_L_call K (wE E) (endOf Q) [some a0, some a1, some a2, some a3] H) : sp_L_call K [a0, a1, a2, a3] H Q E := by unfold sp_L_call; exact ⟨rfl, h⟩
def b_L_pairs_right_1 (K : PySem.W.Frag) (W : WX) : TS := tSeq (sSet 7 (eOr (eB (opEqS K [(He.ga K "Order"), (He.ga K "Tour")]) (eV 3) (eV 5)) (eB (inX K false) (eV 3) (eCall (sp_L_above K) W (aC (eV 1) (aC (eV 5) (aN))))))) (tSeq (sSet 6 (eMethD [((He.ga K "Tour"), sp_Tour_within K)] "within" W (eV 0) (aC (eV 3) (aC (eV 5) (aN))))) (tSeq (sIf (kOr (kNot (kT (eF (cIsi K .bool [(He.ga K "Order"), (He.ga K "Tour")]) (aC (eV 6) (aC (eC (.ty "bool")) aN))))) (kT (eB (opNeS K [(He.ga K "Order"), (He.ga K "Tour")]) (eV 6) (eV 7)))) (sRet (eC (.bl false))) (tNext)) (sIf (kAnd (kT (eV 7)) (kT (eB (opNeS K [(He.ga K "Order"), (He.ga K "Tour")]) (eV 3) (eV 5)))) (sDrop (tBM K "list" opApp (eV 4) (aC (eV 5) (aN)))) (tNext))))
def b_L_pairs_right_2 (K : PySem.W.Frag) (W : WX) : TS := tSeq (sSet 4 (eL (aN))) (tSeq (sFor (iV K (eV 2)) (gN 5) (b_L_pairs_right_1 K W)) (tSeq (sSet 6 (eMethD [((He.ga K "Tour"), sp_Tour_beneath K)] "beneath" W (eV 0) (aC (eV 3) (aN)))) (tSeq (sIf (kT (eB (opNe K) (eF (cRepr K) (aC (eV 6) (aN))) (eF (cRepr K) (aC (eV 4) (aN))))) (sRet (eC (.bl false))) (tNext)) (tSeq (sDrop (tBM K "list" opApp (eV 6) (aC (eV 3) (aN)))) (sIf (kT (eB (opNe K) (eF (cRepr K) (aC (eMethD [((He.ga K "Tour"), sp_Tour_beneath K)] "beneath" W (eV 0) (aC (eV 3) (aN))) (aN))) (eF (cRepr K) (aC (eV 4) (aN))))) (sRet (eC (.bl false))) (tNext))))))
def t_L_pairs_right (K : PySem.W.Frag) (W : WX) : TS := tSeq (sFor (iR1 (aC (eF (cLen K) (aC (eV 1) (aN))) (aN))) (gN 3) (b_L_pairs_right_2 K W)) (sRet (eC (.bl true)))
@[irreducible] def sp_L_pairs_right (K : PySem.W.Frag) : Sp := fun vs H Q E => vs.length = 3 ∧ t_L_pairs_right K (wE E) (endOf Q) (st0 vs 5) H
theorem sp_L_pairs_right_i {K : PySem.W.Frag} {a0 a1 a2 : V} {H : Hp} {Q : VK} {E : XK} (h : t_L_pairs_right K (wE E) (endOf Q) [some a0, some a1, some a2, none, none, none, none, none] H) : sp_L_pairs_right K [a0, a1, a2] H Q E := by unfold sp_L_pairs_right; exact ⟨rfl, h⟩
def y_L_told_1 (K : PySem.W.Frag) (W1 : WX) : TS := sDrop (eCall (sp_L_call K) W1 (aC (eV 0) (aC (eV 1) (aC (eV 2) (aC (eV 3) (aN))))))
def z_L_told_1 (K : PySem.W.Frag) (a1 : Addr) (cls1 : Value) (d1 : Option Addr) : TS := tSeq (sSet 4 (eT (aC (eC (.str "other")) (aC (eF (cIsEB a1 cls1 d1 "ValueError" [((He.ga K "NoMake"), true), ((He.ga K "NoMark"), true), ((He.ga K "TooMany"), true)]) (aC (eV 5) (aC (eC (.ty "ValueError")) aN))) (aN))))) (sIf (kAnd (kT (eF (cIsE a1 cls1 d1 (He.ga K "NoMake") [((He.ga K "NoMake"), true), ((He.ga K "NoMark"), false), ((He.ga K "TooMany"), false)]) (aC (eV 5) (aC (eC (.ref (He.ga K "NoMake"))) aN)))) (kNot (kT (eF (cIsE a1 cls1 d1 (He.ga K "TooMany") [((He.ga K "NoMake"), false), ((He.ga K "NoMark"), false), ((He.ga K "TooMany"), true)]) (aC (eV 5) (aC (eC (.ref (He.ga K "TooMany"))) aN)))))) (sSet 4 (eT (aC (eC (.str "make")) (aC (eXf a1 cls1 d1 [(He.ga K "NoMake"), (He.ga K "NoMark")] "found" (eV 5)) (aN))))) (sIf (kAnd (kT (eF (cIsE a1 cls1 d1 (He.ga K "TooMany") [((He.ga K "NoMake"), false), ((He.ga K "NoMark"), false), ((He.ga K "TooMany"), true)]) (aC (eV 5) (aC (eC (.ref (He.ga K "TooMany"))) aN)))) (kNot (kT (eF (cIsE a1 cls1 d1 (He.ga K "NoMake") [((He.ga K "NoMake"), true), ((He.ga K "NoMark"), false), ((He.ga K "TooMany"), false)]) (aC (eV 5) (aC (eC (.ref (He.ga K "NoMake"))) aN)))))) (sSet 4 (eT (aC (eC (.str "many")) (aC (eXf a1 cls1 d1 [(He.ga K "TooMany")] "count" (eV 5)) (aN))))) (tNext)))
def t_L_told (K : PySem.W.Frag) (W : WX) : TS := tSeq (sSet 4 (eT (aC (eC (.str "told")) (aC (eC .non) (aN))))) (tSeq (sTryAs [(.ref (He.ga K "NoMake"), true), (.ref (He.ga K "NoMark"), true), (.ref (He.ga K "TooMany"), true)] 5 W (fun W1 => y_L_told_1 K W1) (fun a1 cls1 d1 => z_L_told_1 K a1 cls1 d1)) (sRet (eV 4)))
@[irreducible] def sp_L_told (K : PySem.W.Frag) : Sp := fun vs H Q E => vs.length = 4 ∧ t_L_told K (wE E) (endOf Q) (st0 vs 2) H
theorem sp_L_told_i {K : PySem.W.Frag} {a0 a1 a2 a3 : V} {H : Hp} {Q : VK} {E : XK} (h : t_L_told K (wE E) (endOf Q) [some a0, some a1, some a2, some a3, none, none] H) : sp_L_told K [a0, a1, a2, a3] H Q E := by unfold sp_L_told; exact ⟨rfl, h⟩
def t_L_refused_right (K : PySem.W.Frag) (W : WX) : TS := tSeq (sSet 3 (eCall (sp_L_take K) W (aC (eV 0) (aC (eC (.int 5)) (aN))))) (tSeq (sSet 4 (eCall (sp_L_take K) W (aC (eV 0) (aC (eC (.int 3)) (aN))))) (tSeq (sPar 5 6 (aC (eCall (sp_L_odd K) W (aC (eV 0) (aC (eV 1) (aC (eV 2) (aN))))) (aC (eCall (sp_L_odd K) W (aC (eV 0) (aC (eV 1) (aC (eV 2) (aN))))) (aN)))) (tSeq (sSet 7 (eCall (sp_L_take K) W (aC (eV 0) (aC (eV 2) (aN))))) (tSeq (sSet 8 (eV 5)) (tSeq (sSet 9 (eB (ixX K) (eL (aC (eT (aC (eV 5) (aC (eV 7) (aN)))) (aC (eT (aC (eV 5) (aC (eV 6) (aN)))) (aC (eT (aC (eV 7) (aC (eV 6) (aN)))) (aN))))) (eV 4))) (tSeq (sIf (kT (eB (opEq K) (eV 4) (eC (.int 2)))) (tSeq (sSet 3 (eC (.int 3))) (sSet 8 (eV 6))) (tNext)) (tSeq (sSet 10 (eCall (sp_L_told K) W (aC (eV 1) (aC (eV 3) (aC (eB (ixX K) (eV 9) (eC (.int 0))) (aC (eB (ixX K) (eV 9) (eC (.int 1))) (aN))))))) (tSeq (sIf (kOr (kT (eB (opNe K) (eB (ixX K) (eV 10) (eC (.int 0))) (eC (.str "make")))) (kOr (kT (eB (opNeS K [(He.ga K "Order"), (He.ga K "Tour")]) (eB (ixX K) (eV 10) (eC (.int 1))) (eV 8))) (kT (eB (opNe K) (eF (cIsi K .bool [(He.ga K "Order"), (He.ga K "Tour")]) (aC (eB (ixX K) (eV 10) (eC (.int 1))) (aC (eC (.ty "bool")) aN))) (eF (cIsi K .bool [(He.ga K "Order"), (He.ga K "Tour")]) (aC (eV 8) (aC (eC (.ty "bool")) aN))))))) (sRet (eC (.bl false))) (tNext)) (sRet (eAnd (eB (opEq K) (eMethD [((He.ga K "Order"), sp_Order_many K), ((He.ga K "Tour"), sp_Tour_many K)] "many" W (eV 1) aN) (eV 2)) (eB (opEq K) (eF (cLen K) (aC (eMethD [((He.ga K "Tour"), sp_Tour_coming K)] "coming" W (eV 1) aN) (aN))) (eV 2))))))))))))
@[irreducible] def sp_L_refused_right (K : PySem.W.Frag) : Sp := fun vs H Q E => vs.length = 3 ∧ t_L_refused_right K (wE E) (endOf Q) (st0 vs 8) H
theorem sp_L_refused_right_i {K : PySem.W.Frag} {a0 a1 a2 : V} {H : Hp} {Q : VK} {E : XK} (h : t_L_refused_right K (wE E) (endOf Q) [some a0, some a1, some a2, none, none, none, none, none, none, none, none] H) : sp_L_refused_right K [a0, a1, a2] H Q E := by unfold sp_L_refused_right; exact ⟨rfl, h⟩
def b_L_full_right_1 (K : PySem.W.Frag) (W : WX) : TS := sDrop (eMethD [((He.ga K "Tour"), sp_Tour_grow K)] "grow" W (eV 0) (aC (eB (opDiv) (eV 1) (eC (.int 3))) (aN)))
def t_L_full_right (K : PySem.W.Frag) (W : WX) : TS := tSeq (sSet 0 (eMake (He.ga K "Tour") (sp_Tour_init K) W aN)) (tSeq (sFor (iR1 (aC (eC (.int 63)) (aN))) (gN 1) (b_L_full_right_1 K W)) (tSeq (sSet 2 (eL (aC (eMethD [((He.ga K "Order"), sp_Order_marks K)] "marks" W (eMethD [((He.ga K "Tour"), sp_Tour_order K)] "order" W (eV 0) aN) aN) (aC (eMethD [((He.ga K "Tour"), sp_Tour_coming K)] "coming" W (eV 0) aN) (aC (eMethD [((He.ga K "Tour"), sp_Tour_leaving K)] "leaving" W (eV 0) aN) (aC (eMethD [((He.ga K "Order"), sp_Order_anew K)] "anew" W (eMethD [((He.ga K "Tour"), sp_Tour_order K)] "order" W (eV 0) aN) aN) (aN))))))) (tSeq (sIf (kOr (kT (eB (opNe K) (eCall (sp_L_told K) W (aC (eV 0) (aC (eC (.int 0)) (aC (eC (.int 63)) (aC (eC (.int 0)) (aN)))))) (eT (aC (eC (.str "many")) (aC (eC (.int 65)) (aN)))))) (kT (eB (opNe K) (eCall (sp_L_told K) W (aC (eV 0) (aC (eC (.int 0)) (aC (eC (.int 64)) (aC (eC (.int 0)) (aN)))))) (eT (aC (eC (.str "make")) (aC (eC (.int 64)) (aN))))))) (sRet (eC (.bl false))) (tNext)) (tSeq (sIf (kT (eB (opNe K) (eV 2) (eL (aC (eMethD [((He.ga K "Order"), sp_Order_marks K)] "marks" W (eMethD [((He.ga K "Tour"), sp_Tour_order K)] "order" W (eV 0) aN) aN) (aC (eMethD [((He.ga K "Tour"), sp_Tour_coming K)] "coming" W (eV 0) aN) (aC (eMethD [((He.ga K "Tour"), sp_Tour_leaving K)] "leaving" W (eV 0) aN) (aC (eMethD [((He.ga K "Order"), sp_Order_anew K)] "anew" W (eMethD [((He.ga K "Tour"), sp_Tour_order K)] "order" W (eV 0) aN) aN) (aN)))))))) (sRet (eC (.bl false))) (tNext)) (sRet (eAnd (eB (opEq K) (eMethD [((He.ga K "Tour"), sp_Tour_many K)] "many" W (eV 0) aN) (eC (.int 64))) (eB (opEq K) (eCall (sp_L_told K) W (aC (eV 0) (aC (eC (.int 0)) (aC (eC .non) (aC (eC (.int 0)) (aN)))))) (eT (aC (eC (.str "make")) (aC (eC .non) (aN)))))))))))
@[irreducible] def sp_L_full_right (K : PySem.W.Frag) : Sp := fun vs H Q E => vs.length = 0 ∧ t_L_full_right K (wE E) (endOf Q) (st0 vs 3) H
theorem sp_L_full_right_i {K : PySem.W.Frag} {H : Hp} {Q : VK} {E : XK} (h : t_L_full_right K (wE E) (endOf Q) [none, none, none] H) : sp_L_full_right K [] H Q E := by unfold sp_L_full_right; exact ⟨rfl, h⟩
def b_law_1 (K : PySem.W.Frag) (W : WX) : TS := tSeq (sSet 5 (eCall (sp_L_box K) W (aC (eCall (sp_L_cell_at K) W (aC (eV 0) (aC (eV 4) (aN)))) (aN)))) (tSeq (sSet 6 (eB (ixX K) (eL (aC (eCall (sp_L_take K) W (aC (eV 5) (aC (eF (cLen K) (aC (eV 2) (aN))) (aN)))) (aC (eC (.int 0)) (aC (eB (opSub) (eF (cLen K) (aC (eV 2) (aN))) (eC (.int 1))) (aN))))) (eCall (sp_L_take K) W (aC (eV 5) (aC (eC (.int 3)) (aN)))))) (tSeq (sDrop (tBM K "list" opIns (eV 3) (aC (eB (opAdd K) (tBM K "list" (opIdx K) (eV 3) (aC (eV 6) (aN))) (eC (.int 1))) (aC (eMethD [((He.ga K "Tour"), sp_Tour_grow K)] "grow" W (eV 1) (aC (eV 6) (aN))) (aN))))) (tSeq (sDrop (tBM K "list" opApp (eV 2) (aC (eV 6) (aN)))) (sIf (kOr (kT (eB (opNe K) (eB (ixX K) (eV 3) (eB (opAdd K) (tBM K "list" (opIdx K) (eV 3) (aC (eV 6) (aN))) (eC (.int 1)))) (eB (opSub) (eF (cLen K) (aC (eV 2) (aN))) (eC (.int 1))))) (kNot (kT (eCall (sp_L_refused_right K) W (aC (eV 5) (aC (eV 1) (aC (eF (cLen K) (aC (eV 2) (aN))) (aN)))))))) (sRet (eC (.bl false))) (tNext)))))
def t_law (K : PySem.W.Frag) (W : WX) : TS := tSeq (sSet 1 (eMake (He.ga K "Tour") (sp_Tour_init K) W aN)) (tSeq (sSet 2 (eL (aC (eC .non) (aN)))) (tSeq (sSet 3 (eL (aC (eC (.int 0)) (aN)))) (tSeq (sFor (iR1 (aC (eF (cMax K) (aC (eC (.int 1)) (aC (eF (cMin K) (aC (eC (.int 39)) (aC (eF (cLen K) (aC (eV 0) (aN))) (aN)))) (aN)))) (aN))) (gN 4) (b_law_1 K W)) (tSeq (sIf (kNot (kT (eCall (sp_L_pairs_right K) W (aC (eV 1) (aC (eV 2) (aC (eV 3) (aN))))))) (sRet (eC (.bl false))) (tNext)) (sRet (eOr (eB (opNe K) (eB (opMod) (eCall (sp_L_cell_at K) W (aC (eV 0) (aC (eC (.int 0)) (aN)))) (eC (.int 16))) (eC (.int 3))) (eCall (sp_L_full_right K) W aN)))))))
@[irreducible] def sp_law (K : PySem.W.Frag) : Sp := fun vs H Q E => vs.length = 1 ∧ t_law K (wE E) (endOf Q) (st0 vs 6) H
theorem sp_law_i {K : PySem.W.Frag} {a0 : V} {H : Hp} {Q : VK} {E : XK} (h : t_law K (wE E) (endOf Q) [some a0, none, none, none, none, none, none] H) : sp_law K [a0] H Q E := by unfold sp_law; exact ⟨rfl, h⟩
end Lawk17
namespace Lawk17
open PySem PySem.Spec PyProof.Rows L2 MK
section
variable {P : Program} {w : World} {K : PySem.W.Frag} {mg : Str → Option Value} {base : Heap}
theorem g_is_whole (c : SaysM fa fn xa K) (kin : K.In base) (ns : base.Ns mainGlobals mg) : mg "is_whole" = some (.ref (He.ga K "is_whole")) := He.glo_ok kin ns (c.fact 0 (f := .glo "is_whole") rfl)
theorem g_L_cell_at (c : SaysM fa fn xa K) (kin : K.In base) (ns : base.Ns mainGlobals mg) : mg "_law_cell_at" = some (.ref (He.ga K "_law_cell_at")) := He.glo_ok kin ns (c.fact 1 (f := .glo "_law_cell_at") rfl)
theorem g_L_box (c : SaysM fa fn xa K) (kin : K.In base) (ns : base.Ns mainGlobals mg) : mg "_law_box" = some (.ref (He.ga K "_law_box")) := He.glo_ok kin ns (c.fact 2 (f := .glo "_law_box") rfl)
theorem g_L_take (c : SaysM fa fn xa K) (kin : K.In base) (ns : base.Ns mainGlobals mg) : mg "_law_take" = some (.ref (He.ga K "_law_take")) := He.glo_ok kin ns (c.fact 3 (f := .glo "_law_take") rfl)
theorem g_L_above (c : SaysM fa fn xa K) (kin : K.In base) (ns : base.Ns mainGlobals mg) : mg "_law_above" = some (.ref (He.ga K "_law_above")) := He.glo_ok kin ns (c.fact 4 (f := .glo "_law_above") rfl)
theorem g_L_odd (c : SaysM fa fn xa K) (kin : K.In base) (ns : base.Ns mainGlobals mg) : mg "_law_odd" = some (.ref (He.ga K "_law_odd")) := He.glo_ok kin ns (c.fact 5 (f := .glo "_law_odd") rfl)
theorem g_L_call (c : SaysM fa fn xa K) (kin : K.In base) (ns : base.Ns mainGlobals mg) : mg "_law_call" = some (.ref (He.ga K "_law_call")) := He.glo_ok kin ns (c.fact 6 (f := .glo "_law_call") rfl)
theorem g_L_pairs_right (c : SaysM fa fn xa K) (kin : K.In base) (ns : base.Ns mainGlobals mg) : mg "_law_pairs_right" = some (.ref (He.ga K "_law_pairs_right")) := He.glo_ok kin ns (c.fact 7 (f := .glo "_law_pairs_right") rfl)
theorem g_L_told (c : SaysM fa fn xa K) (kin : K.In base) (ns : base.Ns mainGlobals mg) : mg "_law_told" = some (.ref (He.ga K "_law_told")) := He.glo_ok kin ns (c.fact 8 (f := .glo "_law_told") rfl)
theorem g_L_refused_right (c : SaysM fa fn xa K) (kin : K.In base) (ns : base.Ns mainGlobals mg) : mg "_law_refused_right" = some (.ref (He.ga K "_law_refused_right")) := He.glo_ok kin ns (c.fact 9 (f := .glo "_law_refused_right") rfl)
theorem g_L_full_right (c : SaysM fa fn xa K) (kin : K.In base) (ns : base.Ns mainGlobals mg) : mg "_law_full_right" = some (.ref (He.ga K "_law_full_right")) := He.glo_ok kin ns (c.fact 10 (f := .glo "_law_full_right") rfl)
theorem g_law (c : SaysM fa fn xa K) (kin : K.In base) (ns : base.Ns mainGlobals mg) : mg "law" = some (.ref (He.ga K "law")) := He.glo_ok kin ns (c.fact 11 (f := .glo "law") rfl)
theorem g_MakesError (c : SaysM fa fn xa K) (kin : K.In base) (ns : base.Ns mainGlobals mg) : mg "MakesError" = some (.ref (He.ga K "MakesError")) := He.glo_ok kin ns (c.fact 12 (f := .glo "MakesError") rfl)
theorem g_NoMake (c : SaysM fa fn xa K) (kin : K.In base) (ns : base.Ns mainGlobals mg) : mg "NoMake" = some (.ref (He.ga K "NoMake")) := He.glo_ok kin ns (c.fact 13 (f := .glo "NoMake") rfl)
theorem g_NoMark (c : SaysM fa fn xa K) (kin : K.In base) (ns : base.Ns mainGlobals mg) : mg "NoMark" = some (.ref (He.ga K "NoMark")) := He.glo_ok kin ns (c.fact 14 (f := .glo "NoMark") rfl)
theorem g_TooMany (c : SaysM fa fn xa K) (kin : K.In base) (ns : base.Ns mainGlobals mg) : mg "TooMany" = some (.ref (He.ga K "TooMany")) := He.glo_ok kin ns (c.fact 15 (f := .glo "TooMany") rfl)
theorem g_Order (c : SaysM fa fn xa K) (kin : K.In base) (ns : base.Ns mainGlobals mg) : mg "Order" = some (.ref (He.ga K "Order")) := He.glo_ok kin ns (c.fact 16 (f := .glo "Order") rfl)
theorem g_Tour (c : SaysM fa fn xa K) (kin : K.In base) (ns : base.Ns mainGlobals mg) : mg "Tour" = some (.ref (He.ga K "Tour")) := He.glo_ok kin ns (c.fact 17 (f := .glo "Tour") rfl)
theorem k_is_whole (c : SaysM fa fn xa K) (kin : K.In base) (ns : base.Ns mainGlobals mg) : PySem.W.keepIn K (.ref (He.ga K "is_whole")) = true := (c.def_ 1 (d := dd_is_whole) rfl).elim fun _ F => F.kp
theorem k_L_cell_at (c : SaysM fa fn xa K) (kin : K.In base) (ns : base.Ns mainGlobals mg) : PySem.W.keepIn K (.ref (He.ga K "_law_cell_at")) = true := (c.def_ 5 (d := dd_L_cell_at) rfl).elim fun _ F => F.kp
theorem k_L_box (c : SaysM fa fn xa K) (kin : K.In base) (ns : base.Ns mainGlobals mg) : PySem.W.keepIn K (.ref (He.ga K "_law_box")) = true := (c.def_ 6 (d := dd_L_box) rfl).elim fun _ F => F.kp
theorem k_L_take (c : SaysM fa fn xa K) (kin : K.In base) (ns : base.Ns mainGlobals mg) : PySem.W.keepIn K (.ref (He.ga K "_law_take")) = true := (c.def_ 7 (d := dd_L_take) rfl).elim fun _ F => F.kp
theorem k_L_above (c : SaysM fa fn xa K) (kin : K.In base) (ns : base.Ns mainGlobals mg) : PySem.W.keepIn K (.ref (He.ga K "_law_above")) = true := (c.def_ 11 (d := dd_L_above) rfl).elim fun _ F => F.kp
theorem k_L_odd (c : SaysM fa fn xa K) (kin : K.In base) (ns : base.Ns mainGlobals mg) : PySem.W.keepIn K (.ref (He.ga K "_law_odd")) = true := (c.def_ 16 (d := dd_L_odd) rfl).elim fun _ F => F.kp
theorem k_L_call (c : SaysM fa fn xa K) (kin : K.In base) (ns : base.Ns mainGlobals mg) : PySem.W.keepIn K (.ref (He.ga K "_law_call")) = true := (c.def_ 31 (d := dd_L_call) rfl).elim fun _ F => F.kp
theorem k_L_pairs_right (c : SaysM fa fn xa K) (kin : K.In base) (ns : base.Ns mainGlobals mg) : PySem.W.keepIn K (.ref (He.ga K "_law_pairs_right")) = true := (c.def_ 32 (d := dd_L_pairs_right) rfl).elim fun _ F => F.kp
theorem k_L_told (c : SaysM fa fn xa K) (kin : K.In base) (ns : base.Ns mainGlobals mg) : PySem.W.keepIn K (.ref (He.ga K "_law_told")) = true := (c.def_ 33 (d := dd_L_told) rfl).elim fun _ F => F.kp
theorem k_L_refused_right (c : SaysM fa fn xa K) (kin : K.In base) (ns : base.Ns mainGlobals mg) : PySem.W.keepIn K (.ref (He.ga K "_law_refused_right")) = true := (c.def_ 34 (d := dd_L_refused_right) rfl).elim fun _ F => F.kp
theorem k_L_full_right (c : SaysM fa fn xa K) (kin : K.In base) (ns : base.Ns mainGlobals mg) : PySem.W.keepIn K (.ref (He.ga K "_law_full_right")) = true := (c.def_ 35 (d := dd_L_full_right) rfl).elim fun _ F => F.kp
theorem f_ValueError (c : SaysM fa fn xa K) (kin : K.In base) (ns : base.Ns mainGlobals mg) : mg "ValueError" = none := He.free_ok kin ns (c.fact 18 (f := .free "ValueError") rfl)
theorem f_bool (c : SaysM fa fn xa K) (kin : K.In base) (ns : base.Ns mainGlobals mg) : mg "bool" = none := He.free_ok kin ns (c.fact 19 (f := .free "bool") rfl)
theorem f_dict (c : SaysM fa fn xa K) (kin : K.In base) (ns : base.Ns mainGlobals mg) : mg "dict" = none := He.free_ok kin ns (c.fact 20 (f := .free "dict") rfl)
theorem f_enumerate (c : SaysM fa fn xa K) (kin : K.In base) (ns : base.Ns mainGlobals mg) : mg "enumerate" = none := He.free_ok kin ns (c.fact 21 (f := .free "enumerate") rfl)
theorem f_int (c : SaysM fa fn xa K) (kin : K.In base) (ns : base.Ns mainGlobals mg) : mg "int" = none := He.free_ok kin ns (c.fact 22 (f := .free "int") rfl)
theorem f_isinstance (c : SaysM fa fn xa K) (kin : K.In base) (ns : base.Ns mainGlobals mg) : mg "isinstance" = none := He.free_ok kin ns (c.fact 23 (f := .free "isinstance") rfl)
theorem f_len (c : SaysM fa fn xa K) (kin : K.In base) (ns : base.Ns mainGlobals mg) : mg "len" = none := He.free_ok kin ns (c.fact 24 (f := .free "len") rfl)
theorem f_list (c : SaysM fa fn xa K) (kin : K.In base) (ns : base.Ns mainGlobals mg) : mg "list" = none := He.free_ok kin ns (c.fact 25 (f := .free "list") rfl)
theorem f_max (c : SaysM fa fn xa K) (kin : K.In base) (ns : base.Ns mainGlobals mg) : mg "max" = none := He.free_ok kin ns (c.fact 26 (f := .free "max") rfl)
theorem f_min (c : SaysM fa fn xa K) (kin : K.In base) (ns : base.Ns mainGlobals mg) : mg "min" = none := He.free_ok kin ns (c.fact 27 (f := .free "min") rfl)
theorem f_range (c : SaysM fa fn xa K) (kin : K.In base) (ns : base.Ns mainGlobals mg) : mg "range" = none := He.free_ok kin ns (c.fact 28 (f := .free "range") rfl)
theorem f_repr (c : SaysM fa fn xa K) (kin : K.In base) (ns : base.Ns mainGlobals mg) : mg "repr" = none := He.free_ok kin ns (c.fact 29 (f := .free "repr") rfl)
theorem c_MOST_MARKS (c : SaysM fa fn xa K) (kin : K.In base) (ns : base.Ns mainGlobals mg) : ∃ u, mg "MOST_MARKS" = some u ∧ L2.RelV (.int 200) u := (He.int_ok kin ns (c.fact 30 (f := .int "MOST_MARKS" 200) rfl)).elim fun t e => ⟨_, e, t, rfl⟩
theorem c_TOP_LABEL (c : SaysM fa fn xa K) (kin : K.In base) (ns : base.Ns mainGlobals mg) : ∃ u, mg "TOP_LABEL" = some u ∧ L2.RelV (.int 1024) u := (He.int_ok kin ns (c.fact 31 (f := .int "TOP_LABEL" 1024) rfl)).elim fun t e => ⟨_, e, t, rfl⟩
theorem c_MOST_MAKES (c : SaysM fa fn xa K) (kin : K.In base) (ns : base.Ns mainGlobals mg) : ∃ u, mg "MOST_MAKES" = some u ∧ L2.RelV (.int 64) u := (He.int_ok kin ns (c.fact 32 (f := .int "MOST_MAKES" 64) rfl)).elim fun t e => ⟨_, e, t, rfl⟩
theorem fa_cls_Order (c : SaysM fa fn xa K) : (He.Fa.cls "Order" : He.Fa).ok K = true := c.fact 33 rfl
theorem fa_noat_Order_standing (c : SaysM fa fn xa K) : (He.Fa.noat "Order" "standing" : He.Fa).ok K = true := c.fact 34 rfl
theorem fa_noat_Order_labelled (c : SaysM fa fn xa K) : (He.Fa.noat "Order" "labelled" : He.Fa).ok K = true := c.fact 35 rfl
theorem fa_noat_Order_given (c : SaysM fa fn xa K) : (He.Fa.noat "Order" "given" : He.Fa).ok K = true := c.fact 36 rfl
theorem fa_noat_Order_times (c : SaysM fa fn xa K) : (He.Fa.noat "Order" "times" : He.Fa).ok K = true := c.fact 37 rfl
theorem fa_mkr_Order (c : SaysM fa fn xa K) : (He.Fa.mkr "Order" : He.Fa).ok K = true := c.fact 38 rfl
theorem fa_cls_Tour (c : SaysM fa fn xa K) : (He.Fa.cls "Tour" : He.Fa).ok K = true := c.fact 39 rfl
theorem fa_noat_Tour_placed (c : SaysM fa fn xa K) : (He.Fa.noat "Tour" "placed" : He.Fa).ok K = true := c.fact 40 rfl
theorem fa_noat_NoMark_found (c : SaysM fa fn xa K) : (He.Fa.noat "NoMark" "found" : He.Fa).ok K = true := c.fact 41 rfl
theorem fa_meth_Order_need_mark (c : SaysM fa fn xa K) : (He.Fa.meth "Order" "need_mark" : He.Fa).ok K = true := c.fact 42 rfl
theorem fa_noat_TooMany_count (c : SaysM fa fn xa K) : (He.Fa.noat "TooMany" "count" : He.Fa).ok K = true := c.fact 43 rfl
theorem fa_meth_Order_label_behind (c : SaysM fa fn xa K) : (He.Fa.meth "Order" "label_behind" : He.Fa).ok K = true := c.fact 44 rfl
theorem fa_meth_Order_label_all (c : SaysM fa fn xa K) : (He.Fa.meth "Order" "label_all" : He.Fa).ok K = true := c.fact 45 rfl
theorem fa_meth_Order_behind (c : SaysM fa fn xa K) : (He.Fa.meth "Order" "behind" : He.Fa).ok K = true := c.fact 46 rfl
theorem fa_noat_Tour_both_marks (c : SaysM fa fn xa K) : (He.Fa.noat "Tour" "both_marks" : He.Fa).ok K = true := c.fact 47 rfl
theorem fa_mkr_Tour (c : SaysM fa fn xa K) : (He.Fa.mkr "Tour" : He.Fa).ok K = true := c.fact 48 rfl
theorem fa_noat_NoMake_found (c : SaysM fa fn xa K) : (He.Fa.noat "NoMake" "found" : He.Fa).ok K = true := c.fact 49 rfl
theorem fa_meth_Tour_need_make (c : SaysM fa fn xa K) : (He.Fa.meth "Tour" "need_make" : He.Fa).ok K = true := c.fact 50 rfl
theorem fa_meth_Tour_grow (c : SaysM fa fn xa K) : (He.Fa.meth "Tour" "grow" : He.Fa).ok K = true := c.fact 51 rfl
theorem fa_meth_Tour_marks_of (c : SaysM fa fn xa K) : (He.Fa.meth "Tour" "marks_of" : He.Fa).ok K = true := c.fact 52 rfl
theorem fa_meth_Order_marks (c : SaysM fa fn xa K) : (He.Fa.meth "Order" "marks" : He.Fa).ok K = true := c.fact 53 rfl
theorem fa_meth_Tour_by_marks (c : SaysM fa fn xa K) : (He.Fa.meth "Tour" "by_marks" : He.Fa).ok K = true := c.fact 54 rfl
theorem fa_meth_Tour_coming (c : SaysM fa fn xa K) : (He.Fa.meth "Tour" "coming" : He.Fa).ok K = true := c.fact 55 rfl
theorem fa_meth_Order_ahead (c : SaysM fa fn xa K) : (He.Fa.meth "Order" "ahead" : He.Fa).ok K = true := c.fact 56 rfl
theorem fa_meth_Tour_within (c : SaysM fa fn xa K) : (He.Fa.meth "Tour" "within" : He.Fa).ok K = true := c.fact 57 rfl
theorem fa_meth_Tour_beneath (c : SaysM fa fn xa K) : (He.Fa.meth "Tour" "beneath" : He.Fa).ok K = true := c.fact 58 rfl
theorem fa_exm_TooMany_MakesError_True (c : SaysM fa fn xa K) : (He.Fa.exm "TooMany" "MakesError" true : He.Fa).ok K = true := c.fact 59 rfl
theorem fa_exm_NoMark_MakesError_True (c : SaysM fa fn xa K) : (He.Fa.exm "NoMark" "MakesError" true : He.Fa).ok K = true := c.fact 60 rfl
theorem fa_exm_NoMake_MakesError_True (c : SaysM fa fn xa K) : (He.Fa.exm "NoMake" "MakesError" true : He.Fa).ok K = true := c.fact 61 rfl
theorem fa_meth_Tour_many (c : SaysM fa fn xa K) : (He.Fa.meth "Tour" "many" : He.Fa).ok K = true := c.fact 62 rfl
theorem fa_meth_Order_many (c : SaysM fa fn xa K) : (He.Fa.meth "Order" "many" : He.Fa).ok K = true := c.fact 63 rfl
theorem fa_meth_Order_copied (c : SaysM fa fn xa K) : (He.Fa.meth "Order" "copied" : He.Fa).ok K = true := c.fact 64 rfl
theorem fa_meth_Tour_order (c : SaysM fa fn xa K) : (He.Fa.meth "Tour" "order" : He.Fa).ok K = true := c.fact 65 rfl
theorem fa_meth_Order_anew (c : SaysM fa fn xa K) : (He.Fa.meth "Order" "anew" : He.Fa).ok K = true := c.fact 66 rfl
theorem fa_meth_Tour_leaving (c : SaysM fa fn xa K) : (He.Fa.meth "Tour" "leaving" : He.Fa).ok K = true := c.fact 67 rfl
theorem xa_kitt_Tour_int_False (c : SaysM fa fn xa K) : (Xa.kitt "Tour" "int" false : Xa).ok K = true := c.xact 0 rfl
theorem xa_isc_Tour (c : SaysM fa fn xa K) : (Xa.isc "Tour" : Xa).ok K = true := c.xact 1 rfl
theorem xa_kitt_Order_int_False (c : SaysM fa fn xa K) : (Xa.kitt "Order" "int" false : Xa).ok K = true := c.xact 2 rfl
theorem xa_isc_Order (c : SaysM fa fn xa K) : (Xa.isc "Order" : Xa).ok K = true := c.xact 3 rfl
theorem xa_kitt_Tour_bool_False (c : SaysM fa fn xa K) : (Xa.kitt "Tour" "bool" false : Xa).ok K = true := c.xact 4 rfl
theorem xa_kitt_Order_bool_False (c : SaysM fa fn xa K) : (Xa.kitt "Order" "bool" false : Xa).ok K = true := c.xact 5 rfl
theorem xa_veb (c : SaysM fa fn xa K) : (Xa.veb  : Xa).ok K = true := c.xact 6 rfl
theorem xa_cfn_MakesError___init__ (c : SaysM fa fn xa K) : (Xa.cfn "MakesError" "__init__" : Xa).ok K = true := c.xact 7 rfl
theorem xa_oex_NoMark (c : SaysM fa fn xa K) : (Xa.oex "NoMark" : Xa).ok K = true := c.xact 8 rfl
theorem xa_init_NoMark (c : SaysM fa fn xa K) : (Xa.init "NoMark" : Xa).ok K = true := c.xact 9 rfl
theorem xa_oex_TooMany (c : SaysM fa fn xa K) : (Xa.oex "TooMany" : Xa).ok K = true := c.xact 10 rfl
theorem xa_init_TooMany (c : SaysM fa fn xa K) : (Xa.init "TooMany" : Xa).ok K = true := c.xact 11 rfl
theorem xa_oex_NoMake (c : SaysM fa fn xa K) : (Xa.oex "NoMake" : Xa).ok K = true := c.xact 12 rfl
theorem xa_init_NoMake (c : SaysM fa fn xa K) : (Xa.init "NoMake" : Xa).ok K = true := c.xact 13 rfl
theorem xa_exk_TooMany (c : SaysM fa fn xa K) : (Xa.exk "TooMany" : Xa).ok K = true := c.xact 14 rfl
theorem xa_kitt_TooMany_ValueError_True (c : SaysM fa fn xa K) : (Xa.kitt "TooMany" "ValueError" true : Xa).ok K = true := c.xact 15 rfl
theorem xa_exk_NoMark (c : SaysM fa fn xa K) : (Xa.exk "NoMark" : Xa).ok K = true := c.xact 16 rfl
theorem xa_kitt_NoMark_ValueError_True (c : SaysM fa fn xa K) : (Xa.kitt "NoMark" "ValueError" true : Xa).ok K = true := c.xact 17 rfl
theorem xa_exk_NoMake (c : SaysM fa fn xa K) : (Xa.exk "NoMake" : Xa).ok K = true := c.xact 18 rfl
theorem xa_kitt_NoMake_ValueError_True (c : SaysM fa fn xa K) : (Xa.kitt "NoMake" "ValueError" true : Xa).ok K = true := c.xact 19 rfl
theorem xa_kit_TooMany_NoMake_False (c : SaysM fa fn xa K) : (Xa.kit "TooMany" "NoMake" false : Xa).ok K = true := c.xact 20 rfl
theorem xa_kit_NoMark_NoMake_False (c : SaysM fa fn xa K) : (Xa.kit "NoMark" "NoMake" false : Xa).ok K = true := c.xact 21 rfl
theorem xa_kit_NoMake_NoMake_True (c : SaysM fa fn xa K) : (Xa.kit "NoMake" "NoMake" true : Xa).ok K = true := c.xact 22 rfl
theorem xa_kit_TooMany_TooMany_True (c : SaysM fa fn xa K) : (Xa.kit "TooMany" "TooMany" true : Xa).ok K = true := c.xact 23 rfl
theorem xa_kit_NoMark_TooMany_False (c : SaysM fa fn xa K) : (Xa.kit "NoMark" "TooMany" false : Xa).ok K = true := c.xact 24 rfl
theorem xa_kit_NoMake_TooMany_False (c : SaysM fa fn xa K) : (Xa.kit "NoMake" "TooMany" false : Xa).ok K = true := c.xact 25 rfl
theorem xa_xfc_NoMark (c : SaysM fa fn xa K) : (Xa.xfc "NoMark" : Xa).ok K = true := c.xact 26 rfl
theorem xa_xfc_NoMake (c : SaysM fa fn xa K) : (Xa.xfc "NoMake" : Xa).ok K = true := c.xact 27 rfl
theorem xa_xfc_TooMany (c : SaysM fa fn xa K) : (Xa.xfc "TooMany" : Xa).ok K = true := c.xact 28 rfl
theorem xa_oeq_Tour (c : SaysM fa fn xa K) : (Xa.oeq "Tour" : Xa).ok K = true := c.xact 29 rfl
theorem xa_oeq_Order (c : SaysM fa fn xa K) : (Xa.oeq "Order" : Xa).ok K = true := c.xact 30 rfl
theorem ok_Order_init (c : SaysM fa fn xa K) (kin : K.In base) (ns : base.Ns mainGlobals mg) : OkG P w K mg base 1 (He.ma K (He.ga K "Order") "__init__") ["self"] (sp_Order_init K) := by
  refine OkG.of (t := t_Order_init K) (n := 1) (m := 0) (c.def_ 0 (d := dd_Order_init) rfl) sc_Order_init (fun _ _ _ _ _ _ us hl => match us, hl with | [_], _ => rfl) rfl rfl (fun vs H Q E z => by unfold sp_Order_init at z; exact z) ?_
  intro cdv A outer s H E hr hg
  have hu := hr.units
  have hu2 := units65 hr
  exact pss_cons (mstf (mlst (mac (mi) (man))) (mv 0) (clc ⟨He.cls_ok (fa_cls_Order c), He.noat_ok (fa_noat_Order_standing c)⟩ (cl0))) (pss_cons (mstf (mdis (pps_cons (mi) (mi) (pps_nil))) (mv 0) (clc ⟨He.cls_ok (fa_cls_Order c), He.noat_ok (fa_noat_Order_labelled c)⟩ (cl0))) (pss_cons (mstf (mi) (mv 0) (clc ⟨He.cls_ok (fa_cls_Order c), He.noat_ok (fa_noat_Order_given c)⟩ (cl0))) (pss_one (mstf (mi) (mv 0) (clc ⟨He.cls_ok (fa_cls_Order c), He.noat_ok (fa_noat_Order_times c)⟩ (cl0))))))
theorem ok_is_whole (c : SaysM fa fn xa K) (kin : K.In base) (ns : base.Ns mainGlobals mg) : OkG P w K mg base 1 (He.ga K "is_whole") ["thing", "low", "high"] (sp_is_whole K) := by
  refine OkG.of (t := t_is_whole K) (n := 3) (m := 0) (c.def_ 1 (d := dd_is_whole) rfl) sc_is_whole (fun _ _ _ _ _ _ us hl => match us, hl with | [_, _, _], _ => rfl) rfl rfl (fun vs H Q E z => by unfold sp_is_whole at z; exact z) ?_
  intro cdv A outer s H E hr hg
  have hu := hr.units
  have hu2 := units65 hr
  exact pss_one (msr (mea (mcb (k_isi (T := .int) (tb := [(He.ga K "Order"), (He.ga K "Tour")]) (fun z => by cases z) (it1 ⟨He.cls_ok (fa_cls_Order c), isc_ok (xa_isc_Order c), no1 (kitt_ok (xa_kitt_Order_int_False c)) (no0)⟩ (it1 ⟨He.cls_ok (fa_cls_Tour c), isc_ok (xa_isc_Tour c), no1 (kitt_ok (xa_kitt_Tour_int_False c)) (no0)⟩ (it0)))) rfl (f_isinstance c kin ns) (by decide +kernel) (mac (mv 0) (mac (mc (pe_bltn rfl (f_int c kin ns) (by decide +kernel) rfl)) man))) (mea (men (mcb (k_isi (T := .bool) (tb := [(He.ga K "Order"), (He.ga K "Tour")]) (fun z => by cases z) (it1 ⟨He.cls_ok (fa_cls_Order c), isc_ok (xa_isc_Order c), no1 (kitt_ok (xa_kitt_Order_bool_False c)) (no0)⟩ (it1 ⟨He.cls_ok (fa_cls_Tour c), isc_ok (xa_isc_Tour c), no1 (kitt_ok (xa_kitt_Tour_bool_False c)) (no0)⟩ (it0)))) rfl (f_isinstance c kin ns) (by decide +kernel) (mac (mv 0) (mac (mc (pe_bltn rfl (f_bool c kin ns) (by decide +kernel) rfl)) man)))) (me1 (mch o_le o_le (mv 1) (mv 0) (mv 2))))))
theorem ok_MakesError_init (c : SaysM fa fn xa K) (kin : K.In base) (ns : base.Ns mainGlobals mg) : OkG P w K mg base 1 (He.ma K (He.ga K "MakesError") "__init__") ["self", "text"] (sp_MakesError_init K) := by
  refine OkG.of (t := t_MakesError_init K) (n := 2) (m := 0) (c.def_ 2 (d := dd_MakesError_init) rfl) sc_MakesError_init (fun _ _ _ _ _ _ us hl => match us, hl with | [_, _], _ => rfl) rfl rfl (fun vs H Q E z => by unfold sp_MakesError_init at z; exact z) ?_
  intro cdv A outer s H E hr hg
  have hu := hr.units
  have hu2 := units65 hr
  exact pss_one (msx (pe_veinit rfl (f_ValueError c kin ns) (veb_ok (xa_veb c)) (mac (mv 0) (mac (mv 1) (man)))))
theorem ok_Order_label_behind (c : SaysM fa fn xa K) (kin : K.In base) (ns : base.Ns mainGlobals mg) : OkG P w K mg base 1 (He.ma K (He.ga K "Order") "label_behind") ["self", "at"] (sp_Order_label_behind K) := by
  refine OkG.of (t := t_Order_label_behind K) (n := 2) (m := 0) (c.def_ 3 (d := dd_Order_label_behind) rfl) sc_Order_label_behind (fun _ _ _ _ _ _ us hl => match us, hl with | [_, _], _ => rfl) rfl rfl (fun vs H Q E z => by unfold sp_Order_label_behind at z; exact z) ?_
  intro cdv A outer s H E hr hg
  have hu := hr.units
  have hu2 := units65 hr
  exact pss_cons (msif (mtc o_lt (mbin o_add (mv 1) (mi)) (mcb k_len rfl (f_len c kin ns) (by decide +kernel) (mac (mfld (mv 0) (clc ⟨He.cls_ok (fa_cls_Order c), He.noat_ok (fa_noat_Order_standing c)⟩ (cl0))) (man)))) (pss_one (msr (mix hu (mfld (mv 0) (clc ⟨He.cls_ok (fa_cls_Order c), He.noat_ok (fa_noat_Order_labelled c)⟩ (cl0))) (mix hu (mfld (mv 0) (clc ⟨He.cls_ok (fa_cls_Order c), He.noat_ok (fa_noat_Order_standing c)⟩ (cl0))) (mbin o_add (mv 1) (mi)))))) (pss_nil)) (pss_one (msr (mg_ rfl (c_TOP_LABEL c kin ns))))
theorem ok_Order_label_all (c : SaysM fa fn xa K) (kin : K.In base) (ns : base.Ns mainGlobals mg) : OkG P w K mg base 1 (He.ma K (He.ga K "Order") "label_all") ["self"] (sp_Order_label_all K) := by
  refine OkG.of (t := t_Order_label_all K) (n := 1) (m := 3) (c.def_ 4 (d := dd_Order_label_all) rfl) sc_Order_label_all (fun _ _ _ _ _ _ us hl => match us, hl with | [_], _ => rfl) rfl rfl (fun vs H Q E z => by unfold sp_Order_label_all at z; exact z) ?_
  intro cdv A outer s H E hr hg
  have hu := hr.units
  have hu2 := units65 hr
  exact pss_cons (mset (i := 1) sc_Order_label_all.nd rfl (by first | exact Or.inl rfl | exact Or.inr rfl) (mbin o_div (mg_ rfl (c_TOP_LABEL c kin ns)) (mcb k_len rfl (f_len c kin ns) (by decide +kernel) (mac (mfld (mv 0) (clc ⟨He.cls_ok (fa_cls_Order c), He.noat_ok (fa_noat_Order_standing c)⟩ (cl0))) (man))))) (pss_cons (mfor hp_of rfl (menu rfl (f_enumerate c kin ns) (mac (mfld (mv 0) (clc ⟨He.cls_ok (fa_cls_Order c), He.noat_ok (fa_noat_Order_standing c)⟩ (cl0))) (man))) (mgu rfl (mg1 (mgn sc_Order_label_all.nd rfl (by first | exact Or.inl rfl | exact Or.inr rfl)) (mg1 (mgn sc_Order_label_all.nd rfl (by first | exact Or.inl rfl | exact Or.inr rfl)) (mg0)))) (pss_one (mseti hu (mbin o_mul (mv 2) (mv 1)) (mfld (mv 0) (clc ⟨He.cls_ok (fa_cls_Order c), He.noat_ok (fa_noat_Order_labelled c)⟩ (cl0))) (mv 3)))) (pss_one (magf (mv 0) (mi) g_add (clc ⟨He.cls_ok (fa_cls_Order c), He.noat_ok (fa_noat_Order_times c)⟩ (cl0)))))
theorem ok_L_cell_at (c : SaysM fa fn xa K) (kin : K.In base) (ns : base.Ns mainGlobals mg) : OkG P w K mg base 1 (He.ga K "_law_cell_at") ["_law_script", "_law_k"] (sp_L_cell_at K) := by
  refine OkG.of (t := t_L_cell_at K) (n := 2) (m := 0) (c.def_ 5 (d := dd_L_cell_at) rfl) sc_L_cell_at (fun _ _ _ _ _ _ us hl => match us, hl with | [_, _], _ => rfl) rfl rfl (fun vs H Q E z => by unfold sp_L_cell_at at z; exact z) ?_
  intro cdv A outer s H E hr hg
  have hu := hr.units
  have hu2 := units65 hr
  exact pss_cons (msif (mtc o_lt (mv 1) (mcb k_len rfl (f_len c kin ns) (by decide +kernel) (mac (mv 0) (man)))) (pss_one (msr (mix hu (mv 0) (mv 1)))) (pss_nil)) (pss_one (msr (mbin o_add (mbin o_mul (mi) (mv 1)) (mi))))
theorem ok_L_box (c : SaysM fa fn xa K) (kin : K.In base) (ns : base.Ns mainGlobals mg) : OkG P w K mg base 1 (He.ga K "_law_box") ["_law_cell"] (sp_L_box K) := by
  refine OkG.of (t := t_L_box K) (n := 1) (m := 0) (c.def_ 6 (d := dd_L_box) rfl) sc_L_box (fun _ _ _ _ _ _ us hl => match us, hl with | [_], _ => rfl) rfl rfl (fun vs H Q E z => by unfold sp_L_box at z; exact z) ?_
  intro cdv A outer s H E hr hg
  have hu := hr.units
  have hu2 := units65 hr
  exact pss_one (msr (mdis (pps_cons (ms) (mcb (k_max rfl) rfl (f_max c kin ns) (by decide +kernel) (mac (mi) (mac (mbin o_sub (mv 0) (mbin o_pow (mi) (mi))) (man)))) (pps_cons (ms) (mbin o_mod (mv 0) (mi)) (pps_cons (ms) (mi) (pps_nil))))))
theorem ok_L_take (c : SaysM fa fn xa K) (kin : K.In base) (ns : base.Ns mainGlobals mg) : OkG P w K mg base 1 (He.ga K "_law_take") ["_law_box_here", "_law_many"] (sp_L_take K) := by
  refine OkG.of (t := t_L_take K) (n := 2) (m := 2) (c.def_ 7 (d := dd_L_take) rfl) sc_L_take (fun _ _ _ _ _ _ us hl => match us, hl with | [_, _], _ => rfl) rfl rfl (fun vs H Q E z => by unfold sp_L_take at z; exact z) ?_
  intro cdv A outer s H E hr hg
  have hu := hr.units
  have hu2 := units65 hr
  exact pss_cons (msif (mtc o_gt (mix hu (mv 0) (ms)) (mi)) (pss_cons (mset (i := 2) sc_L_take.nd rfl (by first | exact Or.inl rfl | exact Or.inr rfl) (mbin o_mod (mix hu (mv 0) (ms)) (mv 1))) (pss_cons (mseti hu (mbin o_div (mix hu (mv 0) (ms)) (mv 1)) (mv 0) (ms)) (pss_one (msr (mv 2))))) (pss_nil)) (pss_cons (mseti hu (mbin o_add (mix hu (mv 0) (ms)) (mi)) (mv 0) (ms)) (pss_cons (mset (i := 3) sc_L_take.nd rfl (by first | exact Or.inl rfl | exact Or.inr rfl) (mbin o_mod (mbin o_pow (mbin o_add (mix hu (mv 0) (ms)) (mbin o_mul (mi) (mix hu (mv 0) (ms)))) (mi)) (mi))) (pss_cons (mset (i := 3) sc_L_take.nd rfl (by first | exact Or.inl rfl | exact Or.inr rfl) (mbin o_mod (mbin o_pow (mbin o_add (mv 3) (mbin o_mul (mi) (mix hu (mv 0) (ms)))) (mi)) (mi))) (pss_one (msr (mbin o_mod (mbin o_div (mv 3) (mi)) (mv 1)))))))
theorem ok_Order_marks (c : SaysM fa fn xa K) (kin : K.In base) (ns : base.Ns mainGlobals mg) : OkG P w K mg base 1 (He.ma K (He.ga K "Order") "marks") ["self"] (sp_Order_marks K) := by
  refine OkG.of (t := t_Order_marks K) (n := 1) (m := 0) (c.def_ 8 (d := dd_Order_marks) rfl) sc_Order_marks (fun _ _ _ _ _ _ us hl => match us, hl with | [_], _ => rfl) rfl rfl (fun vs H Q E z => by unfold sp_Order_marks at z; exact z) ?_
  intro cdv A outer s H E hr hg
  have hu := hr.units
  have hu2 := units65 hr
  exact pss_one (msr (mct k_list rfl (f_list c kin ns) (by decide +kernel) (mac (mfld (mv 0) (clc ⟨He.cls_ok (fa_cls_Order c), He.noat_ok (fa_noat_Order_standing c)⟩ (cl0))) (man))))
theorem ok_Tour_many (c : SaysM fa fn xa K) (kin : K.In base) (ns : base.Ns mainGlobals mg) : OkG P w K mg base 1 (He.ma K (He.ga K "Tour") "many") ["self"] (sp_Tour_many K) := by
  refine OkG.of (t := t_Tour_many K) (n := 1) (m := 0) (c.def_ 9 (d := dd_Tour_many) rfl) sc_Tour_many (fun _ _ _ _ _ _ us hl => match us, hl with | [_], _ => rfl) rfl rfl (fun vs H Q E z => by unfold sp_Tour_many at z; exact z) ?_
  intro cdv A outer s H E hr hg
  have hu := hr.units
  have hu2 := units65 hr
  exact pss_one (msr (mcb k_len rfl (f_len c kin ns) (by decide +kernel) (mac (mfld (mv 0) (clc ⟨He.cls_ok (fa_cls_Tour c), He.noat_ok (fa_noat_Tour_both_marks c)⟩ (cl0))) (man))))
theorem ok_Order_many (c : SaysM fa fn xa K) (kin : K.In base) (ns : base.Ns mainGlobals mg) : OkG P w K mg base 1 (He.ma K (He.ga K "Order") "many") ["self"] (sp_Order_many K) := by
  refine OkG.of (t := t_Order_many K) (n := 1) (m := 0) (c.def_ 10 (d := dd_Order_many) rfl) sc_Order_many (fun _ _ _ _ _ _ us hl => match us, hl with | [_], _ => rfl) rfl rfl (fun vs H Q E z => by unfold sp_Order_many at z; exact z) ?_
  intro cdv A outer s H E hr hg
  have hu := hr.units
  have hu2 := units65 hr
  exact pss_one (msr (mcb k_len rfl (f_len c kin ns) (by decide +kernel) (mac (mfld (mv 0) (clc ⟨He.cls_ok (fa_cls_Order c), He.noat_ok (fa_noat_Order_standing c)⟩ (cl0))) (man))))
theorem ok_L_above (c : SaysM fa fn xa K) (kin : K.In base) (ns : base.Ns mainGlobals mg) : OkG P w K mg base 1 (He.ga K "_law_above") ["_law_owners", "_law_make"] (sp_L_above K) := by
  refine OkG.of (t := t_L_above K) (n := 2) (m := 1) (c.def_ 11 (d := dd_L_above) rfl) sc_L_above (fun _ _ _ _ _ _ us hl => match us, hl with | [_, _], _ => rfl) rfl rfl (fun vs H Q E z => by unfold sp_L_above at z; exact z) ?_
  intro cdv A outer s H E hr hg
  have hu := hr.units
  have hu2 := units65 hr
  exact pss_cons (mset (i := 2) sc_L_above.nd rfl (by first | exact Or.inl rfl | exact Or.inr rfl) (mlst (man))) (pss_cons (mwhile hp_of (mtc o_gt (mv 1) (mi)) (pss_cons (mset (i := 1) sc_L_above.nd rfl (by first | exact Or.inl rfl | exact Or.inr rfl) (mix hu (mv 0) (mv 1))) (pss_one (msx (pe_bm PySem.F.plainAttrs_list PySem.F.slot_list_append PySem.F.type_list_append t_app (mv 2) (mac (mv 1) (man))))))) (pss_one (msr (mv 2))))
theorem ok_Order_anew (c : SaysM fa fn xa K) (kin : K.In base) (ns : base.Ns mainGlobals mg) : OkG P w K mg base 1 (He.ma K (He.ga K "Order") "anew") ["self"] (sp_Order_anew K) := by
  refine OkG.of (t := t_Order_anew K) (n := 1) (m := 0) (c.def_ 12 (d := dd_Order_anew) rfl) sc_Order_anew (fun _ _ _ _ _ _ us hl => match us, hl with | [_], _ => rfl) rfl rfl (fun vs H Q E z => by unfold sp_Order_anew at z; exact z) ?_
  intro cdv A outer s H E hr hg
  have hu := hr.units
  have hu2 := units65 hr
  exact pss_one (msr (mfld (mv 0) (clc ⟨He.cls_ok (fa_cls_Order c), He.noat_ok (fa_noat_Order_times c)⟩ (cl0))))
theorem ok_NoMark_init (c : SaysM fa fn xa K) (kin : K.In base) (ns : base.Ns mainGlobals mg) : OkG P w K mg base 2 (He.ma K (He.ga K "NoMark") "__init__") ["self", "found"] (sp_NoMark_init K) := by
  refine OkG.of (t := t_NoMark_init K) (n := 2) (m := 0) (c.def_ 13 (d := dd_NoMark_init) rfl) sc_NoMark_init (fun _ _ _ _ _ _ us hl => match us, hl with | [_, _], _ => rfl) rfl rfl (fun vs H Q E z => by unfold sp_NoMark_init at z; exact z) ?_
  intro cdv A outer s H E hr hg
  have hu := hr.units
  have hu2 := units65 hr
  exact pss_cons (msx (mcfn rfl (g_MakesError c kin ns) (cfn_ok (xa_cfn_MakesError___init__ c)) ((ok_MakesError_init c kin ns).cal hr (by decide) hg) tk_of (mac (mv 0) (mac (ms) (man))))) (pss_one (ps_ost (mv 0) (mv 1)))
theorem ok_TooMany_init (c : SaysM fa fn xa K) (kin : K.In base) (ns : base.Ns mainGlobals mg) : OkG P w K mg base 2 (He.ma K (He.ga K "TooMany") "__init__") ["self", "count"] (sp_TooMany_init K) := by
  refine OkG.of (t := t_TooMany_init K) (n := 2) (m := 0) (c.def_ 14 (d := dd_TooMany_init) rfl) sc_TooMany_init (fun _ _ _ _ _ _ us hl => match us, hl with | [_, _], _ => rfl) rfl rfl (fun vs H Q E z => by unfold sp_TooMany_init at z; exact z) ?_
  intro cdv A outer s H E hr hg
  have hu := hr.units
  have hu2 := units65 hr
  exact pss_cons (msx (mcfn rfl (g_MakesError c kin ns) (cfn_ok (xa_cfn_MakesError___init__ c)) ((ok_MakesError_init c kin ns).cal hr (by decide) hg) tk_of (mac (mv 0) (mac (ms) (man))))) (pss_one (ps_ost (mv 0) (mv 1)))
theorem ok_NoMake_init (c : SaysM fa fn xa K) (kin : K.In base) (ns : base.Ns mainGlobals mg) : OkG P w K mg base 2 (He.ma K (He.ga K "NoMake") "__init__") ["self", "found"] (sp_NoMake_init K) := by
  refine OkG.of (t := t_NoMake_init K) (n := 2) (m := 0) (c.def_ 15 (d := dd_NoMake_init) rfl) sc_NoMake_init (fun _ _ _ _ _ _ us hl => match us, hl with | [_, _], _ => rfl) rfl rfl (fun vs H Q E z => by unfold sp_NoMake_init at z; exact z) ?_
  intro cdv A outer s H E hr hg
  have hu := hr.units
  have hu2 := units65 hr
  exact pss_cons (msx (mcfn rfl (g_MakesError c kin ns) (cfn_ok (xa_cfn_MakesError___init__ c)) ((ok_MakesError_init c kin ns).cal hr (by decide) hg) tk_of (mac (mv 0) (mac (ms) (man))))) (pss_one (ps_ost (mv 0) (mv 1)))
theorem ok_L_odd (c : SaysM fa fn xa K) (kin : K.In base) (ns : base.Ns mainGlobals mg) : OkG P w K mg base 2 (He.ga K "_law_odd") ["_law_box_here", "_law_tour", "_law_many"] (sp_L_odd K) := by
  refine OkG.of (t := t_L_odd K) (n := 3) (m := 1) (c.def_ 16 (d := dd_L_odd) rfl) sc_L_odd (fun _ _ _ _ _ _ us hl => match us, hl with | [_, _, _], _ => rfl) rfl rfl (fun vs H Q E z => by unfold sp_L_odd at z; exact z) ?_
  intro cdv A outer s H E hr hg
  have hu := hr.units
  have hu2 := units65 hr
  exact pss_cons (mset (i := 3) sc_L_odd.nd rfl (by first | exact Or.inl rfl | exact Or.inr rfl) (mlst (mac (mun o_neg (mi)) (mac (mv 2) (mac (mbin o_add (mv 2) (mi)) (mac (mbin o_pow (mi) (mi)) (mac (mbin o_sub (mi) (mbin o_pow (mi) (mi))) (mac (mb) (mac (mb) (mac (mn) (mac (ms) (mac (ms) (mac (mlst (mac (mi) (man))) (mac (mtup (mac (mi) (man))) (mac (md0) (mac (mlst (man)) (mac (mv 1) (mac (mlst (mac (mv 1) (man))) (man))))))))))))))))))) (pss_one (msr (mix hu (mv 3) (pe_cg ((ok_L_take c kin ns).cal hr (by decide) hg) (g_L_take c kin ns) (k_L_take c kin ns) rfl tk_of (mac (mv 0) (mac (mi) (man)))))))
theorem ok_Tour_by_marks (c : SaysM fa fn xa K) (kin : K.In base) (ns : base.Ns mainGlobals mg) : OkG P w K mg base 2 (He.ma K (He.ga K "Tour") "by_marks") ["self", "side"] (sp_Tour_by_marks K) := by
  refine OkG.of (t := t_Tour_by_marks K) (n := 2) (m := 4) (c.def_ 17 (d := dd_Tour_by_marks) rfl) sc_Tour_by_marks (fun _ _ _ _ _ _ us hl => match us, hl with | [_, _], _ => rfl) rfl rfl (fun vs H Q E z => by unfold sp_Tour_by_marks at z; exact z) ?_
  intro cdv A outer s H E hr hg
  have hu := hr.units
  have hu2 := units65 hr
  exact pss_cons (mset (i := 2) sc_Tour_by_marks.nd rfl (by first | exact Or.inl rfl | exact Or.inr rfl) (mct (k_dict rfl) rfl (f_dict c kin ns) (by decide +kernel) (mac (mlc (own := [("make", 3), ("marks", 4)]) rfl sc_Tour_by_marks.nd (menu rfl (f_enumerate c kin ns) (mac (mfld (mv 0) (clc ⟨He.cls_ok (fa_cls_Tour c), He.noat_ok (fa_noat_Tour_both_marks c)⟩ (cl0))) (man))) (blkOk_by (N := N_Tour_by_marks) (sc := defScope s_Tour_by_marks) (own := [("make", 3), ("marks", 4)]) (by decide +kernel)) (fun _ _ _ _ _ => mgu rfl (mg1 (mgn sc_Tour_by_marks.nd rfl (by first | exact Or.inl rfl | exact Or.inr rfl)) (mg1 (mgn sc_Tour_by_marks.nd rfl (by first | exact Or.inl rfl | exact Or.inr rfl)) (mg0)))) (fun _ _ _ _ _ => pts_nil) (fun _ _ _ _ _ => mtup (mac (mix hu (mv 4) (mv 1)) (mac (mv 3) (man))))) (man)))) (pss_one (msr (mlc (own := [("mark", 5)]) rfl sc_Tour_by_marks.nd (miv (mmeth0 (mfld (mv 0) (clc ⟨He.cls_ok (fa_cls_Tour c), He.noat_ok (fa_noat_Tour_placed c)⟩ (cl0))) (dsp1 (He.cls_ok (fa_cls_Order c)) (He.meth_ok (fa_meth_Order_marks c)) ((ok_Order_marks c kin ns).cal hr (by decide) hg) (dsp0)) tk_of)) (blkOk_by (N := N_Tour_by_marks) (sc := defScope s_Tour_by_marks) (own := [("mark", 5)]) (by decide +kernel)) (fun _ _ _ _ _ => mgn sc_Tour_by_marks.nd rfl (by first | exact Or.inl rfl | exact Or.inr rfl)) (fun _ _ _ _ _ => pts_one (mtc (o_in hu2) (mv 5) (mv 2))) (fun _ _ _ _ _ => mix hu (mv 2) (mv 5)))))
theorem ok_Tour_coming (c : SaysM fa fn xa K) (kin : K.In base) (ns : base.Ns mainGlobals mg) : OkG P w K mg base 3 (He.ma K (He.ga K "Tour") "coming") ["self"] (sp_Tour_coming K) := by
  refine OkG.of (t := t_Tour_coming K) (n := 1) (m := 0) (c.def_ 18 (d := dd_Tour_coming) rfl) sc_Tour_coming (fun _ _ _ _ _ _ us hl => match us, hl with | [_], _ => rfl) rfl rfl (fun vs H Q E z => by unfold sp_Tour_coming at z; exact z) ?_
  intro cdv A outer s H E hr hg
  have hu := hr.units
  have hu2 := units65 hr
  exact pss_one (msr (mmeth (mv 0) (dsp1 (He.cls_ok (fa_cls_Tour c)) (He.meth_ok (fa_meth_Tour_by_marks c)) ((ok_Tour_by_marks c kin ns).cal hr (by decide) hg) (dsp0)) tk_of (mac (mi) (man))))
theorem ok_Order_copied (c : SaysM fa fn xa K) (kin : K.In base) (ns : base.Ns mainGlobals mg) : OkG P w K mg base 3 (He.ma K (He.ga K "Order") "copied") ["self"] (sp_Order_copied K) := by
  refine OkG.of (t := t_Order_copied K) (n := 1) (m := 1) (c.def_ 19 (d := dd_Order_copied) rfl) sc_Order_copied (fun _ _ _ _ _ _ us hl => match us, hl with | [_], _ => rfl) rfl rfl (fun vs H Q E z => by unfold sp_Order_copied at z; exact z) ?_
  intro cdv A outer s H E hr hg
  have hu := hr.units
  have hu2 := units65 hr
  exact pss_cons (mset (i := 1) sc_Order_copied.nd rfl (by first | exact Or.inl rfl | exact Or.inr rfl) (pe_mk0 (He.mkr_ok (fa_mkr_Order c)) ((ok_Order_init c kin ns).calM hr (by decide) hg) (g_Order c kin ns) rfl tk_of)) (pss_cons (mstf (mct k_list rfl (f_list c kin ns) (by decide +kernel) (mac (mfld (mv 0) (clc ⟨He.cls_ok (fa_cls_Order c), He.noat_ok (fa_noat_Order_standing c)⟩ (cl0))) (man))) (mv 1) (clc ⟨He.cls_ok (fa_cls_Order c), He.noat_ok (fa_noat_Order_standing c)⟩ (cl0))) (pss_cons (mstf (mct (k_dict rfl) rfl (f_dict c kin ns) (by decide +kernel) (mac (mfld (mv 0) (clc ⟨He.cls_ok (fa_cls_Order c), He.noat_ok (fa_noat_Order_labelled c)⟩ (cl0))) (man))) (mv 1) (clc ⟨He.cls_ok (fa_cls_Order c), He.noat_ok (fa_noat_Order_labelled c)⟩ (cl0))) (pss_cons (mstf (mfld (mv 0) (clc ⟨He.cls_ok (fa_cls_Order c), He.noat_ok (fa_noat_Order_given c)⟩ (cl0))) (mv 1) (clc ⟨He.cls_ok (fa_cls_Order c), He.noat_ok (fa_noat_Order_given c)⟩ (cl0))) (pss_cons (mstf (mfld (mv 0) (clc ⟨He.cls_ok (fa_cls_Order c), He.noat_ok (fa_noat_Order_times c)⟩ (cl0))) (mv 1) (clc ⟨He.cls_ok (fa_cls_Order c), He.noat_ok (fa_noat_Order_times c)⟩ (cl0))) (pss_one (msr (mv 1)))))))
theorem ok_Tour_leaving (c : SaysM fa fn xa K) (kin : K.In base) (ns : base.Ns mainGlobals mg) : OkG P w K mg base 3 (He.ma K (He.ga K "Tour") "leaving") ["self"] (sp_Tour_leaving K) := by
  refine OkG.of (t := t_Tour_leaving K) (n := 1) (m := 0) (c.def_ 20 (d := dd_Tour_leaving) rfl) sc_Tour_leaving (fun _ _ _ _ _ _ us hl => match us, hl with | [_], _ => rfl) rfl rfl (fun vs H Q E z => by unfold sp_Tour_leaving at z; exact z) ?_
  intro cdv A outer s H E hr hg
  have hu := hr.units
  have hu2 := units65 hr
  exact pss_one (msr (mmeth (mv 0) (dsp1 (He.cls_ok (fa_cls_Tour c)) (He.meth_ok (fa_meth_Tour_by_marks c)) ((ok_Tour_by_marks c kin ns).cal hr (by decide) hg) (dsp0)) tk_of (mac (mi) (man))))
theorem ok_Order_need_mark (c : SaysM fa fn xa K) (kin : K.In base) (ns : base.Ns mainGlobals mg) : OkG P w K mg base 4 (He.ma K (He.ga K "Order") "need_mark") ["self", "mark"] (sp_Order_need_mark K) := by
  refine OkG.of (t := t_Order_need_mark K) (n := 2) (m := 0) (c.def_ 21 (d := dd_Order_need_mark) rfl) sc_Order_need_mark (fun _ _ _ _ _ _ us hl => match us, hl with | [_, _], _ => rfl) rfl rfl (fun vs H Q E z => by unfold sp_Order_need_mark at z; exact z) ?_
  intro cdv A outer s H E hr hg
  have hu := hr.units
  have hu2 := units65 hr
  exact pss_one (msif (PW.pt (mo2 (mtn (mtv (pe_cg ((ok_is_whole c kin ns).cal hr (by decide) hg) (g_is_whole c kin ns) (k_is_whole c kin ns) rfl tk_of (mac (mv 1) (mac (mi) (mac (mbin o_sub (mfld (mv 0) (clc ⟨He.cls_ok (fa_cls_Order c), He.noat_ok (fa_noat_Order_given c)⟩ (cl0))) (mi)) (man))))))) (mo1 (mtc (o_ni hu2) (mv 1) (mfld (mv 0) (clc ⟨He.cls_ok (fa_cls_Order c), He.noat_ok (fa_noat_Order_labelled c)⟩ (cl0))))))) (pss_one (mraise tk_of (pmk_exc (oex_ok (xa_oex_NoMark c)) (init_ok (xa_init_NoMark c)) ((ok_NoMark_init c kin ns).calM hr (by decide) hg) (exc_one (oex_ok (xa_oex_NoMark c)) (He.noat_ok (fa_noat_NoMark_found c)) (keepsM fun _ _ _ _ _ h => sp_MakesError_init_i h) fun _ _ _ _ _  h => sp_NoMark_init_i h) rfl (g_NoMark c kin ns) (mac (mv 1) (man))))) (pss_nil))
theorem ok_Tour_need_make (c : SaysM fa fn xa K) (kin : K.In base) (ns : base.Ns mainGlobals mg) : OkG P w K mg base 4 (He.ma K (He.ga K "Tour") "need_make") ["self", "make"] (sp_Tour_need_make K) := by
  refine OkG.of (t := t_Tour_need_make K) (n := 2) (m := 0) (c.def_ 22 (d := dd_Tour_need_make) rfl) sc_Tour_need_make (fun _ _ _ _ _ _ us hl => match us, hl with | [_, _], _ => rfl) rfl rfl (fun vs H Q E z => by unfold sp_Tour_need_make at z; exact z) ?_
  intro cdv A outer s H E hr hg
  have hu := hr.units
  have hu2 := units65 hr
  exact pss_one (msif (mtn (mtv (pe_cg ((ok_is_whole c kin ns).cal hr (by decide) hg) (g_is_whole c kin ns) (k_is_whole c kin ns) rfl tk_of (mac (mv 1) (mac (mi) (mac (mbin o_sub (mcb k_len rfl (f_len c kin ns) (by decide +kernel) (mac (mfld (mv 0) (clc ⟨He.cls_ok (fa_cls_Tour c), He.noat_ok (fa_noat_Tour_both_marks c)⟩ (cl0))) (man))) (mi)) (man))))))) (pss_one (mraise tk_of (pmk_exc (oex_ok (xa_oex_NoMake c)) (init_ok (xa_init_NoMake c)) ((ok_NoMake_init c kin ns).calM hr (by decide) hg) (exc_one (oex_ok (xa_oex_NoMake c)) (He.noat_ok (fa_noat_NoMake_found c)) (keepsM fun _ _ _ _ _ h => sp_MakesError_init_i h) fun _ _ _ _ _  h => sp_NoMake_init_i h) rfl (g_NoMake c kin ns) (mac (mv 1) (man))))) (pss_nil))
theorem ok_Tour_order (c : SaysM fa fn xa K) (kin : K.In base) (ns : base.Ns mainGlobals mg) : OkG P w K mg base 4 (He.ma K (He.ga K "Tour") "order") ["self"] (sp_Tour_order K) := by
  refine OkG.of (t := t_Tour_order K) (n := 1) (m := 0) (c.def_ 23 (d := dd_Tour_order) rfl) sc_Tour_order (fun _ _ _ _ _ _ us hl => match us, hl with | [_], _ => rfl) rfl rfl (fun vs H Q E z => by unfold sp_Tour_order at z; exact z) ?_
  intro cdv A outer s H E hr hg
  have hu := hr.units
  have hu2 := units65 hr
  exact pss_one (msr (mmeth0 (mfld (mv 0) (clc ⟨He.cls_ok (fa_cls_Tour c), He.noat_ok (fa_noat_Tour_placed c)⟩ (cl0))) (dsp1 (He.cls_ok (fa_cls_Order c)) (He.meth_ok (fa_meth_Order_copied c)) ((ok_Order_copied c kin ns).cal hr (by decide) hg) (dsp0)) tk_of))
theorem ok_Order_behind (c : SaysM fa fn xa K) (kin : K.In base) (ns : base.Ns mainGlobals mg) : OkG P w K mg base 5 (He.ma K (He.ga K "Order") "behind") ["self", "mark"] (sp_Order_behind K) := by
  refine OkG.of (t := t_Order_behind K) (n := 2) (m := 2) (c.def_ 24 (d := dd_Order_behind) rfl) sc_Order_behind (fun _ _ _ _ _ _ us hl => match us, hl with | [_, _], _ => rfl) rfl rfl (fun vs H Q E z => by unfold sp_Order_behind at z; exact z) ?_
  intro cdv A outer s H E hr hg
  have hu := hr.units
  have hu2 := units65 hr
  exact pss_cons (msx (mmeth (mv 0) (dsp1 (He.cls_ok (fa_cls_Order c)) (He.meth_ok (fa_meth_Order_need_mark c)) ((ok_Order_need_mark c kin ns).cal hr (by decide) hg) (dsp0)) tk_of (mac (mv 1) (man)))) (pss_cons (msif (mtc (o_eq hu) (mcb k_len rfl (f_len c kin ns) (by decide +kernel) (mac (mfld (mv 0) (clc ⟨He.cls_ok (fa_cls_Order c), He.noat_ok (fa_noat_Order_standing c)⟩ (cl0))) (man))) (mg_ rfl (c_MOST_MARKS c kin ns))) (pss_one (mraise tk_of (pmk_exc (oex_ok (xa_oex_TooMany c)) (init_ok (xa_init_TooMany c)) ((ok_TooMany_init c kin ns).calM hr (by decide) hg) (exc_one (oex_ok (xa_oex_TooMany c)) (He.noat_ok (fa_noat_TooMany_count c)) (keepsM fun _ _ _ _ _ h => sp_MakesError_init_i h) fun _ _ _ _ _  h => sp_TooMany_init_i h) rfl (g_TooMany c kin ns) (mac (mbin o_add (mg_ rfl (c_MOST_MARKS c kin ns)) (mi)) (man))))) (pss_nil)) (pss_cons (mset (i := 2) sc_Order_behind.nd rfl (by first | exact Or.inl rfl | exact Or.inr rfl) (pe_bm PySem.F.plainAttrs_list PySem.F.slot_list_index PySem.F.type_list_index t_idx (mfld (mv 0) (clc ⟨He.cls_ok (fa_cls_Order c), He.noat_ok (fa_noat_Order_standing c)⟩ (cl0))) (mac (mv 1) (man)))) (pss_cons (msif (mtc o_lt (mbin o_sub (mmeth (mv 0) (dsp1 (He.cls_ok (fa_cls_Order c)) (He.meth_ok (fa_meth_Order_label_behind c)) ((ok_Order_label_behind c kin ns).cal hr (by decide) hg) (dsp0)) tk_of (mac (mv 2) (man))) (mix hu (mfld (mv 0) (clc ⟨He.cls_ok (fa_cls_Order c), He.noat_ok (fa_noat_Order_labelled c)⟩ (cl0))) (mv 1))) (mi)) (pss_one (msx (mmeth0 (mv 0) (dsp1 (He.cls_ok (fa_cls_Order c)) (He.meth_ok (fa_meth_Order_label_all c)) ((ok_Order_label_all c kin ns).cal hr (by decide) hg) (dsp0)) tk_of))) (pss_nil)) (pss_cons (mset (i := 3) sc_Order_behind.nd rfl (by first | exact Or.inl rfl | exact Or.inr rfl) (mfld (mv 0) (clc ⟨He.cls_ok (fa_cls_Order c), He.noat_ok (fa_noat_Order_given c)⟩ (cl0)))) (pss_cons (mseti hu (mbin o_div (mbin o_add (mix hu (mfld (mv 0) (clc ⟨He.cls_ok (fa_cls_Order c), He.noat_ok (fa_noat_Order_labelled c)⟩ (cl0))) (mv 1)) (mmeth (mv 0) (dsp1 (He.cls_ok (fa_cls_Order c)) (He.meth_ok (fa_meth_Order_label_behind c)) ((ok_Order_label_behind c kin ns).cal hr (by decide) hg) (dsp0)) tk_of (mac (mv 2) (man)))) (mi)) (mfld (mv 0) (clc ⟨He.cls_ok (fa_cls_Order c), He.noat_ok (fa_noat_Order_labelled c)⟩ (cl0))) (mv 3)) (pss_cons (msx (pe_bm PySem.F.plainAttrs_list PySem.F.slot_list_insert PySem.F.type_list_insert t_ins (mfld (mv 0) (clc ⟨He.cls_ok (fa_cls_Order c), He.noat_ok (fa_noat_Order_standing c)⟩ (cl0))) (mac (mbin o_add (mv 2) (mi)) (mac (mv 3) (man))))) (pss_cons (magf (mv 0) (mi) g_add (clc ⟨He.cls_ok (fa_cls_Order c), He.noat_ok (fa_noat_Order_given c)⟩ (cl0))) (pss_one (msr (mv 3))))))))))
theorem ok_Tour_marks_of (c : SaysM fa fn xa K) (kin : K.In base) (ns : base.Ns mainGlobals mg) : OkG P w K mg base 5 (He.ma K (He.ga K "Tour") "marks_of") ["self", "make"] (sp_Tour_marks_of K) := by
  refine OkG.of (t := t_Tour_marks_of K) (n := 2) (m := 0) (c.def_ 25 (d := dd_Tour_marks_of) rfl) sc_Tour_marks_of (fun _ _ _ _ _ _ us hl => match us, hl with | [_, _], _ => rfl) rfl rfl (fun vs H Q E z => by unfold sp_Tour_marks_of at z; exact z) ?_
  intro cdv A outer s H E hr hg
  have hu := hr.units
  have hu2 := units65 hr
  exact pss_cons (msx (mmeth (mv 0) (dsp1 (He.cls_ok (fa_cls_Tour c)) (He.meth_ok (fa_meth_Tour_need_make c)) ((ok_Tour_need_make c kin ns).cal hr (by decide) hg) (dsp0)) tk_of (mac (mv 1) (man)))) (pss_one (msr (mix hu (mfld (mv 0) (clc ⟨He.cls_ok (fa_cls_Tour c), He.noat_ok (fa_noat_Tour_both_marks c)⟩ (cl0))) (mv 1))))
theorem ok_Order_ahead (c : SaysM fa fn xa K) (kin : K.In base) (ns : base.Ns mainGlobals mg) : OkG P w K mg base 5 (He.ma K (He.ga K "Order") "ahead") ["self", "one", "other"] (sp_Order_ahead K) := by
  refine OkG.of (t := t_Order_ahead K) (n := 3) (m := 0) (c.def_ 26 (d := dd_Order_ahead) rfl) sc_Order_ahead (fun _ _ _ _ _ _ us hl => match us, hl with | [_, _, _], _ => rfl) rfl rfl (fun vs H Q E z => by unfold sp_Order_ahead at z; exact z) ?_
  intro cdv A outer s H E hr hg
  have hu := hr.units
  have hu2 := units65 hr
  exact pss_cons (msx (mmeth (mv 0) (dsp1 (He.cls_ok (fa_cls_Order c)) (He.meth_ok (fa_meth_Order_need_mark c)) ((ok_Order_need_mark c kin ns).cal hr (by decide) hg) (dsp0)) tk_of (mac (mv 1) (man)))) (pss_cons (msx (mmeth (mv 0) (dsp1 (He.cls_ok (fa_cls_Order c)) (He.meth_ok (fa_meth_Order_need_mark c)) ((ok_Order_need_mark c kin ns).cal hr (by decide) hg) (dsp0)) tk_of (mac (mv 2) (man)))) (pss_one (msr (mcmp o_lt (mix hu (mfld (mv 0) (clc ⟨He.cls_ok (fa_cls_Order c), He.noat_ok (fa_noat_Order_labelled c)⟩ (cl0))) (mv 1)) (mix hu (mfld (mv 0) (clc ⟨He.cls_ok (fa_cls_Order c), He.noat_ok (fa_noat_Order_labelled c)⟩ (cl0))) (mv 2))))))
theorem ok_Tour_init (c : SaysM fa fn xa K) (kin : K.In base) (ns : base.Ns mainGlobals mg) : OkG P w K mg base 6 (He.ma K (He.ga K "Tour") "__init__") ["self"] (sp_Tour_init K) := by
  refine OkG.of (t := t_Tour_init K) (n := 1) (m := 0) (c.def_ 27 (d := dd_Tour_init) rfl) sc_Tour_init (fun _ _ _ _ _ _ us hl => match us, hl with | [_], _ => rfl) rfl rfl (fun vs H Q E z => by unfold sp_Tour_init at z; exact z) ?_
  intro cdv A outer s H E hr hg
  have hu := hr.units
  have hu2 := units65 hr
  exact pss_cons (mstf (pe_mk0 (He.mkr_ok (fa_mkr_Order c)) ((ok_Order_init c kin ns).calM hr (by decide) hg) (g_Order c kin ns) rfl tk_of) (mv 0) (clc ⟨He.cls_ok (fa_cls_Tour c), He.noat_ok (fa_noat_Tour_placed c)⟩ (cl0))) (pss_one (mstf (mlst (mac (mtup (mac (mi) (mac (mmeth (mfld (mv 0) (clc ⟨He.cls_ok (fa_cls_Tour c), He.noat_ok (fa_noat_Tour_placed c)⟩ (cl0))) (dsp1 (He.cls_ok (fa_cls_Order c)) (He.meth_ok (fa_meth_Order_behind c)) ((ok_Order_behind c kin ns).cal hr (by decide) hg) (dsp0)) tk_of (mac (mi) (man))) (man)))) (man))) (mv 0) (clc ⟨He.cls_ok (fa_cls_Tour c), He.noat_ok (fa_noat_Tour_both_marks c)⟩ (cl0))))
theorem ok_Tour_grow (c : SaysM fa fn xa K) (kin : K.In base) (ns : base.Ns mainGlobals mg) : OkG P w K mg base 6 (He.ma K (He.ga K "Tour") "grow") ["self", "make"] (sp_Tour_grow K) := by
  refine OkG.of (t := t_Tour_grow K) (n := 2) (m := 1) (c.def_ 28 (d := dd_Tour_grow) rfl) sc_Tour_grow (fun _ _ _ _ _ _ us hl => match us, hl with | [_, _], _ => rfl) rfl rfl (fun vs H Q E z => by unfold sp_Tour_grow at z; exact z) ?_
  intro cdv A outer s H E hr hg
  have hu := hr.units
  have hu2 := units65 hr
  exact pss_cons (msx (mmeth (mv 0) (dsp1 (He.cls_ok (fa_cls_Tour c)) (He.meth_ok (fa_meth_Tour_need_make c)) ((ok_Tour_need_make c kin ns).cal hr (by decide) hg) (dsp0)) tk_of (mac (mv 1) (man)))) (pss_cons (msif (mtc (o_eq hu) (mcb k_len rfl (f_len c kin ns) (by decide +kernel) (mac (mfld (mv 0) (clc ⟨He.cls_ok (fa_cls_Tour c), He.noat_ok (fa_noat_Tour_both_marks c)⟩ (cl0))) (man))) (mg_ rfl (c_MOST_MAKES c kin ns))) (pss_one (mraise tk_of (pmk_exc (oex_ok (xa_oex_TooMany c)) (init_ok (xa_init_TooMany c)) ((ok_TooMany_init c kin ns).calM hr (by decide) hg) (exc_one (oex_ok (xa_oex_TooMany c)) (He.noat_ok (fa_noat_TooMany_count c)) (keepsM fun _ _ _ _ _ h => sp_MakesError_init_i h) fun _ _ _ _ _  h => sp_TooMany_init_i h) rfl (g_TooMany c kin ns) (mac (mbin o_add (mg_ rfl (c_MOST_MAKES c kin ns)) (mi)) (man))))) (pss_nil)) (pss_cons (mset (i := 2) sc_Tour_grow.nd rfl (by first | exact Or.inl rfl | exact Or.inr rfl) (mmeth (mfld (mv 0) (clc ⟨He.cls_ok (fa_cls_Tour c), He.noat_ok (fa_noat_Tour_placed c)⟩ (cl0))) (dsp1 (He.cls_ok (fa_cls_Order c)) (He.meth_ok (fa_meth_Order_behind c)) ((ok_Order_behind c kin ns).cal hr (by decide) hg) (dsp0)) tk_of (mac (mix hu (mix hu (mfld (mv 0) (clc ⟨He.cls_ok (fa_cls_Tour c), He.noat_ok (fa_noat_Tour_both_marks c)⟩ (cl0))) (mv 1)) (mi)) (man)))) (pss_cons (msx (pe_bm PySem.F.plainAttrs_list PySem.F.slot_list_append PySem.F.type_list_append t_app (mfld (mv 0) (clc ⟨He.cls_ok (fa_cls_Tour c), He.noat_ok (fa_noat_Tour_both_marks c)⟩ (cl0))) (mac (mtup (mac (mv 2) (mac (mmeth (mfld (mv 0) (clc ⟨He.cls_ok (fa_cls_Tour c), He.noat_ok (fa_noat_Tour_placed c)⟩ (cl0))) (dsp1 (He.cls_ok (fa_cls_Order c)) (He.meth_ok (fa_meth_Order_behind c)) ((ok_Order_behind c kin ns).cal hr (by decide) hg) (dsp0)) tk_of (mac (mv 2) (man))) (man)))) (man)))) (pss_one (msr (mbin o_sub (mcb k_len rfl (f_len c kin ns) (by decide +kernel) (mac (mfld (mv 0) (clc ⟨He.cls_ok (fa_cls_Tour c), He.noat_ok (fa_noat_Tour_both_marks c)⟩ (cl0))) (man))) (mi)))))))
theorem ok_Tour_within (c : SaysM fa fn xa K) (kin : K.In base) (ns : base.Ns mainGlobals mg) : OkG P w K mg base 6 (He.ma K (He.ga K "Tour") "within") ["self", "one", "other"] (sp_Tour_within K) := by
  refine OkG.of (t := t_Tour_within K) (n := 3) (m := 4) (c.def_ 29 (d := dd_Tour_within) rfl) sc_Tour_within (fun _ _ _ _ _ _ us hl => match us, hl with | [_, _, _], _ => rfl) rfl rfl (fun vs H Q E z => by unfold sp_Tour_within at z; exact z) ?_
  intro cdv A outer s H E hr hg
  have hu := hr.units
  have hu2 := units65 hr
  exact pss_cons (msx (mmeth (mv 0) (dsp1 (He.cls_ok (fa_cls_Tour c)) (He.meth_ok (fa_meth_Tour_need_make c)) ((ok_Tour_need_make c kin ns).cal hr (by decide) hg) (dsp0)) tk_of (mac (mv 1) (man)))) (pss_cons (msx (mmeth (mv 0) (dsp1 (He.cls_ok (fa_cls_Tour c)) (He.meth_ok (fa_meth_Tour_need_make c)) ((ok_Tour_need_make c kin ns).cal hr (by decide) hg) (dsp0)) tk_of (mac (mv 2) (man)))) (pss_cons (masg (mix hu (mfld (mv 0) (clc ⟨He.cls_ok (fa_cls_Tour c), He.noat_ok (fa_noat_Tour_both_marks c)⟩ (cl0))) (mv 1)) (mgu rfl (mg1 (mgn sc_Tour_within.nd rfl (by first | exact Or.inl rfl | exact Or.inr rfl)) (mg1 (mgn sc_Tour_within.nd rfl (by first | exact Or.inl rfl | exact Or.inr rfl)) (mg0))))) (pss_cons (masg (mix hu (mfld (mv 0) (clc ⟨He.cls_ok (fa_cls_Tour c), He.noat_ok (fa_noat_Tour_both_marks c)⟩ (cl0))) (mv 2)) (mgu rfl (mg1 (mgn sc_Tour_within.nd rfl (by first | exact Or.inl rfl | exact Or.inr rfl)) (mg1 (mgn sc_Tour_within.nd rfl (by first | exact Or.inl rfl | exact Or.inr rfl)) (mg0))))) (pss_one (msr (mea (men (mmeth (mfld (mv 0) (clc ⟨He.cls_ok (fa_cls_Tour c), He.noat_ok (fa_noat_Tour_placed c)⟩ (cl0))) (dsp1 (He.cls_ok (fa_cls_Order c)) (He.meth_ok (fa_meth_Order_ahead c)) ((ok_Order_ahead c kin ns).cal hr (by decide) hg) (dsp0)) tk_of (mac (mv 5) (mac (mv 3) (man))))) (me1 (men (mmeth (mfld (mv 0) (clc ⟨He.cls_ok (fa_cls_Tour c), He.noat_ok (fa_noat_Tour_placed c)⟩ (cl0))) (dsp1 (He.cls_ok (fa_cls_Order c)) (He.meth_ok (fa_meth_Order_ahead c)) ((ok_Order_ahead c kin ns).cal hr (by decide) hg) (dsp0)) tk_of (mac (mv 4) (mac (mv 6) (man))))))))))))
theorem ok_Tour_beneath (c : SaysM fa fn xa K) (kin : K.In base) (ns : base.Ns mainGlobals mg) : OkG P w K mg base 7 (He.ma K (He.ga K "Tour") "beneath") ["self", "make"] (sp_Tour_beneath K) := by
  refine OkG.of (t := t_Tour_beneath K) (n := 2) (m := 1) (c.def_ 30 (d := dd_Tour_beneath) rfl) sc_Tour_beneath (fun _ _ _ _ _ _ us hl => match us, hl with | [_, _], _ => rfl) rfl rfl (fun vs H Q E z => by unfold sp_Tour_beneath at z; exact z) ?_
  intro cdv A outer s H E hr hg
  have hu := hr.units
  have hu2 := units65 hr
  exact pss_cons (msx (mmeth (mv 0) (dsp1 (He.cls_ok (fa_cls_Tour c)) (He.meth_ok (fa_meth_Tour_need_make c)) ((ok_Tour_need_make c kin ns).cal hr (by decide) hg) (dsp0)) tk_of (mac (mv 1) (man)))) (pss_one (msr (mlc (own := [("other", 2)]) rfl sc_Tour_beneath.nd (miv (mmeth0 (mv 0) (dsp1 (He.cls_ok (fa_cls_Tour c)) (He.meth_ok (fa_meth_Tour_coming c)) ((ok_Tour_coming c kin ns).cal hr (by decide) hg) (dsp0)) tk_of)) (blkOk_by (N := N_Tour_beneath) (sc := defScope s_Tour_beneath) (own := [("other", 2)]) (by decide +kernel)) (fun _ _ _ _ _ => mgn sc_Tour_beneath.nd rfl (by first | exact Or.inl rfl | exact Or.inr rfl)) (fun _ _ _ _ _ => pts_one (PW.pt (ma2 (mtc (o_ne hu) (mv 2) (mv 1)) (ma1 (mtv (mmeth (mv 0) (dsp1 (He.cls_ok (fa_cls_Tour c)) (He.meth_ok (fa_meth_Tour_within c)) ((ok_Tour_within c kin ns).cal hr (by decide) hg) (dsp0)) tk0 (mac (mv 1) (mac (mv 2) (man))))))))) (fun _ _ _ _ _ => mv 2))))
theorem ok_L_call (c : SaysM fa fn xa K) (kin : K.In base) (ns : base.Ns mainGlobals mg) : OkG P w K mg base 8 (He.ga K "_law_call") ["_law_tour", "_law_way", "_law_one", "_law_other"] (sp_L_call K) := by
  refine OkG.of (t := t_L_call K) (n := 4) (m := 0) (c.def_ 31 (d := dd_L_call) rfl) sc_L_call (fun _ _ _ _ _ _ us hl => match us, hl with | [_, _, _, _], _ => rfl) rfl rfl (fun vs H Q E z => by unfold sp_L_call at z; exact z) ?_
  intro cdv A outer s H E hr hg
  have hu := hr.units
  have hu2 := units65 hr
  exact pss_one (msif (mtc (o_eq hu) (mv 1) (mi)) (pss_one (msx (mmeth (mv 0) (dsp1 (He.cls_ok (fa_cls_Tour c)) (He.meth_ok (fa_meth_Tour_grow c)) ((ok_Tour_grow c kin ns).cal hr (by decide) hg) (dsp0)) tk_of (mac (mv 2) (man))))) (pss_one (msif (mtc (o_eq hu) (mv 1) (mi)) (pss_one (msx (mmeth (mv 0) (dsp1 (He.cls_ok (fa_cls_Tour c)) (He.meth_ok (fa_meth_Tour_marks_of c)) ((ok_Tour_marks_of c kin ns).cal hr (by decide) hg) (dsp0)) tk_of (mac (mv 2) (man))))) (pss_one (msif (mtc (o_eq hu) (mv 1) (mi)) (pss_one (msx (mmeth (mv 0) (dsp1 (He.cls_ok (fa_cls_Tour c)) (He.meth_ok (fa_meth_Tour_beneath c)) ((ok_Tour_beneath c kin ns).cal hr (by decide) hg) (dsp0)) tk_of (mac (mv 2) (man))))) (pss_one (msx (mmeth (mv 0) (dsp1 (He.cls_ok (fa_cls_Tour c)) (He.meth_ok (fa_meth_Tour_within c)) ((ok_Tour_within c kin ns).cal hr (by decide) hg) (dsp0)) tk_of (mac (mv 2) (mac (mv 3) (man)))))))))))
theorem ok_L_pairs_right (c : SaysM fa fn xa K) (kin : K.In base) (ns : base.Ns mainGlobals mg) : OkG P w K mg base 8 (He.ga K "_law_pairs_right") ["_law_tour", "_law_owners", "_law_coming"] (sp_L_pairs_right K) := by
  refine OkG.of (t := t_L_pairs_right K) (n := 3) (m := 5) (c.def_ 32 (d := dd_L_pairs_right) rfl) sc_L_pairs_right (fun _ _ _ _ _ _ us hl => match us, hl with | [_, _, _], _ => rfl) rfl rfl (fun vs H Q E z => by unfold sp_L_pairs_right at z; exact z) ?_
  intro cdv A outer s H E hr hg
  have hu := hr.units
  have hu2 := units65 hr
  exact pss_cons (mfor hp_of rfl (mr1 rfl (f_range c kin ns) (mac (mcb k_len rfl (f_len c kin ns) (by decide +kernel) (mac (mv 1) (man))) (man))) (mgn sc_L_pairs_right.nd rfl (by first | exact Or.inl rfl | exact Or.inr rfl)) (pss_cons (mset (i := 4) sc_L_pairs_right.nd rfl (by first | exact Or.inl rfl | exact Or.inr rfl) (mlst (man))) (pss_cons (mfor hp_of rfl (miv (mv 2)) (mgn sc_L_pairs_right.nd rfl (by first | exact Or.inl rfl | exact Or.inr rfl)) (pss_cons (mset (i := 7) sc_L_pairs_right.nd rfl (by first | exact Or.inl rfl | exact Or.inr rfl) (meo (mcmp (o_eqS hu (oeqs_cons (oeq_ok (xa_oeq_Order c)) (oeqs_cons (oeq_ok (xa_oeq_Tour c)) (oeqs_nil)))) (mv 3) (mv 5)) (me1 (mcmp (o_in hu2) (mv 3) (pe_cg ((ok_L_above c kin ns).cal hr (by decide) hg) (g_L_above c kin ns) (k_L_above c kin ns) rfl tk_of (mac (mv 1) (mac (mv 5) (man)))))))) (pss_cons (mset (i := 6) sc_L_pairs_right.nd rfl (by first | exact Or.inl rfl | exact Or.inr rfl) (mmeth (mv 0) (dsp1 (He.cls_ok (fa_cls_Tour c)) (He.meth_ok (fa_meth_Tour_within c)) ((ok_Tour_within c kin ns).cal hr (by decide) hg) (dsp0)) tk_of (mac (mv 3) (mac (mv 5) (man))))) (pss_cons (msif (PW.pt (mo2 (mtn (mtv (mcb (k_isi (T := .bool) (tb := [(He.ga K "Order"), (He.ga K "Tour")]) (fun z => by cases z) (it1 ⟨He.cls_ok (fa_cls_Order c), isc_ok (xa_isc_Order c), no1 (kitt_ok (xa_kitt_Order_bool_False c)) (no0)⟩ (it1 ⟨He.cls_ok (fa_cls_Tour c), isc_ok (xa_isc_Tour c), no1 (kitt_ok (xa_kitt_Tour_bool_False c)) (no0)⟩ (it0)))) rfl (f_isinstance c kin ns) (by decide +kernel) (mac (mv 6) (mac (mc (pe_bltn rfl (f_bool c kin ns) (by decide +kernel) rfl)) man))))) (mo1 (mtc (o_neS hu (oeqs_cons (oeq_ok (xa_oeq_Order c)) (oeqs_cons (oeq_ok (xa_oeq_Tour c)) (oeqs_nil)))) (mv 6) (mv 7))))) (pss_one (msr (mb))) (pss_nil)) (pss_one (msif (PW.pt (ma2 (mtv (mv 7)) (ma1 (mtc (o_neS hu (oeqs_cons (oeq_ok (xa_oeq_Order c)) (oeqs_cons (oeq_ok (xa_oeq_Tour c)) (oeqs_nil)))) (mv 3) (mv 5))))) (pss_one (msx (pe_bm PySem.F.plainAttrs_list PySem.F.slot_list_append PySem.F.type_list_append t_app (mv 4) (mac (mv 5) (man))))) (pss_nil))))))) (pss_cons (mset (i := 6) sc_L_pairs_right.nd rfl (by first | exact Or.inl rfl | exact Or.inr rfl) (mmeth (mv 0) (dsp1 (He.cls_ok (fa_cls_Tour c)) (He.meth_ok (fa_meth_Tour_beneath c)) ((ok_Tour_beneath c kin ns).cal hr (by decide) hg) (dsp0)) tk_of (mac (mv 3) (man)))) (pss_cons (msif (mtc (o_ne hu) (mcb (k_repr hg hu) rfl (f_repr c kin ns) (by decide +kernel) (mac (mv 6) (man))) (mcb (k_repr hg hu) rfl (f_repr c kin ns) (by decide +kernel) (mac (mv 4) (man)))) (pss_one (msr (mb))) (pss_nil)) (pss_cons (msx (pe_bm PySem.F.plainAttrs_list PySem.F.slot_list_append PySem.F.type_list_append t_app (mv 6) (mac (mv 3) (man)))) (pss_one (msif (mtc (o_ne hu) (mcb (k_repr hg hu) rfl (f_repr c kin ns) (by decide +kernel) (mac (mmeth (mv 0) (dsp1 (He.cls_ok (fa_cls_Tour c)) (He.meth_ok (fa_meth_Tour_beneath c)) ((ok_Tour_beneath c kin ns).cal hr (by decide) hg) (dsp0)) tk_of (mac (mv 3) (man))) (man))) (mcb (k_repr hg hu) rfl (f_repr c kin ns) (by decide +kernel) (mac (mv 4) (man)))) (pss_one (msr (mb))) (pss_nil))))))))) (pss_one (msr (mb)))
theorem ok_L_told (c : SaysM fa fn xa K) (kin : K.In base) (ns : base.Ns mainGlobals mg) : OkG P w K mg base 9 (He.ga K "_law_told") ["_law_tour", "_law_way", "_law_one", "_law_other"] (sp_L_told K) := by
  refine OkG.of (t := t_L_told K) (n := 4) (m := 2) (c.def_ 33 (d := dd_L_told) rfl) sc_L_told (fun _ _ _ _ _ _ us hl => match us, hl with | [_, _, _, _], _ => rfl) rfl rfl (fun vs H Q E z => by unfold sp_L_told at z; exact z) ?_
  intro cdv A outer s H E hr hg
  have hu := hr.units
  have hu2 := units65 hr
  exact pss_cons (mset (i := 4) sc_L_told.nd rfl (by first | exact Or.inl rfl | exact Or.inr rfl) (mtup (mac (ms) (mac (mn) (man))))) (pss_cons (mtry_as rfl rfl sc_L_told.nd rfl rfl ⟨rfl, by decide +kernel, .inl (g_MakesError c kin ns)⟩ tk_of (xt1 (He.exm_ok (fa_exm_NoMake_MakesError_True c)) (xt1 (He.exm_ok (fa_exm_NoMark_MakesError_True c)) (xt1 (He.exm_ok (fa_exm_TooMany_MakesError_True c)) (xt0)))) (fun W1 pn1 xe1 tk1 hp1 => pss_one (msx (pe_cg ((ok_L_call c kin ns).cal hr (by decide) hg) (g_L_call c kin ns) (k_L_call c kin ns) rfl tk1 (mac (mv 0) (mac (mv 1) (mac (mv 2) (mac (mv 3) (man)))))))) (fun a1 oe1 cls1 d1 pn1 hz1 hf1 => pss_cons (mset (i := 4) sc_L_told.nd rfl (by first | exact Or.inl rfl | exact Or.inr rfl) (mtup (mac (ms) (mac (mcb (k_isEB (T := "ValueError") (tbl := [((He.ga K "NoMake"), true), ((He.ga K "NoMark"), true), ((He.ga K "TooMany"), true)]) (iq1 ⟨exk_ok (xa_exk_NoMake c), kitt_ok (xa_kitt_NoMake_ValueError_True c)⟩ (iq1 ⟨exk_ok (xa_exk_NoMark c), kitt_ok (xa_kitt_NoMark_ValueError_True c)⟩ (iq1 ⟨exk_ok (xa_exk_TooMany c), kitt_ok (xa_kitt_TooMany_ValueError_True c)⟩ (iq0)))) hz1 hf1) rfl (f_isinstance c kin ns) (by decide +kernel) (mac (mv 5) (mac (mc (pe_bltn rfl (f_ValueError c kin ns) (by decide +kernel) rfl)) man))) (man))))) (pss_one (msif (PW.pt (ma2 (mtv (mcb (k_isE (D := (He.ga K "NoMake")) (tbl := [((He.ga K "NoMake"), true), ((He.ga K "NoMark"), false), ((He.ga K "TooMany"), false)]) (ie1 ⟨exk_ok (xa_exk_NoMake c), kit_ok (xa_kit_NoMake_NoMake_True c)⟩ (ie1 ⟨exk_ok (xa_exk_NoMark c), kit_ok (xa_kit_NoMark_NoMake_False c)⟩ (ie1 ⟨exk_ok (xa_exk_TooMany c), kit_ok (xa_kit_TooMany_NoMake_False c)⟩ (ie0)))) hz1 hf1) rfl (f_isinstance c kin ns) (by decide +kernel) (mac (mv 5) (mac (mcls rfl (g_NoMake c kin ns)) man)))) (ma1 (mtn (mtv (mcb (k_isE (D := (He.ga K "TooMany")) (tbl := [((He.ga K "NoMake"), false), ((He.ga K "NoMark"), false), ((He.ga K "TooMany"), true)]) (ie1 ⟨exk_ok (xa_exk_NoMake c), kit_ok (xa_kit_NoMake_TooMany_False c)⟩ (ie1 ⟨exk_ok (xa_exk_NoMark c), kit_ok (xa_kit_NoMark_TooMany_False c)⟩ (ie1 ⟨exk_ok (xa_exk_TooMany c), kit_ok (xa_kit_TooMany_TooMany_True c)⟩ (ie0)))) hz1 hf1) rfl (f_isinstance c kin ns) (by decide +kernel) (mac (mv 5) (mac (mcls rfl (g_TooMany c kin ns)) man)))))))) (pss_one (mset (i := 4) sc_L_told.nd rfl (by first | exact Or.inl rfl | exact Or.inr rfl) (mtup (mac (ms) (mac (mxf (clc ⟨xfc_ok (xa_xfc_NoMake c), He.noat_ok (fa_noat_NoMake_found c)⟩ (clc ⟨xfc_ok (xa_xfc_NoMark c), He.noat_ok (fa_noat_NoMark_found c)⟩ (cl0))) hz1 hf1 (mv 5)) (man)))))) (pss_one (msif (PW.pt (ma2 (mtv (mcb (k_isE (D := (He.ga K "TooMany")) (tbl := [((He.ga K "NoMake"), false), ((He.ga K "NoMark"), false), ((He.ga K "TooMany"), true)]) (ie1 ⟨exk_ok (xa_exk_NoMake c), kit_ok (xa_kit_NoMake_TooMany_False c)⟩ (ie1 ⟨exk_ok (xa_exk_NoMark c), kit_ok (xa_kit_NoMark_TooMany_False c)⟩ (ie1 ⟨exk_ok (xa_exk_TooMany c), kit_ok (xa_kit_TooMany_TooMany_True c)⟩ (ie0)))) hz1 hf1) rfl (f_isinstance c kin ns) (by decide +kernel) (mac (mv 5) (mac (mcls rfl (g_TooMany c kin ns)) man)))) (ma1 (mtn (mtv (mcb (k_isE (D := (He.ga K "NoMake")) (tbl := [((He.ga K "NoMake"), true), ((He.ga K "NoMark"), false), ((He.ga K "TooMany"), false)]) (ie1 ⟨exk_ok (xa_exk_NoMake c), kit_ok (xa_kit_NoMake_NoMake_True c)⟩ (ie1 ⟨exk_ok (xa_exk_NoMark c), kit_ok (xa_kit_NoMark_NoMake_False c)⟩ (ie1 ⟨exk_ok (xa_exk_TooMany c), kit_ok (xa_kit_TooMany_NoMake_False c)⟩ (ie0)))) hz1 hf1) rfl (f_isinstance c kin ns) (by decide +kernel) (mac (mv 5) (mac (mcls rfl (g_NoMake c kin ns)) man)))))))) (pss_one (mset (i := 4) sc_L_told.nd rfl (by first | exact Or.inl rfl | exact Or.inr rfl) (mtup (mac (ms) (mac (mxf (clc ⟨xfc_ok (xa_xfc_TooMany c), He.noat_ok (fa_noat_TooMany_count c)⟩ (cl0)) hz1 hf1 (mv 5)) (man)))))) (pss_nil))))))) (pss_one (msr (mv 4))))
theorem ok_L_refused_right (c : SaysM fa fn xa K) (kin : K.In base) (ns : base.Ns mainGlobals mg) : OkG P w K mg base 10 (He.ga K "_law_refused_right") ["_law_box_here", "_law_tour", "_law_many"] (sp_L_refused_right K) := by
  refine OkG.of (t := t_L_refused_right K) (n := 3) (m := 8) (c.def_ 34 (d := dd_L_refused_right) rfl) sc_L_refused_right (fun _ _ _ _ _ _ us hl => match us, hl with | [_, _, _], _ => rfl) rfl rfl (fun vs H Q E z => by unfold sp_L_refused_right at z; exact z) ?_
  intro cdv A outer s H E hr hg
  have hu := hr.units
  have hu2 := units65 hr
  exact pss_cons (mset (i := 3) sc_L_refused_right.nd rfl (by first | exact Or.inl rfl | exact Or.inr rfl) (pe_cg ((ok_L_take c kin ns).cal hr (by decide) hg) (g_L_take c kin ns) (k_L_take c kin ns) rfl tk_of (mac (mv 0) (mac (mi) (man))))) (pss_cons (mset (i := 4) sc_L_refused_right.nd rfl (by first | exact Or.inl rfl | exact Or.inr rfl) (pe_cg ((ok_L_take c kin ns).cal hr (by decide) hg) (g_L_take c kin ns) (k_L_take c kin ns) rfl tk_of (mac (mv 0) (mac (mi) (man))))) (pss_cons (mpar rfl sc_L_refused_right.nd rfl rfl (by decide) rfl rfl (mac (pe_cg ((ok_L_odd c kin ns).cal hr (by decide) hg) (g_L_odd c kin ns) (k_L_odd c kin ns) rfl tk_of (mac (mv 0) (mac (mv 1) (mac (mv 2) (man))))) (mac (pe_cg ((ok_L_odd c kin ns).cal hr (by decide) hg) (g_L_odd c kin ns) (k_L_odd c kin ns) rfl tk_of (mac (mv 0) (mac (mv 1) (mac (mv 2) (man))))) (man)))) (pss_cons (mset (i := 7) sc_L_refused_right.nd rfl (by first | exact Or.inl rfl | exact Or.inr rfl) (pe_cg ((ok_L_take c kin ns).cal hr (by decide) hg) (g_L_take c kin ns) (k_L_take c kin ns) rfl tk_of (mac (mv 0) (mac (mv 2) (man))))) (pss_cons (mset (i := 8) sc_L_refused_right.nd rfl (by first | exact Or.inl rfl | exact Or.inr rfl) (mv 5)) (pss_cons (mset (i := 9) sc_L_refused_right.nd rfl (by first | exact Or.inl rfl | exact Or.inr rfl) (mix hu (mlst (mac (mtup (mac (mv 5) (mac (mv 7) (man)))) (mac (mtup (mac (mv 5) (mac (mv 6) (man)))) (mac (mtup (mac (mv 7) (mac (mv 6) (man)))) (man))))) (mv 4))) (pss_cons (msif (mtc (o_eq hu) (mv 4) (mi)) (pss_cons (mset (i := 3) sc_L_refused_right.nd rfl (by first | exact Or.inl rfl | exact Or.inr rfl) (mi)) (pss_one (mset (i := 8) sc_L_refused_right.nd rfl (by first | exact Or.inl rfl | exact Or.inr rfl) (mv 6)))) (pss_nil)) (pss_cons (mset (i := 10) sc_L_refused_right.nd rfl (by first | exact Or.inl rfl | exact Or.inr rfl) (pe_cg ((ok_L_told c kin ns).cal hr (by decide) hg) (g_L_told c kin ns) (k_L_told c kin ns) rfl tk_of (mac (mv 1) (mac (mv 3) (mac (mix hu (mv 9) (mi)) (mac (mix hu (mv 9) (mi)) (man))))))) (pss_cons (msif (PW.pt (mo2 (mtc (o_ne hu) (mix hu (mv 10) (mi)) (ms)) (mo2 (mtc (o_neS hu (oeqs_cons (oeq_ok (xa_oeq_Order c)) (oeqs_cons (oeq_ok (xa_oeq_Tour c)) (oeqs_nil)))) (mix hu (mv 10) (mi)) (mv 8)) (mo1 (mtc (o_ne hu) (mcb (k_isi (T := .bool) (tb := [(He.ga K "Order"), (He.ga K "Tour")]) (fun z => by cases z) (it1 ⟨He.cls_ok (fa_cls_Order c), isc_ok (xa_isc_Order c), no1 (kitt_ok (xa_kitt_Order_bool_False c)) (no0)⟩ (it1 ⟨He.cls_ok (fa_cls_Tour c), isc_ok (xa_isc_Tour c), no1 (kitt_ok (xa_kitt_Tour_bool_False c)) (no0)⟩ (it0)))) rfl (f_isinstance c kin ns) (by decide +kernel) (mac (mix hu (mv 10) (mi)) (mac (mc (pe_bltn rfl (f_bool c kin ns) (by decide +kernel) rfl)) man))) (mcb (k_isi (T := .bool) (tb := [(He.ga K "Order"), (He.ga K "Tour")]) (fun z => by cases z) (it1 ⟨He.cls_ok (fa_cls_Order c), isc_ok (xa_isc_Order c), no1 (kitt_ok (xa_kitt_Order_bool_False c)) (no0)⟩ (it1 ⟨He.cls_ok (fa_cls_Tour c), isc_ok (xa_isc_Tour c), no1 (kitt_ok (xa_kitt_Tour_bool_False c)) (no0)⟩ (it0)))) rfl (f_isinstance c kin ns) (by decide +kernel) (mac (mv 8) (mac (mc (pe_bltn rfl (f_bool c kin ns) (by decide +kernel) rfl)) man)))))))) (pss_one (msr (mb))) (pss_nil)) (pss_one (msr (mea (mcmp (o_eq hu) (mmeth0 (mv 1) (dsp1 (He.cls_ok (fa_cls_Order c)) (He.meth_ok (fa_meth_Order_many c)) ((ok_Order_many c kin ns).cal hr (by decide) hg) (dsp1 (He.cls_ok (fa_cls_Tour c)) (He.meth_ok (fa_meth_Tour_many c)) ((ok_Tour_many c kin ns).cal hr (by decide) hg) (dsp0))) tk_of) (mv 2)) (me1 (mcmp (o_eq hu) (mcb k_len rfl (f_len c kin ns) (by decide +kernel) (mac (mmeth0 (mv 1) (dsp1 (He.cls_ok (fa_cls_Tour c)) (He.meth_ok (fa_meth_Tour_coming c)) ((ok_Tour_coming c kin ns).cal hr (by decide) hg) (dsp0)) tk_of) (man))) (mv 2))))))))))))))
theorem ok_L_full_right (c : SaysM fa fn xa K) (kin : K.In base) (ns : base.Ns mainGlobals mg) : OkG P w K mg base 10 (He.ga K "_law_full_right") [] (sp_L_full_right K) := by
  refine OkG.of (t := t_L_full_right K) (n := 0) (m := 3) (c.def_ 35 (d := dd_L_full_right) rfl) sc_L_full_right (fun _ _ _ _ _ _ us hl => match us, hl with | [], _ => rfl) rfl rfl (fun vs H Q E z => by unfold sp_L_full_right at z; exact z) ?_
  intro cdv A outer s H E hr hg
  have hu := hr.units
  have hu2 := units65 hr
  exact pss_cons (mset (i := 0) sc_L_full_right.nd rfl (by first | exact Or.inl rfl | exact Or.inr rfl) (pe_mk0 (He.mkr_ok (fa_mkr_Tour c)) ((ok_Tour_init c kin ns).calM hr (by decide) hg) (g_Tour c kin ns) rfl tk_of)) (pss_cons (mfor hp_of rfl (mr1 rfl (f_range c kin ns) (mac (mi) (man))) (mgn sc_L_full_right.nd rfl (by first | exact Or.inl rfl | exact Or.inr rfl)) (pss_one (msx (mmeth (mv 0) (dsp1 (He.cls_ok (fa_cls_Tour c)) (He.meth_ok (fa_meth_Tour_grow c)) ((ok_Tour_grow c kin ns).cal hr (by decide) hg) (dsp0)) tk_of (mac (mbin o_div (mv 1) (mi)) (man)))))) (pss_cons (mset (i := 2) sc_L_full_right.nd rfl (by first | exact Or.inl rfl | exact Or.inr rfl) (mlst (mac (mmeth0 (mmeth0 (mv 0) (dsp1 (He.cls_ok (fa_cls_Tour c)) (He.meth_ok (fa_meth_Tour_order c)) ((ok_Tour_order c kin ns).cal hr (by decide) hg) (dsp0)) tk_of) (dsp1 (He.cls_ok (fa_cls_Order c)) (He.meth_ok (fa_meth_Order_marks c)) ((ok_Order_marks c kin ns).cal hr (by decide) hg) (dsp0)) tk_of) (mac (mmeth0 (mv 0) (dsp1 (He.cls_ok (fa_cls_Tour c)) (He.meth_ok (fa_meth_Tour_coming c)) ((ok_Tour_coming c kin ns).cal hr (by decide) hg) (dsp0)) tk_of) (mac (mmeth0 (mv 0) (dsp1 (He.cls_ok (fa_cls_Tour c)) (He.meth_ok (fa_meth_Tour_leaving c)) ((ok_Tour_leaving c kin ns).cal hr (by decide) hg) (dsp0)) tk_of) (mac (mmeth0 (mmeth0 (mv 0) (dsp1 (He.cls_ok (fa_cls_Tour c)) (He.meth_ok (fa_meth_Tour_order c)) ((ok_Tour_order c kin ns).cal hr (by decide) hg) (dsp0)) tk_of) (dsp1 (He.cls_ok (fa_cls_Order c)) (He.meth_ok (fa_meth_Order_anew c)) ((ok_Order_anew c kin ns).cal hr (by decide) hg) (dsp0)) tk_of) (man))))))) (pss_cons (msif (PW.pt (mo2 (mtc (o_ne hu) (pe_cg ((ok_L_told c kin ns).cal hr (by decide) hg) (g_L_told c kin ns) (k_L_told c kin ns) rfl tk_of (mac (mv 0) (mac (mi) (mac (mi) (mac (mi) (man)))))) (mtup (mac (ms) (mac (mi) (man))))) (mo1 (mtc (o_ne hu) (pe_cg ((ok_L_told c kin ns).cal hr (by decide) hg) (g_L_told c kin ns) (k_L_told c kin ns) rfl tk_of (mac (mv 0) (mac (mi) (mac (mi) (mac (mi) (man)))))) (mtup (mac (ms) (mac (mi) (man)))))))) (pss_one (msr (mb))) (pss_nil)) (pss_cons (msif (mtc (o_ne hu) (mv 2) (mlst (mac (mmeth0 (mmeth0 (mv 0) (dsp1 (He.cls_ok (fa_cls_Tour c)) (He.meth_ok (fa_meth_Tour_order c)) ((ok_Tour_order c kin ns).cal hr (by decide) hg) (dsp0)) tk_of) (dsp1 (He.cls_ok (fa_cls_Order c)) (He.meth_ok (fa_meth_Order_marks c)) ((ok_Order_marks c kin ns).cal hr (by decide) hg) (dsp0)) tk_of) (mac (mmeth0 (mv 0) (dsp1 (He.cls_ok (fa_cls_Tour c)) (He.meth_ok (fa_meth_Tour_coming c)) ((ok_Tour_coming c kin ns).cal hr (by decide) hg) (dsp0)) tk_of) (mac (mmeth0 (mv 0) (dsp1 (He.cls_ok (fa_cls_Tour c)) (He.meth_ok (fa_meth_Tour_leaving c)) ((ok_Tour_leaving c kin ns).cal hr (by decide) hg) (dsp0)) tk_of) (mac (mmeth0 (mmeth0 (mv 0) (dsp1 (He.cls_ok (fa_cls_Tour c)) (He.meth_ok (fa_meth_Tour_order c)) ((ok_Tour_order c kin ns).cal hr (by decide) hg) (dsp0)) tk_of) (dsp1 (He.cls_ok (fa_cls_Order c)) (He.meth_ok (fa_meth_Order_anew c)) ((ok_Order_anew c kin ns).cal hr (by decide) hg) (dsp0)) tk_of) (man))))))) (pss_one (msr (mb))) (pss_nil)) (pss_one (msr (mea (mcmp (o_eq hu) (mmeth0 (mv 0) (dsp1 (He.cls_ok (fa_cls_Tour c)) (He.meth_ok (fa_meth_Tour_many c)) ((ok_Tour_many c kin ns).cal hr (by decide) hg) (dsp0)) tk_of) (mi)) (me1 (mcmp (o_eq hu) (pe_cg ((ok_L_told c kin ns).cal hr (by decide) hg) (g_L_told c kin ns) (k_L_told c kin ns) rfl tk_of (mac (mv 0) (mac (mi) (mac (mn) (mac (mi) (man)))))) (mtup (mac (ms) (mac (mn) (man)))))))))))))
theorem fnG_law (c : SaysM fa fn xa K) (kin : K.In base) (ns : base.Ns mainGlobals mg) {fd : FuncData} (F : FunD K "law" "law" (defArgs s_law) (defBody s_law) (defScope s_law) [] [] (He.ga K "law") fd) : FnG P w K mg base 11 (He.ga K "law") fd ["_law_script"] (sp_law K) := by
  refine FnG.of F sc_law (fun vs H Q E z => by unfold sp_law at z; exact z.1) ?_
  intro cdv A outer s H vs Q E hr hg z
  unfold sp_law at z
  have hu := hr.units
  have hu2 := units65 hr
  exact ⟨t_law K (wE E), pss_cons (mset (i := 1) sc_law.nd rfl (by first | exact Or.inl rfl | exact Or.inr rfl) (pe_mk0 (He.mkr_ok (fa_mkr_Tour c)) ((ok_Tour_init c kin ns).calM hr (by decide) hg) (g_Tour c kin ns) rfl tk_of)) (pss_cons (mset (i := 2) sc_law.nd rfl (by first | exact Or.inl rfl | exact Or.inr rfl) (mlst (mac (mn) (man)))) (pss_cons (mset (i := 3) sc_law.nd rfl (by first | exact Or.inl rfl | exact Or.inr rfl) (mlst (mac (mi) (man)))) (pss_cons (mfor hp_of rfl (mr1 rfl (f_range c kin ns) (mac (mcb (k_max rfl) rfl (f_max c kin ns) (by decide +kernel) (mac (mi) (mac (mcb (k_min rfl) rfl (f_min c kin ns) (by decide +kernel) (mac (mi) (mac (mcb k_len rfl (f_len c kin ns) (by decide +kernel) (mac (mv 0) (man))) (man)))) (man)))) (man))) (mgn sc_law.nd rfl (by first | exact Or.inl rfl | exact Or.inr rfl)) (pss_cons (mset (i := 5) sc_law.nd rfl (by first | exact Or.inl rfl | exact Or.inr rfl) (pe_cg ((ok_L_box c kin ns).cal hr (by decide) hg) (g_L_box c kin ns) (k_L_box c kin ns) rfl tk_of (mac (pe_cg ((ok_L_cell_at c kin ns).cal hr (by decide) hg) (g_L_cell_at c kin ns) (k_L_cell_at c kin ns) rfl tk_of (mac (mv 0) (mac (mv 4) (man)))) (man)))) (pss_cons (mset (i := 6) sc_law.nd rfl (by first | exact Or.inl rfl | exact Or.inr rfl) (mix hu (mlst (mac (pe_cg ((ok_L_take c kin ns).cal hr (by decide) hg) (g_L_take c kin ns) (k_L_take c kin ns) rfl tk_of (mac (mv 5) (mac (mcb k_len rfl (f_len c kin ns) (by decide +kernel) (mac (mv 2) (man))) (man)))) (mac (mi) (mac (mbin o_sub (mcb k_len rfl (f_len c kin ns) (by decide +kernel) (mac (mv 2) (man))) (mi)) (man))))) (pe_cg ((ok_L_take c kin ns).cal hr (by decide) hg) (g_L_take c kin ns) (k_L_take c kin ns) rfl tk_of (mac (mv 5) (mac (mi) (man)))))) (pss_cons (msx (pe_bm PySem.F.plainAttrs_list PySem.F.slot_list_insert PySem.F.type_list_insert t_ins (mv 3) (mac (mbin o_add (pe_bm PySem.F.plainAttrs_list PySem.F.slot_list_index PySem.F.type_list_index t_idx (mv 3) (mac (mv 6) (man))) (mi)) (mac (mmeth (mv 1) (dsp1 (He.cls_ok (fa_cls_Tour c)) (He.meth_ok (fa_meth_Tour_grow c)) ((ok_Tour_grow c kin ns).cal hr (by decide) hg) (dsp0)) tk_of (mac (mv 6) (man))) (man))))) (pss_cons (msx (pe_bm PySem.F.plainAttrs_list PySem.F.slot_list_append PySem.F.type_list_append t_app (mv 2) (mac (mv 6) (man)))) (pss_one (msif (PW.pt (mo2 (mtc (o_ne hu) (mix hu (mv 3) (mbin o_add (pe_bm PySem.F.plainAttrs_list PySem.F.slot_list_index PySem.F.type_list_index t_idx (mv 3) (mac (mv 6) (man))) (mi))) (mbin o_sub (mcb k_len rfl (f_len c kin ns) (by decide +kernel) (mac (mv 2) (man))) (mi))) (mo1 (mtn (mtv (pe_cg ((ok_L_refused_right c kin ns).cal hr (by decide) hg) (g_L_refused_right c kin ns) (k_L_refused_right c kin ns) rfl tk_of (mac (mv 5) (mac (mv 1) (mac (mcb k_len rfl (f_len c kin ns) (by decide +kernel) (mac (mv 2) (man))) (man)))))))))) (pss_one (msr (mb))) (pss_nil)))))))) (pss_cons (msif (mtn (mtv (pe_cg ((ok_L_pairs_right c kin ns).cal hr (by decide) hg) (g_L_pairs_right c kin ns) (k_L_pairs_right c kin ns) rfl tk_of (mac (mv 1) (mac (mv 2) (mac (mv 3) (man))))))) (pss_one (msr (mb))) (pss_nil)) (pss_one (msr (meo (mcmp (o_ne hu) (mbin o_mod (pe_cg ((ok_L_cell_at c kin ns).cal hr (by decide) hg) (g_L_cell_at c kin ns) (k_L_cell_at c kin ns) rfl tk_of (mac (mv 0) (mac (mi) (man)))) (mi)) (mi)) (me1 (pe_cg0 ((ok_L_full_right c kin ns).cal hr (by decide) hg) (g_L_full_right c kin ns) (k_L_full_right c kin ns) rfl tk_of))))))))), by rw [st0_eq (n := 1) (m := 6) z.1 rfl]; exact z.2⟩
end
end Lawk17
local macro_rules | `(tactic| walk_at "w") => `(tactic| conv => whnf)
local macro_rules | `(tactic| walk_at "pk") => `(tactic| first | assumption | exact MK.Star.p1 (by assumption) | exact MK.Star.p2 (by assumption) | exact MK.Star.p3 (by assumption) | exact MK.Star.p4 (by assumption) | exact MK.Star.p5 (by assumption) | exact MK.Star.p6 (by assumption) | exact MK.Star.p7 (by assumption) | exact MK.Star.p8 (by assumption) | exact MK.Star.p9 (by assumption))
local macro_rules | `(tactic| walk_at "sd") => `(tactic| first | exact MK.mul1 (by omega) | exact MK.mul2 (by omega) | exact MK.div1 (by omega) | exact MK.pow1 (by omega) | exact MK.rng1 (by omega) | exact MK.sz1 (Nat.le_of_ble_eq_true rfl) | exact MK.Star.getF (by walk_at "pk") | exact MK.Star.get (by walk_at "pk") | exact MK.tyv_l (MK.Star.get (by walk_at "pk")) | assumption | omega | rfl | decide)
local macro_rules | `(tactic| walk_at "ix") => `(tactic| first
  | (refine' MK.ix_l ?hk ?he ?_; (case hk => exact MK.Star.get (by walk_at "pk")); (case he => rfl))
  | (refine' MK.ix_t ?hk ?he ?_; (case hk => exact MK.Star.getF (by walk_at "pk")); (case he => rfl))
  | (refine' MK.Star.ix_sq ?hk ?he ?_; (case hk => walk_at "pk"); (case he => rfl)))
local macro_rules | `(tactic| walk_at "len") => `(tactic| first
  | (refine' MK.len_l ?hk ?_; (case hk => exact MK.Star.get (by walk_at "pk")))
  | (refine' MK.len_t ?hk ?_; (case hk => exact MK.Star.getF (by walk_at "pk")))
  | (refine' MK.len_q ?hk ?_; (case hk => exact MK.Star.getS (by walk_at "pk")))
  | (refine' MK.Star.len_sq ?hk ?_; (case hk => walk_at "pk")))
local macro_rules | `(tactic| walk_at "isi") => `(tactic| first
  | (refine' MK.isi_l ?hk ?_; (case hk => exact MK.Star.get (by walk_at "pk")))
  | (refine' MK.isi_t ?hk ?_; (case hk => exact MK.Star.getF (by walk_at "pk")))
  | (refine' MK.isi_d ?hk ?_; (case hk => exact MK.Star.get (by walk_at "pk")))
  | (refine' MK.Star.isi_sq2 ?hk ?_; (case hk => walk_at "pk")))
local macro_rules | `(tactic| walk_at "mem") => `(tactic| first | exact List.mem_cons_self | exact List.mem_cons_of_mem _ List.mem_cons_self | exact List.mem_cons_of_mem _ (List.mem_cons_of_mem _ List.mem_cons_self))
local macro_rules | `(tactic| walk_at "fld") => `(tactic| (refine' MK.fld_i ?hk ?hc ?hl ?_; (case hk => exact MK.Star.get (by walk_at "pk")); (case hc => walk_at "mem"); (case hl => first | rfl | decide +kernel)))
local macro_rules | `(tactic| walk_at "dsp") => `(tactic| (refine' MK.dsp_i ?hk ?hm ?hl ?_; (case hk => exact MK.Star.get (by walk_at "pk")); (case hm => walk_at "mem"); (case hl => first | rfl | decide +kernel)))
local macro_rules | `(tactic| walk_at "go1") => `(tactic| first | walk_at "fld" | walk_at "dsp" | walk_at "ix" | walk_at "len" | walk_at "isi" | (refine And.intro (by walk_at "sd") ?_))
local macro_rules | `(tactic| walk_at "go") => `(tactic| ((conv => whnf); repeat (walk_at "go1"; (conv => whnf))))
local macro_rules | `(tactic| walk_at "fr") => `(tactic| repeat (first | exact MK.Fr.refl _ | exact MK.Fr.nil _ | apply MK.Fr.c0 | apply MK.Fr.c1 | apply MK.Fr.c2 | apply MK.Fr.c3 | apply MK.Fr.c4 | apply MK.Fr.c5 | apply MK.Fr.c6 | apply MK.Fr.c7 | apply MK.Fr.c8 | apply MK.Fr.c9 | apply MK.Fr.ca | apply MK.Fr.cb | apply MK.Fr.tup | apply MK.Fr.lst | apply MK.Fr.dct | apply MK.Fr.int | apply MK.Fr.bl | apply MK.Fr.non | apply MK.Fr.str | apply MK.Fr.ds0 | apply MK.Fr.dsc | apply MK.Fr.drop))
local macro_rules | `(tactic| walk_at "tn") => `(tactic| (simp only [MK.isB, Bool.not_true, Bool.not_false, cond_true, cond_false]; refine (fun h => h : ∀ {D : L2.Ends} {σ : L2.St} {H : L2.Hp}, D.nx σ H → L2.tNext D σ H) ?_; dsimp only))
local macro_rules | `(tactic| walk_at "mm") => `(tactic| repeat (first | exact List.mem_cons_self | apply List.mem_cons_of_mem))
local macro_rules | `(tactic| walk_at "mw") => `(tactic| (intro w; cases w <;> walk_at "mm"))
namespace Lawk17
open PySem PySem.Spec PyProof.Rows L2 MK
abbrev nV (k : Nat) : V := .int (k : Int)
theorem atI_n {α : Type} {xs : List α} {i : Nat} {x : α} (h : xs[i]? = some x) : atI xs (i : Int) = some x := atI_nat h
end Lawk17

namespace Lawk17
open PySem PySem.Spec PyProof.Rows L2 MK
def wholeD (d : PyData) (lo hi : Int) : Bool := match d with
  | .int i => decide (lo ≤ i) && decide (i ≤ hi)
  | _ => false
theorem wholeD_int (i lo hi : Int) : wholeD (.int i) lo hi = (decide (lo ≤ i) && decide (i ≤ hi)) := rfl
theorem is_whole_ok {K : PySem.W.Frag} {F : List SP} {H : Hp} {v : V} {d : PyData} {lo hi : Int} {Q : VK} {E : XK} (S : Star H (dat v d :: F)) (k : Q (.bl (wholeD d lo hi)) H) : sp_is_whole K [v, .int lo, .int hi] H Q E := by
  refine sp_is_whole_i ?_
  cases d with
  | none =>
    obtain ⟨rfl, S⟩ := dat_n.mp S
    walk_at "go"
    exact k
  | bool b =>
    obtain ⟨rfl, S⟩ := dat_b.mp S
    walk_at "go"
    exact k
  | int i =>
    obtain ⟨rfl, S⟩ := dat_i.mp S
    walk_at "go"
    refine br (fun h => ?_) (fun h => ?_)
    · walk_at "go"
      rw [wholeD_int, h, Bool.true_and] at k
      exact k
    · rw [wholeD_int, h, Bool.false_and] at k
      exact k
  | str x =>
    obtain ⟨rfl, S⟩ := dat_s.mp S
    walk_at "go"
    exact k
  | list ds =>
    obtain ⟨a, xs, rfl, S⟩ := dat_l.mp S
    walk_at "go"
    exact k
  | tuple ds =>
    obtain ⟨a, xs, rfl, S⟩ := dat_t.mp S
    walk_at "go"
    exact k
  | dict kvs =>
    obtain ⟨a, ks, rfl, S⟩ := dat_k.mp S
    walk_at "go"
    exact k
end Lawk17
namespace Lawk17
open PySem PySem.Spec PyProof.Rows L2 MK
end Lawk17

namespace Lawk17
open PySem PySem.Spec PyProof.Rows L2 MK
def bxk (a b c : Int) : List (Key × V) := [(.inr "left", .int a), (.inr "seed", .int b), (.inr "turn", .int c)]
/-- a box that is good for n draws more -/
def box2 (q : Addr) (n : Nat) : SP := ex fun a : Int => ex fun b : Int => ex fun c : Int => sep [pr ((0 ≤ b ∧ b < 2147483647) ∧ 0 ≤ c ∧ c + (n : Int) ≤ 1000000000), pt q (.dK (bxk a b c))]
theorem box2_iff {H : Hp} {q : Addr} {n : Nat} {F : List SP} : Star H (box2 q n :: F) ↔ ∃ a b c : Int, ((0 ≤ b ∧ b < 2147483647) ∧ 0 ≤ c ∧ c + (n : Int) ≤ 1000000000) ∧ Star H (pt q (.dK (bxk a b c)) :: F) := by
  unfold box2
  simp only [Star.ex_iff, Star.sep_iff, List.cons_append, List.nil_append, Star.pr_iff]
theorem bxk_left (a b c : Int) : valV (bxk a b c) (.inr "left") = some (.int a) := rfl
theorem bxk_seed (a b c : Int) : valV (bxk a b c) (.inr "seed") = some (.int b) := rfl
theorem bxk_turn (a b c : Int) : valV (bxk a b c) (.inr "turn") = some (.int c) := rfl
theorem bxk_putl (a b c d : Int) : putK (bxk a b c) (.inr "left") (.int d) = bxk d b c := rfl
theorem bxk_putt (a b c d : Int) : putK (bxk a b c) (.inr "turn") (.int d) = bxk a b d := rfl
theorem take2_ok {K : PySem.W.Frag} {q : Addr} {F : List SP} {H : Hp} {m : Int} {n : Nat} {Q : VK} {E : XK} (S : Star H (box2 q (n + 1) :: F)) (hm : 0 < m ∧ m < 18446744073709551616) (k : ∀ H' (d : Nat), (d : Int) < m → Star H' (box2 q n :: F) → Q (.int (d : Nat)) H') :
    sp_L_take K [.ref q, .int m] H Q E := by
  obtain ⟨a, b, c, ⟨hb, hc, hn⟩, S⟩ := box2_iff.mp S
  have fin : ∀ {H' : Hp} {z a c : Int}, 0 ≤ c → c + (n : Int) ≤ 1000000000 → Star H' (pt q (.dK (bxk a b c)) :: F) → Q (.int (z % m)) H' := fun {H' z a c} hc hn S => by
    have h0 := Int.emod_nonneg z (show m ≠ 0 by omega)
    obtain ⟨d, hd⟩ := Int.eq_ofNat_of_zero_le h0
    rw [hd]
    exact k H' d (by rw [← hd]; exact Int.emod_lt_of_pos _ hm.1) (box2_iff.mpr ⟨_, _, _, ⟨hb, hc, hn⟩, S⟩)
  refine sp_L_take_i ?_
  walk_at "go"
  refine ixd_s S.get (bxk_left a b c) ?_
  walk_at "go"
  refine brd (fun h => ?_) (fun h => ?_)
  · walk_at "go"
    refine ixd_s S.get (bxk_left a b c) ?_
    walk_at "go"
    refine ixd_s S.get (bxk_left a b c) ?_
    walk_at "go"
    refine setd_s S (show 3 < 16777216 by decide) fun H1 S => ?_
    rw [bxk_putl] at S
    walk_at "go"
    exact fin hc (by omega) S
  · walk_at "go"
    refine ixd_s S.get (bxk_turn a b c) ?_
    walk_at "go"
    refine setd_s S (show 3 < 16777216 by decide) fun H1 S => ?_
    rw [bxk_putt] at S
    obtain ⟨c1, hc1⟩ : ∃ c1, c1 = c + 1 := ⟨_, rfl⟩
    rw [← hc1] at S
    walk_at "go"
    refine ixd_s S.get (bxk_seed a b c1) ?_
    walk_at "go"
    refine ixd_s S.get (bxk_turn a b c1) ?_
    walk_at "go"
    have h0 := Int.emod_nonneg ((b + 7919 * c1) ^ (3 : Int).toNat) (show (2147483629 : Int) ≠ 0 by decide)
    have h1 := Int.emod_lt_of_pos ((b + 7919 * c1) ^ (3 : Int).toNat) (show (0 : Int) < 2147483629 by decide)
    obtain ⟨y, hy⟩ : ∃ y, y = (b + 7919 * c1) ^ (3 : Int).toNat % 2147483629 := ⟨_, rfl⟩
    rw [← hy] at h0 h1
    first
      | rw [← hy]
      | skip
    refine ixd_s S.get (bxk_turn a b c1) ?_
    walk_at "go"
    exact fin (by omega) (by omega) S
theorem box2_ok {K : PySem.W.Frag} {F : List SP} {H : Hp} {z : Int} {Q : VK} {E : XK} (n : Nat) (hn : n ≤ 1000000000) (S : Star H F) (k : ∀ H' q, Star H' (box2 q n :: F) → Q (.ref q) H') : sp_L_box K [.int z] H Q E := by
  refine sp_L_box_i ?_
  walk_at "go"
  refine al_d S fun q H1 S => ?_
  walk_at "go"
  refine dis_S (bxk _ _ _) S rfl rfl (show 3 ≤ 15 by decide) fun H2 S => ?_
  exact k _ _ (box2_iff.mpr ⟨_, _, _, ⟨⟨Int.emod_nonneg _ (by decide), Int.emod_lt_of_pos _ (by decide)⟩, by decide, by omega⟩, S⟩)
theorem cell_at_ok {K : PySem.W.Frag} {a : Addr} {ns : List Int} {F : List SP} {H : Hp} {z : Int} {Q : VK} {E : XK} (S : Star H (scr K a (ns.map V.int) :: F)) (hz : 0 ≤ z) (k : ∀ c, Q (.int c) H) : sp_L_cell_at K [.ref a, .int z] H Q E := by
  refine sp_L_cell_at_i ?_
  walk_at "go"
  refine brd (fun h => ?_) (fun h => ?_)
  · walk_at "go"
    rw [List.length_map] at h
    obtain ⟨j, rfl⟩ := Int.eq_ofNat_of_zero_le hz
    have hj : j < ns.length := by omega
    exact ix_q S.getS (atI_nat (by rw [List.getElem?_map, List.getElem?_eq_getElem hj]; rfl)) (k _)
  · walk_at "go"
    exact k _
end Lawk17

namespace Lawk17
open PySem PySem.Spec PyProof.Rows L2 MK
/-! rows of marks: the mark and its label, in their order -/
abbrev mkV (p : Nat × Nat) : V := nV p.1
def lbl (r : List (Nat × Nat)) (i : Nat) : Nat := (r[i]?.map (·.2)).getD 1024
structure OrdOk (r : List (Nat × Nat)) (g : Nat) : Prop where
  ne : 0 < r.length
  len : r.length ≤ 200
  lt : ∀ p ∈ r, p.1 < g
  nd : ∀ (i j : Nat) (p q : Nat × Nat), r[i]? = some p → r[j]? = some q → p.1 = q.1 → i = j
  inc : ∀ (i j : Nat) (p q : Nat × Nat), r[i]? = some p → r[j]? = some q → i < j → p.2 < q.2
  top : ∀ p ∈ r, p.2 < 1024
/-- what the dict of labels holds -/
structure Lab (kvs : List (Key × V)) (r : List (Nat × Nat)) : Prop where
  yes : ∀ p ∈ r, valV kvs (.inl ((p.1 : Nat) : Int)) = some (nV p.2)
  no : ∀ z : Int, (∀ p ∈ r, ((p.1 : Nat) : Int) ≠ z) → valV kvs (.inl z) = none
section
variable {r r' : List (Nat × Nat)} {g i j m l : Nat} {kvs : List (Key × V)} {p : Nat × Nat}
theorem length_putK_in {k : Key} {v w : V} (h : valV kvs k = some w) : (putK kvs k v).length = kvs.length := by
  unfold putK
  rw [valV_any, h]
  simp
theorem Lab.set (h : Lab kvs r) (hi : r[i]? = some (m, l)) (nd : ∀ (i j : Nat) (p q : Nat × Nat), r[i]? = some p → r[j]? = some q → p.1 = q.1 → i = j) (v : Nat) : Lab (putK kvs (.inl (m : Nat)) (nV v)) (r.set i (m, v)) := by
  have hil := (List.getElem?_eq_some_iff.mp hi).1
  refine ⟨fun p hp => ?_, fun z hz => ?_⟩
  · rw [valV_put]
    obtain ⟨j, hj⟩ := List.getElem?_of_mem hp
    by_cases hij : i = j
    · subst hij
      rw [List.getElem?_set_self hil] at hj
      cases hj
      rw [if_pos rfl]
    · rw [List.getElem?_set_ne hij] at hj
      have : ¬ ((Sum.inl ((p.1 : Nat) : Int) : Key) = Sum.inl ((m : Nat) : Int)) := fun e => by
        have e2 : ((p.1 : Nat) : Int) = ((m : Nat) : Int) := Sum.inl.inj e
        exact hij (nd i j (m, l) p hi hj (by show m = p.1; omega))
      rw [if_neg this]
      exact h.yes p (List.mem_of_getElem? hj)
  · rw [valV_put]
    have hm : ((m : Nat) : Int) ≠ z := hz (m, v) (List.mem_of_getElem? (List.getElem?_set_self hil))
    have : ¬ ((Sum.inl z : Key) = Sum.inl ((m : Nat) : Int)) := fun e => hm (Sum.inl.inj e).symm
    rw [if_neg this]
    refine h.no z fun p hp => ?_
    obtain ⟨j, hj⟩ := List.getElem?_of_mem hp
    by_cases hij : i = j
    · subst hij
      rw [hi] at hj
      cases hj
      exact hm
    · exact hz p (List.mem_of_getElem? (by rw [List.getElem?_set_ne hij]; exact hj))
theorem Lab.ins (h : Lab kvs r) (hg : ∀ p ∈ r, p.1 ≠ g) (hr : ∀ p, p ∈ r' ↔ p ∈ r ∨ p = (g, l)) : Lab (putK kvs (.inl (g : Nat)) (nV l)) r' := by
  refine ⟨fun p hp => ?_, fun z hz => ?_⟩
  · rw [valV_put]
    rcases (hr p).mp hp with e | e
    · have : ¬ ((Sum.inl ((p.1 : Nat) : Int) : Key) = Sum.inl ((g : Nat) : Int)) := fun z => by
        have e2 : ((p.1 : Nat) : Int) = ((g : Nat) : Int) := Sum.inl.inj z
        exact hg p e (by omega)
      rw [if_neg this]
      exact h.yes p e
    · subst e
      rw [if_pos rfl]
  · rw [valV_put]
    have : ¬ ((Sum.inl z : Key) = Sum.inl ((g : Nat) : Int)) := fun e => hz (g, l) ((hr _).mpr (.inr rfl)) (Sum.inl.inj e).symm
    rw [if_neg this]
    exact h.no z fun p hp => hz p ((hr p).mpr (.inl hp))
theorem Lab.drop (h : Lab kvs r) (hr : ∀ p, p ∈ r' ↔ p ∈ r ∧ p.1 ≠ m) : Lab (dropK kvs (.inl (m : Nat))) r' := by
  refine ⟨fun p hp => ?_, fun z hz => ?_⟩
  · rw [valV_drop]
    obtain ⟨h1, h2⟩ := (hr p).mp hp
    have : ¬ ((Sum.inl ((p.1 : Nat) : Int) : Key) = Sum.inl ((m : Nat) : Int)) := fun z => by
      have e2 : ((p.1 : Nat) : Int) = ((m : Nat) : Int) := Sum.inl.inj z
      exact h2 (by omega)
    rw [if_neg this]
    exact h.yes p h1
  · rw [valV_drop]
    by_cases e : (Sum.inl z : Key) = Sum.inl ((m : Nat) : Int)
    · rw [if_pos e]
    · rw [if_neg e]
      refine h.no z fun p hp => ?_
      by_cases e2 : p.1 = m
      · intro e3
        exact e (by rw [← e3, e2])
      · exact hz p ((hr p).mpr ⟨hp, e2⟩)
/-! labelling anew -/
def relN (r : List (Nat × Nat)) (s : Nat) : Nat → List (Nat × Nat)
  | 0 => r
  | i + 1 => (relN r s i).set i ((r.getD i (0, 0)).1, i * s)
theorem relN_len (s : Nat) : ∀ i, (relN r s i).length = r.length
  | 0 => rfl
  | i + 1 => by
    show ((relN r s i).set i _).length = _
    rw [List.length_set, relN_len s i]
theorem relN_at (s : Nat) : ∀ i j, (relN r s i)[j]? = if j < i then r[j]?.map (fun p => (p.1, j * s)) else r[j]?
  | 0, j => by
    rw [if_neg (Nat.not_lt_zero _)]
    rfl
  | i + 1, j => by
    show ((relN r s i).set i _)[j]? = _
    by_cases hij : i = j
    · subst hij
      rw [if_pos (Nat.lt_succ_self _)]
      by_cases hl : i < r.length
      · rw [List.getElem?_set_self (by rw [relN_len]; exact hl), List.getElem?_eq_getElem hl]
        have e : r.getD i (0, 0) = r[i] := by simp [List.getD, List.getElem?_eq_getElem hl]
        rw [e]
        rfl
      · rw [List.getElem?_eq_none (by rw [List.length_set, relN_len]; omega), List.getElem?_eq_none (by omega)]
        rfl
    · rw [List.getElem?_set_ne hij, relN_at s i j]
      by_cases h1 : j < i
      · rw [if_pos h1, if_pos (by omega)]
      · rw [if_neg h1, if_neg (by omega)]
def relab (r : List (Nat × Nat)) : List (Nat × Nat) := relN r (1024 / r.length) r.length
theorem relab_len : (relab r).length = r.length := relN_len _ _
theorem relab_at {j : Nat} : (relab r)[j]? = r[j]?.map (fun p => (p.1, j * (1024 / r.length))) := by
  unfold relab
  rw [relN_at]
  by_cases h : j < r.length
  · rw [if_pos h]
  · rw [if_neg h, List.getElem?_eq_none (by omega)]
    rfl
theorem relN_marks (s : Nat) (i : Nat) : (relN r s i).map (·.1) = r.map (·.1) := by
  refine List.ext_getElem? fun j => ?_
  rw [List.getElem?_map, List.getElem?_map, relN_at]
  split
  · cases r[j]? <;> rfl
  · rfl
theorem marks_mkV (h : r.map (·.1) = r'.map (·.1)) : r.map mkV = r'.map mkV := by
  have e : ∀ r : List (Nat × Nat), r.map mkV = (r.map (·.1)).map nV := fun r => by rw [List.map_map]; rfl
  rw [e, e, h]
theorem relab_mkV : (relab r).map mkV = r.map mkV := marks_mkV (relN_marks _ _)
theorem step_pos (o : OrdOk r g) : 5 ≤ 1024 / r.length ∧ r.length * (1024 / r.length) ≤ 1024 := by
  have h1 := o.ne
  have h2 := o.len
  refine ⟨(Nat.le_div_iff_mul_le h1).mpr (by omega), ?_⟩
  rw [Nat.mul_comm]
  exact Nat.div_mul_le_self _ _
theorem relab_ok (o : OrdOk r g) : OrdOk (relab r) g := by
  obtain ⟨h5, hs⟩ := step_pos o
  have at' : ∀ {i p}, (relab r)[i]? = some p → ∃ q, r[i]? = some q ∧ p = (q.1, i * (1024 / r.length)) ∧ i < r.length := fun {i p} h => by
    rw [relab_at] at h
    obtain ⟨q, hq, rfl⟩ := Option.map_eq_some_iff.mp h
    exact ⟨q, hq, rfl, (List.getElem?_eq_some_iff.mp hq).1⟩
  refine ⟨by rw [relab_len]; exact o.ne, by rw [relab_len]; exact o.len, fun p hp => ?_, fun i j p q hi hj e => ?_, fun i j p q hi hj e => ?_, fun p hp => ?_⟩
  · obtain ⟨i, hi⟩ := List.getElem?_of_mem hp
    obtain ⟨q, hq, rfl, _⟩ := at' hi
    exact o.lt q (List.mem_of_getElem? hq)
  · obtain ⟨p', hp', rfl, _⟩ := at' hi
    obtain ⟨q', hq', rfl, _⟩ := at' hj
    exact o.nd i j p' q' hp' hq' e
  · obtain ⟨p', hp', rfl, _⟩ := at' hi
    obtain ⟨q', hq', rfl, _⟩ := at' hj
    exact Nat.mul_lt_mul_of_pos_right e (by omega)
  · obtain ⟨i, hi⟩ := List.getElem?_of_mem hp
    obtain ⟨q, hq, rfl, hl⟩ := at' hi
    have : (i + 1) * (1024 / r.length) ≤ r.length * (1024 / r.length) := Nat.mul_le_mul_right _ hl
    rw [Nat.succ_mul] at this
    show i * (1024 / r.length) < 1024
    omega
theorem lbl_at (h : r[i]? = some p) : lbl r i = p.2 := by
  unfold lbl
  rw [h]
  rfl
theorem lbl_out (h : r.length ≤ i) : lbl r i = 1024 := by
  unfold lbl
  rw [List.getElem?_eq_none h]
  rfl
theorem lbl_lt (o : OrdOk r g) (hi : i < r.length) : lbl r i < lbl r (i + 1) := by
  have h1 : r[i]? = some r[i] := List.getElem?_eq_getElem hi
  rw [lbl_at h1]
  by_cases h : i + 1 < r.length
  · have h2 : r[i + 1]? = some r[i + 1] := List.getElem?_eq_getElem h
    rw [lbl_at h2]
    exact o.inc i (i + 1) _ _ h1 h2 (Nat.lt_succ_self _)
  · rw [lbl_out (by omega)]
    exact o.top _ (List.getElem_mem hi)
theorem lbl_le (r : List (Nat × Nat)) (o : OrdOk r g) (i : Nat) : lbl r i ≤ 1024 := by
  by_cases h : i < r.length
  · rw [lbl_at (List.getElem?_eq_getElem h)]
    exact Nat.le_of_lt (o.top _ (List.getElem_mem h))
  · rw [lbl_out (by omega)]
    exact Nat.le_refl _
/-- a new mark behind spot i: the row ahead of it, perhaps labelled anew -/
def ahd (r : List (Nat × Nat)) (i : Nat) : List (Nat × Nat) := if lbl r (i + 1) - lbl r i < 2 then relab r else r
def anewN (r : List (Nat × Nat)) (i : Nat) : Nat := if lbl r (i + 1) - lbl r i < 2 then 1 else 0
def newL (r : List (Nat × Nat)) (i : Nat) : Nat := (lbl (ahd r i) i + lbl (ahd r i) (i + 1)) / 2
def bhd (r : List (Nat × Nat)) (g i : Nat) : List (Nat × Nat) := (ahd r i).take (i + 1) ++ [(g, newL r i)] ++ (ahd r i).drop (i + 1)
theorem ahd_ok (o : OrdOk r g) : OrdOk (ahd r i) g := by
  unfold ahd
  split
  · exact relab_ok o
  · exact o
theorem ahd_len : (ahd r i).length = r.length := by
  unfold ahd
  split
  · exact relab_len
  · rfl
theorem ahd_mkV : (ahd r i).map mkV = r.map mkV := by
  unfold ahd
  split
  · exact relab_mkV
  · rfl
theorem ahd_mark (h : r[i]? = some (m, l)) : ∃ l', (ahd r j)[i]? = some (m, l') := by
  unfold ahd
  split
  · exact ⟨_, by rw [relab_at, h]; rfl⟩
  · exact ⟨l, h⟩
theorem ahd_gap (o : OrdOk r g) (hi : i < r.length) : lbl (ahd r i) i + 2 ≤ lbl (ahd r i) (i + 1) := by
  have hlt := lbl_lt o hi
  unfold ahd
  split
  · obtain ⟨h5, hs⟩ := step_pos o
    have h1 : (relab r)[i]? = some (r[i].1, i * (1024 / r.length)) := by rw [relab_at, List.getElem?_eq_getElem hi]; rfl
    rw [lbl_at h1]
    by_cases h : i + 1 < r.length
    · have h2 : (relab r)[i + 1]? = some (r[i + 1].1, (i + 1) * (1024 / r.length)) := by rw [relab_at, List.getElem?_eq_getElem h]; rfl
      rw [lbl_at h2]
      show i * (1024 / r.length) + 2 ≤ (i + 1) * (1024 / r.length)
      rw [Nat.succ_mul]
      omega
    · rw [lbl_out (by rw [relab_len]; omega)]
      have : (i + 1) * (1024 / r.length) ≤ r.length * (1024 / r.length) := Nat.mul_le_mul_right _ hi
      rw [Nat.succ_mul] at this
      show i * (1024 / r.length) + 2 ≤ 1024
      omega
  · omega
theorem ins_at {α : Type} {xs : List α} {k j : Nat} {x : α} (hk : k ≤ xs.length) : (xs.take k ++ [x] ++ xs.drop k)[j]? = if j < k then xs[j]? else if j = k then some x else xs[j - 1]? := by
  have hl : (xs.take k).length = k := by rw [List.length_take]; omega
  by_cases h1 : j < k
  · rw [if_pos h1, List.append_assoc, List.getElem?_append_left (by omega), List.getElem?_take_of_lt h1]
  · rw [if_neg h1]
    by_cases h2 : j = k
    · rw [if_pos h2, List.append_assoc, List.getElem?_append_right (by omega), hl, h2, Nat.sub_self]
      rfl
    · rw [if_neg h2, List.getElem?_append_right (by rw [List.length_append, hl]; show k + 1 ≤ j; omega), List.length_append, hl, List.getElem?_drop]
      congr 1
      show k + (j - (k + 1)) = j - 1
      omega
theorem ins_mem {α : Type} {xs : List α} {k : Nat} {x y : α} : y ∈ xs.take k ++ [x] ++ xs.drop k ↔ y ∈ xs ∨ y = x := by
  rw [List.mem_append, List.mem_append, List.mem_singleton]
  constructor
  · rintro ((h | h) | h)
    · exact .inl (List.mem_of_mem_take h)
    · exact .inr h
    · exact .inl (List.mem_of_mem_drop h)
  · rintro (h | h)
    · rw [← List.take_append_drop k xs] at h
      rcases List.mem_append.mp h with z | z
      · exact .inl (.inl z)
      · exact .inr z
    · exact .inl (.inr h)
theorem bhd_at (hi : i < r.length) : (bhd r g i)[j]? = if j < i + 1 then (ahd r i)[j]? else if j = i + 1 then some (g, newL r i) else (ahd r i)[j - 1]? := ins_at (by rw [ahd_len]; exact hi)
theorem bhd_mem (p : Nat × Nat) : p ∈ bhd r g i ↔ p ∈ ahd r i ∨ p = (g, newL r i) := ins_mem
theorem bhd_len (hi : i < r.length) : (bhd r g i).length = r.length + 1 := by
  unfold bhd
  rw [List.length_append, List.length_append, List.length_take, List.length_drop, ahd_len]
  show min (i + 1) r.length + 1 + (r.length - (i + 1)) = r.length + 1
  omega
theorem bhd_mkV : (bhd r g i).map mkV = (r.map mkV).take (i + 1) ++ [nV g] ++ (r.map mkV).drop (i + 1) := by
  unfold bhd
  rw [List.map_append, List.map_append, List.map_take, List.map_drop, ahd_mkV]
  rfl
theorem bhd_ok (o : OrdOk r g) (hi : i < r.length) (hl : r.length < 200) : OrdOk (bhd r g i) (g + 1) := by
  have o2 := ahd_ok (i := i) o
  have hgap := ahd_gap o hi
  have hn1 : lbl (ahd r i) i < newL r i := by unfold newL; omega
  have hn2 : newL r i < lbl (ahd r i) (i + 1) := by unfold newL; omega
  have htop := lbl_le (ahd r i) o2 (i + 1)
  have hal := ahd_len (r := r) (i := i)
  -- an entry: an old one at its spot, or the new one
  have at' : ∀ {j p}, (bhd r g i)[j]? = some p → (∃ j', (ahd r i)[j']? = some p ∧ ((j ≤ i ∧ j' = j) ∨ (i + 1 < j ∧ j' + 1 = j))) ∨ (j = i + 1 ∧ p = (g, newL r i)) := fun {j p} h => by
    rw [bhd_at hi] at h
    split at h
    · exact .inl ⟨j, h, .inl ⟨by omega, rfl⟩⟩
    · split at h
      · cases h
        exact .inr ⟨by assumption, rfl⟩
      · exact .inl ⟨j - 1, h, .inr ⟨by omega, by omega⟩⟩
  have le1 : ∀ {j p}, (ahd r i)[j]? = some p → j ≤ i → p.2 ≤ lbl (ahd r i) i := fun {j p} h hj => by
    have h1 : (ahd r i)[i]? = some (ahd r i)[i] := List.getElem?_eq_getElem (by omega)
    rw [lbl_at h1]
    by_cases e : j = i
    · subst e
      rw [h1] at h
      cases h
      exact Nat.le_refl _
    · exact Nat.le_of_lt (o2.inc j i _ _ h h1 (by omega))
  have ge1 : ∀ {j p}, (ahd r i)[j]? = some p → i < j → lbl (ahd r i) (i + 1) ≤ p.2 := fun {j p} h hj => by
    have hjl := (List.getElem?_eq_some_iff.mp h).1
    have h1 : (ahd r i)[i + 1]? = some (ahd r i)[i + 1] := List.getElem?_eq_getElem (by omega)
    rw [lbl_at h1]
    by_cases e : j = i + 1
    · subst e
      rw [h1] at h
      cases h
      exact Nat.le_refl _
    · exact Nat.le_of_lt (o2.inc (i + 1) j _ _ h1 h (by omega))
  refine ⟨by rw [bhd_len hi]; omega, by rw [bhd_len hi]; omega, fun p hp => ?_, fun a b p q ha hb e => ?_, fun a b p q ha hb e => ?_, fun p hp => ?_⟩
  · rcases (bhd_mem p).mp hp with h | h
    · have := o2.lt p h
      omega
    · subst h
      exact Nat.lt_succ_self _
  · rcases at' ha with ⟨a', ha', ea⟩ | ⟨ea, rfl⟩
    · rcases at' hb with ⟨b', hb', eb⟩ | ⟨eb, rfl⟩
      · have := o2.nd a' b' p q ha' hb' e
        omega
      · have := o2.lt p (List.mem_of_getElem? ha')
        have e2 : p.1 = g := e
        omega
    · rcases at' hb with ⟨b', hb', eb⟩ | ⟨eb, rfl⟩
      · have := o2.lt q (List.mem_of_getElem? hb')
        have e2 : g = q.1 := e
        omega
      · omega
  · rcases at' ha with ⟨a', ha', ea⟩ | ⟨ea, rfl⟩
    · rcases at' hb with ⟨b', hb', eb⟩ | ⟨eb, rfl⟩
      · exact o2.inc a' b' p q ha' hb' (by omega)
      · have := le1 ha' (by omega)
        show p.2 < newL r i
        omega
    · rcases at' hb with ⟨b', hb', eb⟩ | ⟨eb, rfl⟩
      · have := ge1 hb' (by omega)
        show newL r i < q.2
        omega
      · omega
  · rcases (bhd_mem p).mp hp with h | h
    · exact o2.top p h
    · subst h
      show newL r i < 1024
      omega
theorem ord1 : OrdOk [(0, 0)] 1 := by
  have at' : ∀ {i p}, ([(0, 0)] : List (Nat × Nat))[i]? = some p → i = 0 ∧ p = (0, 0) := fun {i p} h => by
    cases i with
    | zero => cases h; exact ⟨rfl, rfl⟩
    | succ i => simp at h
  refine ⟨by decide, by decide, fun p hp => ?_, fun i j p q hi hj _ => by have := (at' hi).1; have := (at' hj).1; omega, fun i j p q hi hj h => by have := (at' hi).1; have := (at' hj).1; omega, fun p hp => ?_⟩
  · rw [List.mem_singleton.mp hp]
    decide
  · rw [List.mem_singleton.mp hp]
    decide
theorem lab1 : Lab [(.inl 0, nV 0)] [(0, 0)] := by
  refine ⟨fun p hp => ?_, fun z hz => ?_⟩
  · rw [List.mem_singleton.mp hp]
    rfl
  · have := hz (0, 0) List.mem_cons_self
    exact valV_neg (fun e => this (Sum.inl.inj e))
theorem mk_nd (o : OrdOk r g) (hi : r[i]? = some (m, l)) : ∀ j, j < i → (r.map (·.1))[j]? ≠ some m := fun j hj e => by
  rw [List.getElem?_map] at e
  obtain ⟨q, hq, e2⟩ := Option.map_eq_some_iff.mp e
  have := o.nd j i q (m, l) hq hi e2
  omega
theorem mkV_eq : r.map mkV = (r.map (·.1)).map nV := by rw [List.map_map]; rfl
end
end Lawk17

namespace Lawk17
open PySem PySem.Spec PyProof.Rows L2 MK
section
variable {K : PySem.W.Frag} {F : List SP} {H : Hp} {Q : VK} {E : XK}
theorem idx_S {xs : List Nat} {f : Addr} {x j : Nat} (S : Star H (pt f (.lst (xs.map nV)) :: F)) (hj : xs[j]? = some x) (hn : ∀ i, i < j → xs[i]? ≠ some x) (q : Q (.int (j : Nat)) H) : opIdx K (.ref f) [nV x] H Q := by
  unfold opIdx rIndex
  refine ⟨f, xs.map nV, nV x, j, nV x, rfl, rfl, .of S.get, rfl, ?_, by rw [List.getElem?_map, hj]; rfl, ?_, ?_, q⟩
  · rw [List.all_map]
    exact List.all_eq_true.mpr fun y _ => rfl
  · show decide _ = true
    exact decide_eq_true rfl
  · intro i z' hi e
    rw [List.getElem?_map] at e
    obtain ⟨y, hy, rfl⟩ := Option.map_eq_some_iff.mp e
    have : y ≠ x := fun e2 => hn i hi (by rw [hy, e2])
    show decide _ = false
    refine decide_eq_false fun e3 => this ?_
    have e4 : (y : Int) = (x : Int) := by
      first
        | exact e3
        | (injection e3)
    omega
theorem ni_ints {xs : List Nat} (hz : xs.length ≤ 1000) (hx : ∀ x ∈ xs, x ≤ 1000) : Ni 1 2000 (.list (xs.map fun k => .int (k : Nat))) := by
  refine ni_l (n := 0) (m := 0) (fun d hd => ?_) (by decide) (by rw [List.length_map]; omega)
  obtain ⟨x, h1, rfl⟩ := List.mem_map.mp hd
  have := hx x h1
  exact ni_i (by omega)
theorem repr_ints {xs : List Nat} {f : Addr} (S : Star H (pt f (.lst (xs.map nV)) :: F)) (hz : xs.length ≤ 1000) (hx : ∀ x ∈ xs, x ≤ 1000) (q : Q (.str (PyData.list (xs.map fun k => .int (k : Nat))).shown) H) : reprX K (.ref f) H Q := by
  have Sa : Star H (dat (.ref f) (.list (xs.map fun k => .int (k : Nat))) :: []) := S.fr (Fr.lst (xs := xs.map nV) (Fr.c0 (Fr.ints (Fr.nil _))))
  exact repr_D Sa (ni_ints hz hx).rep q
end
end Lawk17

namespace Lawk17
open PySem PySem.Spec PyProof.Rows L2 MK
abbrev Order_o (K : PySem.W.Frag) (t dx s l : Addr) (g tm : Nat) : SP := pt t (.ins (He.ga K "Order") dx [("standing", .ref s), ("labelled", .ref l), ("given", nV g), ("times", nV tm)])
def ord (K : PySem.W.Frag) (t : Addr) (r : List (Nat × Nat)) (g tm : Nat) : SP := ex fun dx : Addr => ex fun s : Addr => ex fun l : Addr => ex fun kvs : List (Key × V) => sep [pr (OrdOk r g ∧ Lab kvs r ∧ kvs.length ≤ g ∧ g ≤ 100000), Order_o K t dx s l g tm, pt s (.lst (r.map mkV)), pt l (.dK kvs)]
section
variable {K : PySem.W.Frag} {F : List SP} {H : Hp} {Q : VK} {E : XK} {t dx s l u : Addr} {r : List (Nat × Nat)} {g tm m lb i : Nat} {kvs : List (Key × V)}
theorem ord_iff : Star H (ord K t r g tm :: F) ↔ ∃ dx s l kvs, (OrdOk r g ∧ Lab kvs r ∧ kvs.length ≤ g ∧ g ≤ 100000) ∧ Star H (Order_o K t dx s l g tm :: pt s (.lst (r.map mkV)) :: pt l (.dK kvs) :: F) := by
  unfold ord
  simp only [Star.ex_iff, Star.sep_iff, List.cons_append, List.nil_append, Star.pr_iff]
theorem ord_i (o : OrdOk r g) (hl : Lab kvs r) (hk : kvs.length ≤ g) (hg : g ≤ 100000) : Fr (Order_o K t dx s l g tm :: pt s (.lst (r.map mkV)) :: pt l (.dK kvs) :: F) (ord K t r g tm :: F) := fun H S => ord_iff.mpr ⟨dx, s, l, kvs, ⟨o, hl, hk, hg⟩, S⟩
theorem ord_ok (S : Star H (ord K t r g tm :: F)) : OrdOk r g := by
  obtain ⟨_, _, _, _, ⟨o, _⟩, _⟩ := ord_iff.mp S
  exact o
abbrev isOrd (m : Str) : Prop := m ≠ "standing" ∧ m ≠ "labelled" ∧ m ≠ "given" ∧ m ≠ "times"
theorem look4 {m : Str} {v u x y : V} (h : isOrd m) : List.lookup m [("standing", v), ("labelled", u), ("given", x), ("times", y)] = none := by
  have h1 : (m == ("standing" : Str)) = false := beq_eq_false_iff_ne.mpr h.1
  have h2 : (m == ("labelled" : Str)) = false := beq_eq_false_iff_ne.mpr h.2.1
  have h3 : (m == ("given" : Str)) = false := beq_eq_false_iff_ne.mpr h.2.2.1
  have h4 : (m == ("times" : Str)) = false := beq_eq_false_iff_ne.mpr h.2.2.2
  simp [List.lookup, h1, h2, h3, h4]
theorem dsp_o {spO : Sp} {m : Str} {R : Sp → Prop} (S : Star H (ord K t r g tm :: F)) (h : isOrd m) (q : R spO) : dspX [(He.ga K "Order", spO)] m (.ref t) H R := by
  obtain ⟨dx, s, l, kvs, _, S⟩ := ord_iff.mp S
  exact dsp_i S.get List.mem_cons_self (look4 h) q
theorem Order_init_ok (S : Star H (pt t (.ins (He.ga K "Order") dx []) :: F)) (k : ∀ H', Star H' (ord K t [(0, 0)] 1 0 :: F) → Q .non H') : sp_Order_init K [.ref t] H Q E := by
  refine sp_Order_init_i ?_
  walk_at "go"
  refine al_l S fun s H1 S => ?_
  walk_at "go"
  refine stf_S S.p1 List.mem_cons_self (by decide) fun H1 S => ?_
  walk_at "go"
  refine al_d S fun l H1 S => ?_
  walk_at "go"
  refine dis_S [(.inl 0, .int 0)] S rfl rfl (show 1 ≤ 15 by decide) fun H2 S => ?_
  walk_at "go"
  refine stf_S S.p1 List.mem_cons_self (by show 1 < 1000; decide) fun H1 S => ?_
  walk_at "go"
  refine stf_S S List.mem_cons_self (by show 2 < 1000; decide) fun H1 S => ?_
  walk_at "go"
  refine stf_S S List.mem_cons_self (by show 3 < 1000; decide) fun H1 S => ?_
  walk_at "w"
  refine k _ (Star.fr (ps := Order_o K t dx s l 1 0 :: pt s (.lst ([((0 : Nat), (0 : Nat))].map mkV)) :: pt l (.dK [(.inl 0, nV 0)]) :: F) (S.fr (Fr.c0 (Fr.c1 (Fr.c0 (Fr.refl _))))) (ord_i ord1 lab1 (by decide) (by decide)))
theorem Order_need_ok (S : Star H (Order_o K t dx s l g tm :: pt l (.dK kvs) :: F)) (o : OrdOk r g) (hl : Lab kvs r) (hi : r[i]? = some (m, lb)) (k : Q .non H) : sp_Order_need_mark K [.ref t, nV m] H Q E := by
  have hm := o.lt _ (List.mem_of_getElem? hi)
  have hm : m < g := hm
  refine sp_Order_need_mark_i ?_
  walk_at "go"
  have S1 : Star H (dat (nV m) (.int (m : Nat)) :: F) := S.fr (by walk_at "fr")
  refine is_whole_ok S1 ?_
  rw [wholeD_int, decide_eq_true (by omega), decide_eq_true (by omega)]
  walk_at "go"
  refine in_di S.p1.get ?_
  rw [hl.yes _ (List.mem_of_getElem? hi)]
  walk_at "go"
  exact k
theorem Order_lbl_ok (S : Star H (Order_o K t dx s l g tm :: pt s (.lst (r.map mkV)) :: pt l (.dK kvs) :: F)) (hl : Lab kvs r) (k : Q (nV (lbl r (i + 1))) H) : sp_Order_label_behind K [.ref t, nV i] H Q E := by
  refine sp_Order_label_behind_i ?_
  walk_at "go"
  rw [List.length_map]
  refine brd (fun hc => ?_) (fun hc => ?_)
  · have hi : i + 1 < r.length := by omega
    have e : r[i + 1]? = some (r[i + 1].1, r[i + 1].2) := List.getElem?_eq_getElem hi
    walk_at "go"
    refine ix_l S.p1.get (v := nV r[i + 1].1) ?_ ?_
    · have e2 : (i : Int) + 1 = ((i + 1 : Nat) : Int) := by omega
      rw [e2]
      exact atI_n (by rw [List.getElem?_map, e]; rfl)
    refine ixd_i S.p2.get (hl.yes _ (List.mem_of_getElem? e)) ?_
    rw [lbl_at e] at k
    exact k
  · walk_at "go"
    rw [lbl_out (by omega)] at k
    exact k
theorem Order_all_ok (S : Star H (Order_o K t dx s l g tm :: pt s (.lst (r.map mkV)) :: pt l (.dK kvs) :: F)) (o : OrdOk r g) (hl : Lab kvs r) (hk : kvs.length ≤ g) (hg : g ≤ 100000)
    (k : ∀ H' kvs', Lab kvs' (relab r) → kvs'.length ≤ g → Star H' (Order_o K t dx s l g (tm + 1) :: pt s (.lst ((relab r).map mkV)) :: pt l (.dK kvs') :: F) → Q .non H') : sp_Order_label_all K [.ref t] H Q E := by
  have h1 := o.ne
  have h2 := o.len
  have h3 : 0 < (r.map mkV).length ∧ (r.map mkV).length ≤ 200 := by
    rw [List.length_map]
    exact ⟨h1, h2⟩
  refine sp_Order_label_all_i ?_
  walk_at "go"
  rw [List.length_map]
  have e1 : (1024 : Int) / ((r.length : Nat) : Int) = ((1024 / r.length : Nat) : Int) := by rw [Int.natCast_ediv]; rfl
  rw [e1]
  refine en_l S.p1.get ?_
  refine Loop.it walk_enum (fun i σ H => ∃ kvs' y2 y3, Lab kvs' (relN r (1024 / r.length) i) ∧ kvs'.length = kvs.length ∧ Star H (Order_o K t dx s l g tm :: pt s (.lst (r.map mkV)) :: pt l (.dK kvs') :: F) ∧ σ = [some (.ref t), some (nV (1024 / r.length)), y2, y3]) ⟨kvs, _, _, hl, rfl, S, rfl⟩ (fun i σ H _ ⟨_, _, _, _, _, z, _⟩ => .of z.p1.get) ?_ ?_
  · rintro i v σ H2 H3 hi ⟨kvs', y2, y3, hl', hk', S, rfl⟩ y
    obtain ⟨T, x, z, rfl, e2, e3, S2⟩ := pair_S S y
    cases e2
    have hi' : i < r.length := by rw [List.length_map] at hi; exact hi
    have e4 : r[i]? = some (r[i].1, r[i].2) := List.getElem?_eq_getElem hi'
    rw [List.getElem?_map, e4] at e3
    cases e3
    unfold gU
    refine unp_t S2.getF rfl ?_
    walk_at "go"
    refine setd_i (S2.p3) (by omega) fun H4 S => ?_
    walk_at "w"
    have e5 : (i : Int) * ((1024 / r.length : Nat) : Int) = ((i * (1024 / r.length) : Nat) : Int) := by rw [Int.natCast_mul]
    rw [e5] at S
    have e6 : (relN r (1024 / r.length) i)[i]? = some (r[i].1, r[i].2) := by rw [relN_at, if_neg (Nat.lt_irrefl _)]; exact e4
    have ndN : ∀ (a b : Nat) (p q : Nat × Nat), (relN r (1024 / r.length) i)[a]? = some p → (relN r (1024 / r.length) i)[b]? = some q → p.1 = q.1 → a = b := fun a b p q ha hb e => by
      have mk : ∀ {a : Nat} {p : Nat × Nat}, (relN r (1024 / r.length) i)[a]? = some p → ∃ p', r[a]? = some p' ∧ p'.1 = p.1 := fun {a p} h => by
        rw [relN_at] at h
        split at h
        · obtain ⟨p', hp', rfl⟩ := Option.map_eq_some_iff.mp h
          exact ⟨p', hp', rfl⟩
        · exact ⟨p, h, rfl⟩
      obtain ⟨p', hp', e1⟩ := mk ha
      obtain ⟨q', hq', e2⟩ := mk hb
      exact o.nd a b p' q' hp' hq' (by rw [e1, e2, e])
    have hset := hl'.set e6 ndN (i * (1024 / r.length))
    have e7 : relN r (1024 / r.length) (i + 1) = (relN r (1024 / r.length) i).set i (r[i].1, i * (1024 / r.length)) := by
      show (relN r (1024 / r.length) i).set i ((r.getD i (0, 0)).1, _) = _
      simp [List.getD, e4]
    refine ⟨_, _, _, by rw [e7]; exact hset, ?_, S.fr (by walk_at "fr"), rfl⟩
    rw [length_putK_in (hl'.yes _ (List.mem_of_getElem? e6)), hk']
  · rintro σ H2 ⟨kvs', y2, y3, hl', hk', S, rfl⟩
    rw [List.length_map] at hl'
    walk_at "go"
    refine stf_S S List.mem_cons_self (by show 4 < 1000; decide) fun H3 S => ?_
    walk_at "w"
    rw [← relab_mkV] at S
    exact k _ kvs' hl' (by omega) (S.fr (Fr.c0 (Fr.refl _)))
theorem Order_behind_ok (S : Star H (ord K t r g tm :: F)) (hi : r[i]? = some (m, lb)) (hl : r.length < 200) (hg : g < 100000) (k : ∀ H', Star H' (ord K t (bhd r g i) (g + 1) (tm + anewN r i) :: F) → Q (nV g) H') : sp_Order_behind K [.ref t, nV m] H Q E := by
  obtain ⟨dx, s, l, kvs, ⟨o, la, hk, _⟩, S⟩ := ord_iff.mp S
  have hil := (List.getElem?_eq_some_iff.mp hi).1
  refine sp_Order_behind_i ?_
  walk_at "go"
  refine Order_need_ok (S.fr (by walk_at "fr")) o la hi ?_
  walk_at "go"
  rw [List.length_map]
  refine brd (fun hc => absurd hc (by omega)) (fun _ => ?_)
  walk_at "go"
  refine idx_S (f := s) (xs := r.map (·.1)) (j := i) (by rw [← mkV_eq]; exact S.p1) (by rw [List.getElem?_map, hi]; rfl) (mk_nd o hi) ?_
  dsimp only
  refine seq_cut (fun σ H => ∃ kvs', Lab kvs' (ahd r i) ∧ kvs'.length ≤ g ∧ Star H (Order_o K t dx s l g (tm + anewN r i) :: pt s (.lst ((ahd r i).map mkV)) :: pt l (.dK kvs') :: F) ∧ σ = [some (.ref t), some (nV m), some (nV i), none]) (fun kk => ?_) ?_
  · walk_at "go"
    refine Order_lbl_ok S la ?_
    walk_at "go"
    refine ixd_i S.p2.get (la.yes _ (List.mem_of_getElem? hi)) ?_
    have hlt := lbl_lt o hil
    rw [lbl_at hi] at hlt
    walk_at "go"
    refine brd (fun hc => ?_) (fun hc => ?_)
    · have hlt2 : lbl r (i + 1) - lbl r i < 2 := by
        rw [lbl_at hi]
        have : ((lbl r (i + 1) : Nat) : Int) - ((lb : Nat) : Int) < 2 := hc
        show lbl r (i + 1) - lb < 2
        omega
      walk_at "go"
      refine Order_all_ok S o la hk (by omega) fun H1 kvs' la' hk' S => ?_
      walk_at "w"
      refine kk _ _ ⟨kvs', ?_, hk', ?_, rfl⟩
      · unfold ahd
        rw [if_pos hlt2]
        exact la'
      · unfold ahd anewN
        rw [if_pos hlt2, if_pos hlt2]
        exact S
    · have hlt2 : ¬ lbl r (i + 1) - lbl r i < 2 := by
        rw [lbl_at hi]
        have : ¬ ((lbl r (i + 1) : Nat) : Int) - ((lb : Nat) : Int) < 2 := hc
        have : lb < lbl r (i + 1) := hlt
        show ¬ lbl r (i + 1) - lb < 2
        omega
      walk_at "w"
      refine kk _ _ ⟨kvs, ?_, hk, ?_, rfl⟩
      · unfold ahd
        rw [if_neg hlt2]
        exact la
      · unfold ahd anewN
        rw [if_neg hlt2, if_neg hlt2]
        exact S
  · rintro σ H1 ⟨kvs', la', hk', S, rfl⟩
    obtain ⟨lb', hi'⟩ := ahd_mark (j := i) hi
    have o2 := ahd_ok (i := i) o
    have hal := ahd_len (r := r) (i := i)
    walk_at "go"
    refine ixd_i S.p2.get (la'.yes _ (List.mem_of_getElem? hi')) ?_
    walk_at "go"
    refine Order_lbl_ok S la' ?_
    walk_at "go"
    have e1 : (((lb' : Nat) : Int) + ((lbl (ahd r i) (i + 1) : Nat) : Int)) / 2 = ((newL r i : Nat) : Int) := by
      unfold newL
      rw [lbl_at hi', Int.natCast_ediv, Int.natCast_add]
      rfl
    have e1' : (((m, lb').2 : Nat) : Int) = ((lb' : Nat) : Int) := rfl
    first
      | rw [e1]
      | (rw [e1'] ; rw [e1])
    refine setd_i S.p2 (by omega) fun H2 S => ?_
    walk_at "go"
    have e2 : (i : Int) + 1 = ((i + 1 : Nat) : Int) := by omega
    rw [e2]
    have S : Star H2 (pt s (.lst ((ahd r i).map mkV)) :: Order_o K t dx s l g (tm + anewN r i) :: pt l (.dK (putK kvs' (.inl (g : Nat)) (nV (newL r i)))) :: F) := S.fr (by walk_at "fr")
    refine ins_S S (by rw [List.length_map]; omega) (by rw [List.length_map]; omega) fun H3 S => ?_
    walk_at "go"
    refine stf_S S.p1 List.mem_cons_self (by show 4 < 1000; decide) fun H4 S => ?_
    walk_at "w"
    have e3 : ((ahd r i).map mkV).take (i + 1) ++ [nV g] ++ ((ahd r i).map mkV).drop (i + 1) = (bhd r g i).map mkV := by rw [bhd_mkV, ahd_mkV]
    rw [e3] at S
    have la2 : Lab (putK kvs' (.inl (g : Nat)) (nV (newL r i))) (bhd r g i) := la'.ins (fun p hp => by have := o2.lt p hp; omega) (fun p => bhd_mem p)
    have hk2 := length_putK kvs' (.inl (g : Nat)) (nV (newL r i))
    refine k _ (Star.fr (ps := Order_o K t dx s l (g + 1) (tm + anewN r i) :: pt s (.lst ((bhd r g i).map mkV)) :: pt l (.dK (putK kvs' (.inl (g : Nat)) (nV (newL r i)))) :: F) (S.fr (Fr.c0 (Fr.c0 (Fr.c0 (Fr.refl _))))) (ord_i (bhd_ok o hil hl) la2 (by omega) (by omega)))
theorem Order_marks_ok (S : Star H (ord K t r g tm :: F)) (k : ∀ H' f, Star H' (pt f (.lst (r.map mkV)) :: ord K t r g tm :: F) → Q (.ref f) H') : sp_Order_marks K [.ref t] H Q E := by
  obtain ⟨dx, s, l, kvs, ⟨o, la, hk, hg⟩, S⟩ := ord_iff.mp S
  refine sp_Order_marks_i ?_
  walk_at "go"
  refine list_S S S.p1.get fun f H1 S => ?_
  exact k _ _ (S.fr (Fr.c0 (ord_i o la hk hg)))
theorem Order_ahead_ok {j m2 lb2 : Nat} (S : Star H (ord K t r g tm :: F)) (hi : r[i]? = some (m, lb)) (hj : r[j]? = some (m2, lb2)) (k : Q (.bl (decide (i < j))) H) : sp_Order_ahead K [.ref t, nV m, nV m2] H Q E := by
  obtain ⟨dx, s, l, kvs, ⟨o, la, hk, hg⟩, S⟩ := ord_iff.mp S
  refine sp_Order_ahead_i ?_
  walk_at "go"
  refine Order_need_ok (S.fr (by walk_at "fr")) o la hi ?_
  walk_at "go"
  refine Order_need_ok (S.fr (by walk_at "fr")) o la hj ?_
  walk_at "go"
  refine ixd_i S.p2.get (la.yes _ (List.mem_of_getElem? hi)) ?_
  walk_at "go"
  refine ixd_i S.p2.get (la.yes _ (List.mem_of_getElem? hj)) ?_
  walk_at "w"
  have e : decide (((lb : Nat) : Int) < ((lb2 : Nat) : Int)) = decide (i < j) := by
    by_cases hij : i < j
    · have h : lb < lb2 := o.inc i j _ _ hi hj hij
      rw [decide_eq_true hij, decide_eq_true (by omega)]
    · rw [decide_eq_false hij, decide_eq_false]
      by_cases e : i = j
      · subst e
        rw [hi] at hj
        cases hj
        omega
      · have h : lb2 < lb := o.inc j i _ _ hj hi (by omega)
        omega
  rw [← e] at k
  exact k
theorem Order_anew_ok (S : Star H (ord K t r g tm :: F)) (k : Q (nV tm) H) : sp_Order_anew K [.ref t] H Q E := by
  obtain ⟨dx, s, l, kvs, _, S⟩ := ord_iff.mp S
  refine sp_Order_anew_i ?_
  walk_at "go"
  exact k
theorem Order_copied_ok (S : Star H (ord K t r g tm :: F)) (k : ∀ H' u, Star H' (ord K u r g tm :: ord K t r g tm :: F) → Q (.ref u) H') : sp_Order_copied K [.ref t] H Q E := by
  obtain ⟨dx, s, l, kvs, ⟨o, la, hk, hg⟩, S⟩ := ord_iff.mp S
  refine sp_Order_copied_i ?_
  walk_at "w"
  intro x dx1 hx hd hne
  refine Order_init_ok (S.mkI hx hd hne) fun H1 S => ?_
  obtain ⟨dx2, s2, l2, kvs2, _, S⟩ := ord_iff.mp S
  walk_at "go"
  refine list_S S S.p4.get fun s3 H1 S => ?_
  walk_at "go"
  refine stf_S S.p1 List.mem_cons_self (by show 4 < 1000; decide) fun H1 S => ?_
  walk_at "go"
  refine dct_S S S.p6.get fun l3 H1 S => ?_
  walk_at "go"
  refine stf_S S.p1 List.mem_cons_self (by show 4 < 1000; decide) fun H1 S => ?_
  walk_at "go"
  refine stf_S S List.mem_cons_self (by show 4 < 1000; decide) fun H1 S => ?_
  walk_at "go"
  refine stf_S S List.mem_cons_self (by show 4 < 1000; decide) fun H1 S => ?_
  walk_at "w"
  have S2 : Star H1 (Order_o K x dx2 s3 l3 g tm :: pt s3 (.lst (r.map mkV)) :: pt l3 (.dK kvs) :: Order_o K t dx s l g tm :: pt s (.lst (r.map mkV)) :: pt l (.dK kvs) :: F) := S.fr (Fr.c0 (Fr.c1 (Fr.c0 (by walk_at "fr"))))
  exact k _ _ ((S2.fr (ord_i o la hk hg)).fr (Fr.c0 (ord_i o la hk hg)))
end
end Lawk17

namespace Lawk17
open PySem PySem.Spec PyProof.Rows L2 MK
/-! pairs of numbers as tuples, held by nobody -/
def TP (H : Hp) (vs : List V) (r : List (Nat × Nat)) : Prop := vs.length = r.length ∧ ∀ (i : Nat) (p : Nat × Nat), r[i]? = some p → ∃ T, vs[i]? = some (.ref T) ∧ H T = some (.tup [nV p.1, nV p.2])
def tps (vs : List V) (r : List (Nat × Nat)) : SP where
  P := fun H A => A = [] ∧ TP H vs r
  dom := fun H A h b hb => by
    rw [h.1] at hb
    cases hb
  st := fun H H' A h _ k => ⟨h.1, h.2.1, fun i p e => by
    obtain ⟨T, h1, h2⟩ := h.2.2 i p e
    exact ⟨T, h1, by rw [k T (by rw [h2]; exact True.intro), h2]⟩⟩
section
variable {K : PySem.W.Frag} {F : List SP} {H : Hp} {Q : VK} {vs ws : List V} {r q : List (Nat × Nat)} {i : Nat} {p : Nat × Nat}
theorem tps_iff : Star H (tps vs r :: F) ↔ TP H vs r ∧ Star H F :=
  ⟨fun S => by
    obtain ⟨A1, A2, n, ⟨_, h1⟩, h2⟩ := Star.split.mp S
    exact ⟨h1, S.tail⟩, fun ⟨h, A, n, hA⟩ => Star.split.mpr ⟨[], A, n, ⟨rfl, h⟩, hA⟩⟩
theorem _root_.MK.Star.tp (S : Star H (tps vs r :: F)) : TP H vs r := (tps_iff.mp S).1
theorem _root_.MK.Star.tadd (S : Star H F) (h : TP H vs r) : Star H (tps vs r :: F) := tps_iff.mpr ⟨h, S⟩
theorem TP.nil : TP H [] [] := ⟨rfl, fun i p e => by simp at e⟩
theorem TP.snoc {T : Addr} (h : TP H vs r) (e : H T = some (.tup [nV p.1, nV p.2])) : TP H (vs ++ [.ref T]) (r ++ [p]) := by
  refine ⟨by rw [List.length_append, List.length_append, h.1]; rfl, fun i p' hi => ?_⟩
  by_cases hl : i < r.length
  · rw [List.getElem?_append_left hl] at hi
    obtain ⟨T', h1, h2⟩ := h.2 i p' hi
    exact ⟨T', by rw [List.getElem?_append_left (by rw [h.1]; exact hl)]; exact h1, h2⟩
  · have e1 : i = r.length := by
      have := (List.getElem?_eq_some_iff.mp hi).1
      simp at this
      omega
    subst e1
    rw [List.getElem?_concat_length] at hi
    cases hi
    exact ⟨T, by rw [← h.1, List.getElem?_concat_length], e⟩
theorem TP.app (h : TP H vs r) (h2 : TP H ws q) : TP H (vs ++ ws) (r ++ q) := by
  refine ⟨by rw [List.length_append, List.length_append, h.1, h2.1], fun i p hi => ?_⟩
  by_cases hl : i < r.length
  · rw [List.getElem?_append_left hl] at hi
    rw [List.getElem?_append_left (by rw [h.1]; exact hl)]
    exact h.2 i p hi
  · rw [List.getElem?_append_right (by omega)] at hi
    rw [List.getElem?_append_right (by rw [h.1]; omega), h.1]
    exact h2.2 _ p hi
theorem TP.take (h : TP H vs r) (k : Nat) : TP H (vs.take k) (r.take k) := by
  refine ⟨by rw [List.length_take, List.length_take, h.1], fun i p hi => ?_⟩
  have hl := (List.getElem?_eq_some_iff.mp hi).1
  rw [List.length_take] at hl
  rw [List.getElem?_take_of_lt (by omega)] at hi ⊢
  exact h.2 i p hi
theorem TP.drop (h : TP H vs r) (k : Nat) : TP H (vs.drop k) (r.drop k) := by
  refine ⟨by rw [List.length_drop, List.length_drop, h.1], fun i p hi => ?_⟩
  rw [List.getElem?_drop] at hi ⊢
  exact h.2 _ p hi
end
end Lawk17

namespace Lawk17
open PySem PySem.Spec PyProof.Rows L2 MK
/-! what is no mark is refused at each door -/
section
variable {K : PySem.W.Frag} {F G : List SP} {H : Hp} {Q : VK} {E : XK} {t u f : Addr} {r : List (Nat × Nat)} {g tm m lb i : Nat} {v x : V} {d : PyData}
/-- the labels as a dict -/
def labK (r : List (Nat × Nat)) : List (Key × V) := r.map fun p => (.inl ((p.1 : Nat) : Int), nV p.2)
theorem lab_of : ∀ {r : List (Nat × Nat)}, (r.map (·.1)).Nodup → Lab (labK r) r
  | [], _ => ⟨fun p hp => (by cases hp), fun z _ => rfl⟩
  | p :: r, h => by
    rw [List.map_cons, List.nodup_cons] at h
    have ih := lab_of h.2
    refine ⟨fun p' hp' => ?_, fun z hz => ?_⟩
    · by_cases e : p'.1 = p.1
      · rcases List.mem_cons.mp hp' with e2 | e2
        · subst e2
          exact valV_pos rfl
        · exact absurd (List.mem_map.mpr ⟨p', e2, e⟩) h.1
      · rcases List.mem_cons.mp hp' with e2 | e2
        · exact absurd (by rw [e2]) e
        · show valV ((.inl ((p.1 : Nat) : Int), nV p.2) :: labK r) _ = _
          rw [valV_neg (fun z => e (by have := Sum.inl.inj z; omega))]
          exact ih.yes p' e2
    · show valV ((.inl ((p.1 : Nat) : Int), nV p.2) :: labK r) _ = _
      rw [valV_neg (fun e => hz p List.mem_cons_self (Sum.inl.inj e))]
      exact ih.no z fun p' hp' => hz p' (List.mem_cons_of_mem _ hp')
theorem merge_lab : ∀ {r q : List (Nat × Nat)}, ((q ++ r).map (·.1)).Nodup → mergeK (labK q) (labK r) = labK (q ++ r)
  | [], q, _ => by
    rw [List.append_nil]
    rfl
  | p :: r, q, h => by
    have h2 : (((q ++ [p]) ++ r).map (·.1)).Nodup := by rw [List.append_assoc]; exact h
    have hq : (q.map (·.1)).Nodup := by
      rw [List.map_append] at h
      exact (List.nodup_append.mp h).1
    have hn : valV (labK q) (.inl ((p.1 : Nat) : Int)) = none := (lab_of hq).no _ fun p' hp' e => by
      rw [List.map_append, List.map_cons] at h
      exact (List.nodup_append.mp h).2.2 p'.1 (List.mem_map.mpr ⟨p', hp', rfl⟩) p.1 List.mem_cons_self (by omega)
    show mergeK (putK (labK q) (.inl ((p.1 : Nat) : Int)) (nV p.2)) (labK r) = _
    rw [putK_new _ hn]
    have e : labK q ++ [((.inl ((p.1 : Nat) : Int) : Key), nV p.2)] = labK (q ++ [p]) := by
      unfold labK
      rw [List.map_append]
      rfl
    rw [e, merge_lab h2, List.append_assoc]
    rfl
theorem tps_paired : ∀ {r : List (Nat × Nat)} {acc : List V}, TP H acc r → ∃ ps : List Addr, acc = ps.map V.ref ∧ Paired (fun p kv => SqT K H p [kV kv.1, kv.2]) ps (labK r)
  | [], acc, h => ⟨[], List.length_eq_zero_iff.mp h.1, .nil⟩
  | p :: r, [], h => absurd h.1 (by simp)
  | p :: r, v :: acc, h => by
    obtain ⟨T, h1, h2⟩ := h.2 0 p rfl
    cases h1
    obtain ⟨ps, e, hp⟩ := tps_paired (r := r) (acc := acc) ⟨Nat.succ.inj h.1, fun i p' e => h.2 (i + 1) p' e⟩
    exact ⟨T :: ps, by rw [e]; rfl, .cons (.of h2) hp⟩
end
end Lawk17

namespace Lawk17
open PySem PySem.Spec PyProof.Rows L2 MK
section
variable {K : PySem.W.Frag} {F G : List SP} {H : Hp} {Q : VK} {a D : Addr} {σ : L2.St} {g : TG} {tt : TT} {te : TE} {vs : List Nat}
theorem cutT {t : TT} {σ : L2.St} {H : Hp} {R : Bool → Hp → Prop} (b : Bool) (H' : Hp) (h : R b H') (i : ∀ R : Bool → Hp → Prop, R b H' → t σ H R) : t σ H R := i R h
/-- [f(x) for x in xs if p(x)], over whole numbers -/
theorem lc_nats {xs : List Nat} (gx : V → L2.St) (p : Nat → Bool) (f : Nat → Nat) (S : Star H (pt a (.lst (xs.map nV)) :: G)) (hz : xs.length ≤ 16777216) (hD : H D = none) (hg : ∀ x H Q, Q (gx x) H → g x (wipe σ vs) H Q) (hw : ∀ x, wipe (gx x) vs = wipe σ vs)
    (ht : ∀ (x : Nat) H D acc (R : Bool → Hp → Prop), x ∈ xs → Star H (pt D (.lst acc) :: pt a (.lst (xs.map nV)) :: G) → R (p x) H → tt (gx (nV x)) H R)
    (he : ∀ (x : Nat) H D acc (R : VK), x ∈ xs → p x = true → Star H (pt D (.lst acc) :: pt a (.lst (xs.map nV)) :: G) → R (nV (f x)) H → te (gx (nV x)) H R)
    (q : ∀ H1, Star H1 (pt D (.lst (((xs.filter p).map f).map nV)) :: pt a (.lst (xs.map nV)) :: G) → Q (.ref D) H1) : LoopC (Itl K a) g tt te vs σ D H Q := by
  refine LoopC.it (walk_list (a := a) (xs := xs.map nV)) (fun j H => Star H (pt D (.lst ((((xs.take j).filter p).map f).map nV)) :: pt a (.lst (xs.map nV)) :: G)) (S.newL hD) (fun j H _ z => .of z.p1.get) ?_ ?_
  · rintro j v H1 H2 hj S ⟨rfl, hv⟩
    rw [List.getElem?_map] at hv
    obtain ⟨x, hx, rfl⟩ := Option.map_eq_some_iff.mp hv
    have hm := List.mem_of_getElem? hx
    refine hg _ _ _ ⟨hw _, ?_⟩
    refine ht x _ D _ _ hm S ?_
    have hl : ((((xs.take j).filter p).map f).map nV).length ≤ j := by
      rw [List.length_map, List.length_map]
      exact Nat.le_trans (List.length_filter_le _ _) (by rw [List.length_take]; omega)
    rw [List.length_map] at hj
    have e : xs.take (j + 1) = xs.take j ++ [x] := by rw [List.take_succ, hx]; rfl
    cases hp : p x with
    | true =>
      rw [if_pos rfl]
      refine he x _ D _ _ hm hp S ⟨_, S.get, by rw [sizeLine_eq]; omega, ?_⟩
      rw [e, List.filter_append, List.filter_cons_of_pos hp, List.filter_nil, List.map_append, List.map_append]
      exact S.updL
    | false =>
      rw [if_neg Bool.false_ne_true, e, List.filter_append, List.filter_cons_of_neg (by rw [hp]; exact Bool.false_ne_true), List.filter_nil, List.append_nil]
      exact S
  · intro H1 S
    rw [List.length_map, List.take_length] at S
    exact q H1 S
end
end Lawk17

namespace Lawk17
open PySem PySem.Spec PyProof.Rows L2 MK
/-! tours: the makes' two marks in an order -/
def mks (n : Nat) : List (Nat × Nat) := (List.range n).map fun k => (2 * k, 2 * k + 1)
theorem mks_len (n : Nat) : (mks n).length = n := by
  unfold mks
  rw [List.length_map, List.length_range]
theorem mks_at {n k : Nat} (h : k < n) : (mks n)[k]? = some (2 * k, 2 * k + 1) := by
  unfold mks
  rw [List.getElem?_map, List.getElem?_range h]
  rfl
theorem mks_succ (n : Nat) : mks (n + 1) = mks n ++ [(2 * n, 2 * n + 1)] := by
  unfold mks
  rw [List.range_succ, List.map_append]
  rfl
/-- all marks below g stand -/
structure Full (r : List (Nat × Nat)) (g : Nat) : Prop where
  len : r.length = g
  all : ∀ m : Nat, m < g → ∃ i lb : Nat, r[i]? = some (m, lb)
section
variable {r : List (Nat × Nat)} {g i m lb : Nat}
theorem Full.bhd (h : Full r g) (o : OrdOk r g) (hi : i < r.length) : Full (bhd r g i) (g + 1) := by
  refine ⟨by rw [bhd_len hi, h.len], fun m hm => ?_⟩
  by_cases e : m = g
  · subst e
    exact ⟨i + 1, newL r i, by rw [bhd_at hi, if_neg (by omega), if_pos rfl]⟩
  · obtain ⟨j, lb, hj⟩ := h.all m (by omega)
    obtain ⟨lb', hj'⟩ := ahd_mark (j := i) hj
    by_cases hji : j < i + 1
    · exact ⟨j, lb', by rw [bhd_at hi, if_pos hji]; exact hj'⟩
    · exact ⟨j + 1, lb', by rw [bhd_at hi, if_neg (by omega), if_neg (by omega)]; exact hj'⟩
theorem bhd_new (hi : i < r.length) : (bhd r g i)[i + 1]? = some (g, newL r i) := by rw [bhd_at hi, if_neg (by omega), if_pos rfl]
theorem full2 : Full (bhd [(0, 0)] 1 0) 2 := Full.bhd (r := [(0, 0)]) (g := 1) (i := 0) ⟨rfl, fun m hm => ⟨0, 0, by
  have e : m = 0 := by omega
  subst e
  rfl⟩⟩ ord1 (by decide)
theorem bhd2 : bhd [(0, 0)] 1 0 = [(0, 0), (1, 512)] := by decide
theorem anew2 : anewN [(0, 0)] 0 = 0 := by decide
end
/-- two marks behind a make's coming -/
def grw (r : List (Nat × Nat)) (g i : Nat) : List (Nat × Nat) := bhd (bhd r g i) (g + 1) (i + 1)
def grwN (r : List (Nat × Nat)) (g i : Nat) : Nat := anewN r i + anewN (bhd r g i) (i + 1)
abbrev Tour_o (K : PySem.W.Frag) (t dx o bm : Addr) : SP := pt t (.ins (He.ga K "Tour") dx [("placed", .ref o), ("both_marks", .ref bm)])
def tour (K : PySem.W.Frag) (t : Addr) (r : List (Nat × Nat)) (n tm : Nat) : SP := ex fun dx : Addr => ex fun o : Addr => ex fun bm : Addr => ex fun vs : List V => sep [pr (Full r (2 * n) ∧ 1 ≤ n), Tour_o K t dx o bm, ord K o r (2 * n) tm, pt bm (.lst vs), tps vs (mks n)]
section
variable {K : PySem.W.Frag} {F : List SP} {H : Hp} {Q : VK} {E : XK} {t dx o bm : Addr} {r : List (Nat × Nat)} {n tm m lb i : Nat} {vs : List V}
theorem tour_iff : Star H (tour K t r n tm :: F) ↔ ∃ dx o bm vs, (Full r (2 * n) ∧ 1 ≤ n) ∧ Star H (Tour_o K t dx o bm :: ord K o r (2 * n) tm :: pt bm (.lst vs) :: tps vs (mks n) :: F) := by
  unfold tour
  simp only [Star.ex_iff, Star.sep_iff, List.cons_append, List.nil_append, Star.pr_iff]
theorem tour_ok (S : Star H (tour K t r n tm :: F)) : (Full r (2 * n) ∧ 1 ≤ n) ∧ OrdOk r (2 * n) := by
  obtain ⟨_, _, _, _, h, S⟩ := tour_iff.mp S
  exact ⟨h, ord_ok S.p1⟩
abbrev isTour (m : Str) : Prop := m ≠ "placed" ∧ m ≠ "both_marks"
theorem lookT {m : Str} {v u : V} (h : isTour m) : List.lookup m [("placed", v), ("both_marks", u)] = none := by
  have h1 : (m == ("placed" : Str)) = false := beq_eq_false_iff_ne.mpr h.1
  have h2 : (m == ("both_marks" : Str)) = false := beq_eq_false_iff_ne.mpr h.2
  simp [List.lookup, h1, h2]
theorem dsp_t {spT : Sp} {m : Str} {R : Sp → Prop} (S : Star H (tour K t r n tm :: F)) (h : isTour m) (q : R spT) : dspX [(He.ga K "Tour", spT)] m (.ref t) H R := by
  obtain ⟨dx, o, bm, vs, _, S⟩ := tour_iff.mp S
  exact dsp_i S.get List.mem_cons_self (lookT h) q
theorem dsp_ot {spO spT : Sp} {m : Str} {R : Sp → Prop} (S : Star H (tour K t r n tm :: F)) (h : isTour m) (q : R spT) : dspX [(He.ga K "Order", spO), (He.ga K "Tour", spT)] m (.ref t) H R := by
  obtain ⟨dx, o, bm, vs, _, S⟩ := tour_iff.mp S
  exact dsp_i S.get (List.mem_cons_of_mem _ List.mem_cons_self) (lookT h) q
theorem Tour_init_ok (S : Star H (pt t (.ins (He.ga K "Tour") dx []) :: F)) (k : ∀ H', Star H' (tour K t [(0, 0), (1, 512)] 1 0 :: F) → Q .non H') : sp_Tour_init K [.ref t] H Q E := by
  refine sp_Tour_init_i ?_
  walk_at "w"
  intro x dx1 hx hd hne
  refine Order_init_ok (S.mkI hx hd hne) fun H1 S => ?_
  walk_at "go"
  refine stf_S S.p1 List.mem_cons_self (by decide) fun H1 S => ?_
  walk_at "go"
  refine dsp_o S.p1 (by decide +kernel) ?_
  walk_at "go"
  refine Order_behind_ok (t := x) (i := 0) (m := 0) (lb := 0) S.p1 rfl (by decide) (by decide) fun H2 S => ?_
  rw [bhd2, anew2] at S
  walk_at "go"
  refine al_t S fun T H3 S => ?_
  walk_at "go"
  refine al_l S fun bm H4 S => ?_
  walk_at "go"
  refine stf_S S.p3 List.mem_cons_self (by show 1 < 1000; decide) fun H5 S => ?_
  walk_at "w"
  have hT : TP H5 ([] ++ [.ref T]) ([] ++ [((0 : Nat), (1 : Nat))]) := TP.nil.snoc (p := (0, 1)) (Star.getF (o := .tup [nV 0, nV 1]) (S.fr (by walk_at "fr")))
  have hf : Full [(0, 0), (1, 512)] (2 * 1) ∧ 1 ≤ 1 := by
    have := full2
    rw [bhd2] at this
    exact ⟨this, Nat.le_refl _⟩
  exact k _ (tour_iff.mpr ⟨dx, x, bm, [.ref T], hf, (S.tadd hT).fr (Fr.c1 (Fr.c3 (Fr.c1 (Fr.c0 (by walk_at "fr")))))⟩)
theorem Tour_many_ok (S : Star H (tour K t r n tm :: F)) (k : Q (nV n) H) : sp_Tour_many K [.ref t] H Q E := by
  obtain ⟨dx, o, bm, vs, _, S⟩ := tour_iff.mp S
  have hv := S.p3.tp.1
  rw [mks_len] at hv
  refine sp_Tour_many_i ?_
  walk_at "go"
  rw [hv]
  exact k
theorem Tour_need_ok (S : Star H (Tour_o K t dx o bm :: pt bm (.lst vs) :: F)) (hv : vs.length = n) (hm : m < n) (k : Q .non H) : sp_Tour_need_make K [.ref t, nV m] H Q E := by
  refine sp_Tour_need_make_i ?_
  walk_at "go"
  have S1 : Star H (dat (nV m) (.int (m : Nat)) :: F) := S.fr (by walk_at "fr")
  refine is_whole_ok S1 ?_
  rw [wholeD_int, decide_eq_true (by omega), decide_eq_true (by omega)]
  walk_at "go"
  exact k
theorem Tour_grow_ok (S : Star H (tour K t r n tm :: F)) (hi : r[i]? = some (2 * m, lb)) (hm : m < n) (hn : n < 64) (k : ∀ H', Star H' (tour K t (grw r (2 * n) i) (n + 1) (tm + grwN r (2 * n) i) :: F) → Q (nV n) H') : sp_Tour_grow K [.ref t, nV m] H Q E := by
  obtain ⟨dx, o, bm, vs, ⟨hf, h1⟩, S⟩ := tour_iff.mp S
  have oo := ord_ok S.p1
  have hT := S.p3.tp
  have hv := hT.1
  rw [mks_len] at hv
  have hil := (List.getElem?_eq_some_iff.mp hi).1
  have hrl := hf.len
  obtain ⟨T, h2, h3⟩ := hT.2 m _ (mks_at hm)
  refine sp_Tour_grow_i ?_
  walk_at "go"
  refine Tour_need_ok (S.fr (by walk_at "fr")) hv hm ?_
  walk_at "go"
  rw [hv]
  refine brd (fun hc => absurd hc (by omega)) (fun _ => ?_)
  walk_at "go"
  refine dsp_o S.p1 (by decide +kernel) ?_
  walk_at "go"
  refine ix_l S.p2.get (atI_n h2) ?_
  walk_at "go"
  refine ix_t h3 (show atI [nV (2 * m), nV (2 * m + 1)] 0 = some (nV (2 * m)) from rfl) ?_
  refine Order_behind_ok (t := o) (r := r) (g := 2 * n) (tm := tm) (S.fr (by walk_at "fr")) hi (by omega) (by omega) fun H1 S => ?_
  walk_at "go"
  refine dsp_o S (by decide +kernel) ?_
  walk_at "go"
  refine Order_behind_ok (t := o) S (bhd_new hil) (by rw [bhd_len hil]; omega) (by omega) fun H2 S => ?_
  walk_at "go"
  refine al_t S fun T2 H3 S => ?_
  walk_at "go"
  refine app_S (a := bm) (xs := vs) (S.fr (by walk_at "fr")) (by omega) fun H4 S => ?_
  walk_at "go"
  rw [List.length_append, List.length_singleton, hv]
  have e : ((n + 1 : Nat) : Int) - 1 = ((n : Nat) : Int) := by omega
  rw [e]
  have hT2 : TP H4 (vs ++ [.ref T2]) (mks (n + 1)) := by
    rw [mks_succ]
    exact (Star.tp (vs := vs) (r := mks n) (S.fr (by walk_at "fr"))).snoc (p := (2 * n, 2 * n + 1)) (Star.getF (o := .tup [nV (2 * n), nV (2 * n + 1)]) (S.fr (by walk_at "fr")))
  have ob := bhd_ok oo hil (by omega)
  have hf2 : Full (grw r (2 * n) i) (2 * (n + 1)) := (hf.bhd oo hil).bhd ob (by rw [bhd_len hil]; omega)
  have e2 : 2 * (n + 1) = 2 * n + 1 + 1 := by omega
  have e3 : tm + grwN r (2 * n) i = tm + anewN r i + anewN (bhd r (2 * n) i) (i + 1) := by
    unfold grwN
    omega
  refine k _ (tour_iff.mpr ⟨dx, o, bm, vs ++ [.ref T2], ⟨hf2, by omega⟩, ?_⟩)
  rw [e2, e3]
  exact (S.tadd hT2).fr (by walk_at "fr")
theorem Tour_order_ok (S : Star H (tour K t r n tm :: F)) (k : ∀ H' u, Star H' (ord K u r (2 * n) tm :: tour K t r n tm :: F) → Q (.ref u) H') : sp_Tour_order K [.ref t] H Q E := by
  obtain ⟨dx, o, bm, vs, hf, S⟩ := tour_iff.mp S
  refine sp_Tour_order_i ?_
  walk_at "go"
  refine dsp_o S.p1 (by decide +kernel) ?_
  walk_at "go"
  refine Order_copied_ok S.p1 fun H1 u S => ?_
  exact k _ u (Star.p1 (tour_iff.mpr ⟨dx, o, bm, vs, hf, S.fr (by walk_at "fr")⟩))
/-- the makes by the marks of one side -/
def side (s : Nat) (r : List (Nat × Nat)) : List Nat := ((r.map (·.1)).filter fun m => decide (m % 2 = s)).map (· / 2)
def ownr (n s : Nat) : List (Nat × Nat) := (List.range n).map fun k => (2 * k + s, k)
theorem ownr_nd (n s : Nat) : ((ownr n s).map (·.1)).Nodup := by
  have e : (ownr n s).map (·.1) = (List.range n).map fun k => 2 * k + s := by
    unfold ownr
    rw [List.map_map]
    rfl
  rw [e]
  exact List.nodup_range.map _ fun a b hab z => hab (by have : 2 * a + s = 2 * b + s := z; omega)
theorem ownr_lab (n s : Nat) : Lab (labK (ownr n s)) (ownr n s) := lab_of (ownr_nd n s)
theorem ownr_yes {k s : Nat} (hk : k < n) : valV (labK (ownr n s)) (.inl ((2 * k + s : Nat) : Int)) = some (nV k) := (ownr_lab n s).yes (2 * k + s, k) (List.mem_map.mpr ⟨k, List.mem_range.mpr hk, rfl⟩)
theorem ownr_no {m s : Nat} (hs : s < 2) (h : m % 2 ≠ s) : valV (labK (ownr n s)) (.inl ((m : Nat) : Int)) = none := (ownr_lab n s).no _ fun p hp e => by
  obtain ⟨k, _, rfl⟩ := List.mem_map.mp hp
  have : 2 * k + s = m := by omega
  omega
theorem Tour_by_ok {s : Nat} (S : Star H (tour K t r n tm :: F)) (hs : s < 2) (hn : n ≤ 64) (k : ∀ H' f, Star H' (pt f (.lst ((side s r).map nV)) :: tour K t r n tm :: F) → Q (.ref f) H') : sp_Tour_by_marks K [.ref t, nV s] H Q E := by
  obtain ⟨dx, o, bm, vs, ⟨hf, h1⟩, S⟩ := tour_iff.mp S
  have oo := ord_ok S.p1
  have hv := S.p3.tp.1
  rw [mks_len] at hv
  refine sp_Tour_by_marks_i ?_
  walk_at "go"
  refine en_l S.p2.get ?_
  intro D hD
  refine LoopC.it walk_enum (fun j H => ∃ acc, Star H (pt D (.lst acc) :: tps acc ((ownr n s).take j) :: Tour_o K t dx o bm :: ord K o r (2 * n) tm :: pt bm (.lst vs) :: tps vs (mks n) :: F)) ⟨[], Star.p1 ((S.newL (ys := []) hD).tadd (vs := []) (r := (ownr n s).take 0) TP.nil)⟩ (fun j H _ ⟨acc, z⟩ => .of z.p4.get) ?_ ?_
  · rintro j v H1 H2 hj ⟨acc, S⟩ y
    obtain ⟨T0, x, z, rfl, e2, e3, S⟩ := pair_S S y
    cases e2
    have hj' : j < n := by omega
    obtain ⟨T1, h3, h4⟩ := (S.p6.tp).2 j _ (mks_at hj')
    have e4 : z = .ref T1 := by
      have e5 : vs[j]? = some z := e3
      rw [e5] at h3
      exact Option.some.inj h3
    subst e4
    unfold gU
    refine unp_t S.getF rfl ⟨rfl, ?_⟩
    unfold tYes
    show (if true = true then _ else _)
    rw [if_pos rfl]
    walk_at "go"
    refine ix_t h4 (v := nV (2 * j + s)) (atI_n ?_) ?_
    · match s, hs with
      | 0, _ => rfl
      | 1, _ => rfl
    walk_at "go"
    refine al_t S fun T2 H3 S => ?_
    have e7 : (ownr n s).take (j + 1) = (ownr n s).take j ++ [(2 * j + s, j)] := by
      rw [List.take_succ]
      unfold ownr
      rw [List.getElem?_map, List.getElem?_range hj']
      rfl
    have hal := (S.p3.tp).1
    rw [List.length_take] at hal
    refine ⟨acc, S.p2.get, by rw [sizeLine_eq]; omega, acc ++ [.ref T2], ?_⟩
    have S3 : Star (upd H3 D (.lst (acc ++ [.ref T2]))) (pt D (.lst (acc ++ [.ref T2])) :: fx T2 (.tup [nV (2 * j + s), nV j]) :: tps acc ((ownr n s).take j) :: Tour_o K t dx o bm :: ord K o r (2 * n) tm :: pt bm (.lst vs) :: tps vs (mks n) :: F) := Star.updL (S.fr (by walk_at "fr"))
    have S4 := S3.tadd ((S3.p2.tp).snoc (p := (2 * j + s, j)) S3.p1.getF)
    rw [← e7] at S4
    exact S4.fr (Fr.c1 (Fr.c0 (by walk_at "fr")))
  · rintro H1 ⟨acc, S⟩
    have hol : (ownr n s).length = n := by
      unfold ownr
      rw [List.length_map, List.length_range]
    rw [show (ownr n s).take vs.length = ownr n s from List.take_of_length_le (by omega)] at S
    obtain ⟨ps, eps, hps⟩ : ∃ ps : List Addr, acc = ps.map V.ref ∧ Paired (fun p kv => SqT K H1 p [kV kv.1, kv.2]) ps (labK (ownr n s)) := tps_paired S.p1.tp
    walk_at "go"
    refine dctp_S (a := D) (ps := ps) (kvs := labK (ownr n s)) S (by rw [← eps]; exact S.get) hps fun d H2 S => ?_
    have em : mergeK [] (labK (ownr n s)) = labK (ownr n s) := merge_lab (q := []) (by rw [List.nil_append]; exact ownr_nd n s)
    rw [em] at S
    have S : Star H2 (ord K o r (2 * n) tm :: pt d (.dK (labK (ownr n s))) :: Tour_o K t dx o bm :: pt bm (.lst vs) :: tps vs (mks n) :: F) := S.fr (Fr.c4 (Fr.c0 (Fr.c2 (Fr.c2 (Fr.c2 (by walk_at "fr"))))))
    walk_at "go"
    refine dsp_o S (by decide +kernel) ?_
    walk_at "go"
    refine Order_marks_ok S fun H3 f S => ?_
    rw [mkV_eq] at S
    have hrl := hf.len
    walk_at "w"
    refine it_l S.get ?_
    intro D2 hD2
    refine lc_nats (K := K) (xs := r.map (·.1)) _ (fun m => decide (m % 2 = s)) (· / 2) S (by rw [List.length_map]; omega) hD2 (fun x H Q q => q) (fun x => rfl) ?_ ?_ fun H4 S => ?_
    · intro m H D3 acc R hm S q
      obtain ⟨p, hp, rfl⟩ := List.mem_map.mp hm
      have hpl := oo.lt p hp
      refine cutT (decide (p.1 % 2 = s)) H q fun R h => ?_
      walk_at "go"
      refine in_di (S.p3.get) ?_
      by_cases z : p.1 % 2 = s
      · rw [decide_eq_true z] at h
        have e : p.1 = 2 * (p.1 / 2) + s := by omega
        have := ownr_yes (n := n) (s := s) (k := p.1 / 2) (by omega)
        rw [← e] at this
        rw [this]
        exact h
      · rw [decide_eq_false z] at h
        rw [ownr_no hs z]
        exact h
    · intro m H D3 acc R hm hp S q
      obtain ⟨p, hp', rfl⟩ := List.mem_map.mp hm
      have hpl := oo.lt p hp'
      have z : p.1 % 2 = s := of_decide_eq_true hp
      have e : p.1 = 2 * (p.1 / 2) + s := by omega
      have hy := ownr_yes (n := n) (s := s) (k := p.1 / 2) (by omega)
      rw [← e] at hy
      walk_at "go"
      exact ixd_i S.p3.get hy q
    · have S5 : Star H4 (Tour_o K t dx o bm :: ord K o r (2 * n) tm :: pt bm (.lst vs) :: tps vs (mks n) :: pt D2 (.lst ((side s r).map nV)) :: F) := S.fr (by walk_at "fr")
      exact k _ _ (Star.p1 (tour_iff.mpr ⟨dx, o, bm, vs, ⟨hf, h1⟩, S5⟩))
theorem Tour_coming_ok (S : Star H (tour K t r n tm :: F)) (hn : n ≤ 64) (k : ∀ H' f, Star H' (pt f (.lst ((side 0 r).map nV)) :: tour K t r n tm :: F) → Q (.ref f) H') : sp_Tour_coming K [.ref t] H Q E := by
  refine sp_Tour_coming_i ?_
  walk_at "go"
  refine dsp_t S (by decide +kernel) ?_
  walk_at "go"
  exact Tour_by_ok (s := 0) S (by decide) hn k
theorem Tour_leaving_ok (S : Star H (tour K t r n tm :: F)) (hn : n ≤ 64) (k : ∀ H' f, Star H' (pt f (.lst ((side 1 r).map nV)) :: tour K t r n tm :: F) → Q (.ref f) H') : sp_Tour_leaving K [.ref t] H Q E := by
  refine sp_Tour_leaving_i ?_
  walk_at "go"
  refine dsp_t S (by decide +kernel) ?_
  walk_at "go"
  exact Tour_by_ok (s := 1) S (by decide) hn k
end
end Lawk17


namespace Lawk17
open PySem PySem.Spec PyProof.Rows L2 MK
/-! odd things: data, a dict of texts, the tour itself, a list that holds it -/
inductive Kd where
  | data (d : PyData)
  | dic (kvs : List (Key × V))
  | own
  | lown
def Kd.whole : Kd → Int → Int → Bool
  | .data d, lo, hi => wholeD d lo hi
  | _, _, _ => false
def Kd.flat : Kd → Prop
  | .data (.dict _) => False
  | .dic kvs => ∀ p ∈ kvs, valV kvs p.1 = some p.2 ∧ flatB p.2 = true
  | _ => True
/-- no make of so many -/
def noT (n : Nat) (k : Kd) : Prop := k.whole 0 ((n : Nat) - 1 : Int) = false
def odt (K : PySem.W.Frag) (t : Addr) (v : V) : Kd → SP
  | .data d => dat v d
  | .dic kvs => ex fun a : Addr => sep [pr (v = .ref a), pt a (.dK kvs)]
  | .own => pr (v = .ref t)
  | .lown => ex fun a : Addr => sep [pr (v = .ref a), pt a (.lst [.ref t])]
section
variable {K : PySem.W.Frag} {F : List SP} {H : Hp} {Q : VK} {E : XK} {t a D : Addr} {r : List (Nat × Nat)} {n tm m lb i : Nat} {v x : V} {lo hi : Int} {k : Kd} {d : PyData} {kvs : List (Key × V)}
theorem odt_dic : Star H (odt K t v (.dic kvs) :: F) ↔ ∃ a : Addr, v = .ref a ∧ Star H (pt a (.dK kvs) :: F) := Star.ex_iff.trans (exists_congr fun a => Star.sep_iff.trans Star.pr_iff)
theorem odt_own : Star H (odt K t v .own :: F) ↔ v = .ref t ∧ Star H F := Star.pr_iff
theorem odt_lown : Star H (odt K t v .lown :: F) ↔ ∃ a : Addr, v = .ref a ∧ Star H (pt a (.lst [.ref t]) :: F) := Star.ex_iff.trans (exists_congr fun a => Star.sep_iff.trans Star.pr_iff)
theorem ins_t (S : Star H (tour K t r n tm :: F)) : ∃ dx fs, H t = some (.ins (He.ga K "Tour") dx fs) := by
  obtain ⟨dx, o, bm, vs, _, S⟩ := tour_iff.mp S
  exact ⟨dx, _, S.get⟩
theorem isi_odt {ty : Ty} (hty : ty = .int ∨ ty = .bool) (S : Star H (odt K t v k :: tour K t r n tm :: F)) (hk : ∀ d, k ≠ .data d) (q : Q (.bl false) H) : isiV K [ty] [He.ga K "Order", He.ga K "Tour"] v H Q := by
  have fin : ∀ {u : V}, isiX K [ty] [He.ga K "Order", He.ga K "Tour"] u H Q → (∃ a, u = .ref a) → isiV K [ty] [He.ga K "Order", He.ga K "Tour"] u H Q := fun {u} h => by
    rintro ⟨a, rfl⟩
    exact h
  cases k with
  | data d => exact absurd rfl (hk d)
  | dic kvs =>
    obtain ⟨a, rfl, S2⟩ := odt_dic.mp S
    refine fin (isi_d S2.get ?_) ⟨_, rfl⟩
    rcases hty with rfl | rfl <;> exact q
  | own =>
    obtain ⟨rfl, S2⟩ := odt_own.mp S
    obtain ⟨dx, fs, h⟩ := ins_t S2
    exact fin (isi_i h (List.mem_cons_of_mem _ List.mem_cons_self) q) ⟨_, rfl⟩
  | lown =>
    obtain ⟨a, rfl, S2⟩ := odt_lown.mp S
    refine fin (isi_l S2.get ?_) ⟨_, rfl⟩
    rcases hty with rfl | rfl <;> exact q
theorem is_whole_odt (S : Star H (odt K t v k :: tour K t r n tm :: F)) (q : Q (.bl (k.whole lo hi)) H) : sp_is_whole K [v, .int lo, .int hi] H Q E := by
  by_cases hk : ∃ d, k = .data d
  · obtain ⟨d, rfl⟩ := hk
    exact is_whole_ok (F := tour K t r n tm :: F) S q
  · have hk2 : ∀ d, k ≠ .data d := fun d z => hk ⟨d, z⟩
    have e : k.whole lo hi = false := by
      cases k with
      | data d => exact absurd rfl (hk2 d)
      | _ => rfl
    rw [e] at q
    refine sp_is_whole_i ?_
    refine ⟨rfl, isi_odt (.inl rfl) S hk2 ?_⟩
    walk_at "go"
    exact q
/-- what v != v says, what isinstance(v, bool) says, by the kind of value -/
theorem odt_five (S : Star H (odt K t v k :: tour K t r n tm :: F)) (hfl : k.flat) :
    v = .non ∨ (∃ b, v = .bl b) ∨ (∃ i, v = .int i) ∨ (∃ i, v = .str i) ∨ ∃ a, v = .ref a ∧ (∀ Q : VK, Q (.bl false) H → neXs K [He.ga K "Order", He.ga K "Tour"] (.ref a) (.ref a) H Q) ∧ (∀ Q : VK, Q (.bl false) H → isiX K [.bool] [He.ga K "Order", He.ga K "Tour"] (.ref a) H Q) := by
  have h3 : (∀ d, k ≠ .data d) → ∀ Q : VK, Q (.bl false) H → isiV K [.bool] [He.ga K "Order", He.ga K "Tour"] v H Q := fun hk Q q => isi_odt (.inr rfl) S hk q
  have fin : (∀ d, k ≠ .data d) → (∀ Q : VK, Q (.bl false) H → neXs K [He.ga K "Order", He.ga K "Tour"] v v H Q) → (∃ a, v = .ref a) → ∃ a, v = .ref a ∧ (∀ Q : VK, Q (.bl false) H → neXs K [He.ga K "Order", He.ga K "Tour"] (.ref a) (.ref a) H Q) ∧ (∀ Q : VK, Q (.bl false) H → isiX K [.bool] [He.ga K "Order", He.ga K "Tour"] (.ref a) H Q) := by
    rintro hk h1 ⟨a, rfl⟩
    exact ⟨a, rfl, h1, h3 hk⟩
  cases k with
  | data d =>
    have S : Star H (dat v d :: tour K t r n tm :: F) := S
    cases d with
    | none => exact .inl (dat_n.mp S).1
    | bool b => exact .inr (.inl ⟨b, (dat_b.mp S).1⟩)
    | int i => exact .inr (.inr (.inl ⟨i, (dat_i.mp S).1⟩))
    | str i => exact .inr (.inr (.inr (.inl ⟨i, (dat_s.mp S).1⟩)))
    | list ds =>
      obtain ⟨a, xs, rfl, S2⟩ := dat_l.mp S
      exact .inr (.inr (.inr (.inr ⟨a, rfl, fun Q q => nes_self (.inl ⟨_, S2.get⟩) q, fun Q q => isi_l S2.get q⟩)))
    | tuple ds =>
      obtain ⟨a, xs, rfl, S2⟩ := dat_t.mp S
      exact .inr (.inr (.inr (.inr ⟨a, rfl, fun Q q => nes_self (.inr (.inl ⟨_, S2.getF⟩)) q, fun Q q => isi_t S2.getF q⟩)))
    | dict kvs => exact hfl.elim
  | dic kvs =>
    obtain ⟨a, e, S2⟩ := odt_dic.mp S
    refine .inr (.inr (.inr (.inr (fin (fun d z => nomatch z) (fun Q q => ?_) ⟨a, e⟩))))
    rw [e]
    exact nes_old (ne_dk S2.get S2.get rfl hfl q)
  | own =>
    obtain ⟨e, S2⟩ := odt_own.mp S
    obtain ⟨dx, fs, h⟩ := ins_t S2
    refine .inr (.inr (.inr (.inr (fin (fun d z => nomatch z) (fun Q q => ?_) ⟨t, e⟩))))
    rw [e]
    exact nes_self (.inr (.inr ⟨_, _, _, h, List.mem_cons_of_mem _ List.mem_cons_self⟩)) q
  | lown =>
    obtain ⟨a, e, S2⟩ := odt_lown.mp S
    refine .inr (.inr (.inr (.inr (fin (fun d z => nomatch z) (fun Q q => ?_) ⟨a, e⟩))))
    rw [e]
    exact nes_self (.inl ⟨_, S2.get⟩) q
theorem Tour_need_odt (S0 : Star H (odt K t v k :: tour K t r n tm :: F)) (hb : noT n k) (kk : ∀ H' e, Star H' (pt e (.xd [("found", v)]) :: odt K t v k :: tour K t r n tm :: F) → E (.ref (He.ga K "NoMake")) (some e) H') : sp_Tour_need_make K [.ref t, v] H Q E := by
  obtain ⟨dx, o, bm, vs, hf, S⟩ := tour_iff.mp S0.p1
  have hv : vs.length = n := by
    have h := S.p3.tp.1
    rw [h, mks_len]
  refine sp_Tour_need_make_i ?_
  walk_at "go"
  rw [hv]
  refine is_whole_odt S0 ?_
  rw [hb]
  walk_at "go"
  refine nwx_S (fs' := [("found", v)]) S0 fun e H1 S => ?_
  exact kk _ _ S
theorem Tour_grow_odt (S0 : Star H (odt K t v k :: tour K t r n tm :: F)) (hb : noT n k) (kk : ∀ H' e, Star H' (pt e (.xd [("found", v)]) :: odt K t v k :: tour K t r n tm :: F) → E (.ref (He.ga K "NoMake")) (some e) H') : sp_Tour_grow K [.ref t, v] H Q E := by
  obtain ⟨dx, o, bm, vs, hf, S⟩ := tour_iff.mp S0.p1
  refine sp_Tour_grow_i ?_
  walk_at "go"
  exact Tour_need_odt S0 hb kk
theorem Tour_marks_odt (S0 : Star H (odt K t v k :: tour K t r n tm :: F)) (hb : noT n k) (kk : ∀ H' e, Star H' (pt e (.xd [("found", v)]) :: odt K t v k :: tour K t r n tm :: F) → E (.ref (He.ga K "NoMake")) (some e) H') : sp_Tour_marks_of K [.ref t, v] H Q E := by
  obtain ⟨dx, o, bm, vs, hf, S⟩ := tour_iff.mp S0.p1
  refine sp_Tour_marks_of_i ?_
  walk_at "go"
  exact Tour_need_odt S0 hb kk
theorem Tour_beneath_odt (S0 : Star H (odt K t v k :: tour K t r n tm :: F)) (hb : noT n k) (kk : ∀ H' e, Star H' (pt e (.xd [("found", v)]) :: odt K t v k :: tour K t r n tm :: F) → E (.ref (He.ga K "NoMake")) (some e) H') : sp_Tour_beneath K [.ref t, v] H Q E := by
  obtain ⟨dx, o, bm, vs, hf, S⟩ := tour_iff.mp S0.p1
  refine sp_Tour_beneath_i ?_
  walk_at "go"
  exact Tour_need_odt S0 hb kk
theorem Tour_within_odt (S0 : Star H (odt K t v k :: tour K t r n tm :: F)) (hb : noT n k) (kk : ∀ H' e, Star H' (pt e (.xd [("found", v)]) :: odt K t v k :: tour K t r n tm :: F) → E (.ref (He.ga K "NoMake")) (some e) H') : sp_Tour_within K [.ref t, v, x] H Q E := by
  obtain ⟨dx, o, bm, vs, hf, S⟩ := tour_iff.mp S0.p1
  refine sp_Tour_within_i ?_
  walk_at "go"
  exact Tour_need_odt S0 hb kk
theorem Tour_within_odt2 (S0 : Star H (odt K t v k :: tour K t r n tm :: F)) (hm : m < n) (hb : noT n k) (kk : ∀ H' e, Star H' (pt e (.xd [("found", v)]) :: odt K t v k :: tour K t r n tm :: F) → E (.ref (He.ga K "NoMake")) (some e) H') : sp_Tour_within K [.ref t, nV m, v] H Q E := by
  obtain ⟨dx, o, bm, vs, hf, S⟩ := tour_iff.mp S0.p1
  have hv : vs.length = n := by
    have h := S.p3.tp.1
    rw [h, mks_len]
  refine sp_Tour_within_i ?_
  walk_at "go"
  refine Tour_need_ok (S.fr (by walk_at "fr")) hv hm ?_
  walk_at "go"
  exact Tour_need_odt S0 hb kk
theorem Tour_grow_full (S0 : Star H (tour K t r n tm :: F)) (hm : m < n) (hn : n = 64) (kk : ∀ H' e, Star H' (pt e (.xd [("count", .int 65)]) :: tour K t r n tm :: F) → E (.ref (He.ga K "TooMany")) (some e) H') : sp_Tour_grow K [.ref t, nV m] H Q E := by
  obtain ⟨dx, o, bm, vs, hf, S⟩ := tour_iff.mp S0
  have hv : vs.length = n := by
    have h := S.p3.tp.1
    rw [h, mks_len]
  refine sp_Tour_grow_i ?_
  walk_at "go"
  refine Tour_need_ok (S.fr (by walk_at "fr")) hv hm ?_
  walk_at "go"
  rw [hv, hn]
  walk_at "go"
  refine nwx_S (fs' := [("count", .int 65)]) S0 fun e H1 S => ?_
  exact kk _ _ S
end
end Lawk17

namespace Lawk17
open PySem PySem.Spec PyProof.Rows L2 MK
section
variable {K : PySem.W.Frag} {F : List SP} {H : Hp} {Q : VK} {E : XK} {b t a D f : Addr} {r : List (Nat × Nat)} {fu n tm m lb i way : Nat} {v x : V} {lo hi : Int} {k : Kd} {d : PyData} 
theorem noT_out {z : Int} (h : z < 0 ∨ (n : Int) ≤ z) : noT n (.data (.int z)) := by
  show (decide (0 ≤ z) && decide (z ≤ (n : Nat) - 1)) = false
  rcases h with h | h
  · rw [decide_eq_false (by omega), Bool.false_and]
  · rw [decide_eq_false (p := z ≤ ((n : Nat) : Int) - 1) (by omega), Bool.and_false]
theorem dats1x {p : SP} {z : Int} (S : Star H (p :: F)) : Star H (p :: dats [.int z] [.int z] :: F) := ((dats_c.mpr ⟨_, _, rfl, dat_i.mpr ⟨rfl, dats_n.mpr ⟨rfl, S⟩⟩⟩ : Star H (dats [.int z] [.int z] :: p :: F))).fr (by walk_at "fr")
theorem dats0x {p : SP} (S : Star H (p :: F)) : Star H (p :: dats [] [] :: F) := ((dats_n.mpr ⟨rfl, S⟩ : Star H (dats [] [] :: p :: F))).fr (by walk_at "fr")
theorem L_odd_ok (S : Star H (box2 b (fu + 1) :: tour K t r n tm :: F)) (hn64 : n ≤ 64) (kk : ∀ H' v k, k.flat → noT n k → Star H' (odt K t v k :: box2 b fu :: tour K t r n tm :: F) → Q v H') : sp_L_odd K [.ref b, .ref t, nV n] H Q E := by
  refine sp_L_odd_i ?_
  walk_at "go"
  refine al_l S fun l1 H1 S => ?_
  walk_at "go"
  refine al_t S fun l2 H2 S => ?_
  walk_at "go"
  refine al_d S fun l3 H3 S => ?_
  walk_at "go"
  refine al_l S fun l4 H4 S => ?_
  walk_at "go"
  refine al_l S fun l5 H5 S => ?_
  walk_at "go"
  refine al_l S fun l6 H6 S => ?_
  have S : Star H6 (box2 b (fu + 1) :: pt l6 (.lst _) :: pt l5 (.lst [.ref t]) :: pt l4 (.lst []) :: pt l3 (.dK []) :: fx l2 (.tup [.int 0]) :: pt l1 (.lst [.int 0]) :: tour K t r n tm :: F) := S.fr (by walk_at "fr")
  walk_at "go"
  refine take2_ok (n := fu) S (by decide) fun H7 d hd S => ?_
  walk_at "w"
  refine ix_m S.p1.get (by omega) (by show ((d : Nat) : Int) < 16; exact hd) fun v hv => ?_
  have S : Star H7 (box2 b fu :: tour K t r n tm :: pt l5 (.lst [.ref t]) :: pt l4 (.lst []) :: pt l3 (.dK []) :: fx l2 (.tup [.int 0]) :: pt l1 (.lst [.int 0]) :: F) := S.fr (by walk_at "fr")
  have S0 : Star H7 (box2 b fu :: tour K t r n tm :: F) := S.fr (by walk_at "fr")
  have fin : ∀ d : PyData, Kd.flat (.data d) → noT n (.data d) → Star H7 (dat v d :: box2 b fu :: tour K t r n tm :: F) → Q v H7 := fun d h1 h2 h3 => kk H7 v (.data d) h1 h2 h3
  have S1 : Star H7 (pt l1 (.lst [.int 0]) :: box2 b fu :: tour K t r n tm :: F) := S.fr (by walk_at "fr")
  have S2 : Star H7 (fx l2 (.tup [.int 0]) :: box2 b fu :: tour K t r n tm :: F) := S.fr (by walk_at "fr")
  have S3 : Star H7 (pt l3 (.dK []) :: box2 b fu :: tour K t r n tm :: F) := S.fr (by walk_at "fr")
  have S4 : Star H7 (pt l4 (.lst []) :: box2 b fu :: tour K t r n tm :: F) := S.fr (by walk_at "fr")
  have S5 : Star H7 (pt l5 (.lst [.ref t]) :: box2 b fu :: tour K t r n tm :: F) := S.fr (by walk_at "fr")
  have i1 : ∀ i : Int, v = .int i → (i < 0 ∨ (n : Int) ≤ i) → Q v H7 := fun i e h => fin (.int i) True.intro (noT_out h) (dat_i.mpr ⟨e, S0⟩)
  have b1 : ∀ i : Bool, v = .bl i → Q v H7 := fun i e => fin (.bool i) True.intro rfl (dat_b.mpr ⟨e, S0⟩)
  have s1 : ∀ i : Str, v = .str i → Q v H7 := fun i e => fin (.str i) True.intro rfl (dat_s.mpr ⟨e, S0⟩)
  clear S
  simp only [List.mem_cons, List.not_mem_nil, or_false] at hv
  rcases hv with e | e | e | e | e | e | e | e | e | e | e | e | e | e | e | e
  · exact i1 _ e (.inl (by omega))
  · exact i1 _ e (.inr (by omega))
  · exact i1 _ e (.inr (by omega))
  · exact i1 _ e (.inr (by have h9 : (10 : Int) ^ (Int.toNat 39) = 1000000000000000000000000000000000000000 := by decide
                           omega))
  · exact i1 _ e (.inl (by have h9 : (10 : Int) ^ (Int.toNat 39) = 1000000000000000000000000000000000000000 := by decide
                           omega))
  · exact b1 _ e
  · exact b1 _ e
  · exact fin .none True.intro rfl (dat_n.mpr ⟨e, S0⟩)
  · exact s1 _ e
  · exact s1 _ e
  · exact fin (.list [.int 0]) True.intro rfl (dat_l.mpr ⟨l1, [.int 0], e, dats1x S1⟩)
  · exact fin (.tuple [.int 0]) True.intro rfl (dat_t.mpr ⟨l2, [.int 0], e, dats1x S2⟩)
  · exact kk H7 v (.dic []) (fun p hp => nomatch hp) rfl (odt_dic.mpr ⟨l3, e, S3⟩)
  · exact fin (.list []) True.intro rfl (dat_l.mpr ⟨l4, [], e, dats0x S4⟩)
  · exact kk H7 v .own True.intro rfl (odt_own.mpr ⟨e, S0⟩)
  · exact kk H7 v .lown True.intro rfl (odt_lown.mpr ⟨l5, e, S5⟩)
theorem L_call_bad1 (S : Star H (odt K t v k :: tour K t r n tm :: F)) (hw : way < 5) (hb : noT n k) (kk : ∀ H' e, Star H' (pt e (.xd [("found", v)]) :: odt K t v k :: tour K t r n tm :: F) → E (.ref (He.ga K "NoMake")) (some e) H') : sp_L_call K [.ref t, nV way, v, x] H Q E := by
  refine sp_L_call_i ?_
  walk_at "go"
  refine brd (fun e => ?_) (fun e => ?_)
  · walk_at "go"
    refine dsp_t S.p1 (by decide +kernel) ?_
    walk_at "go"
    exact Tour_grow_odt S hb kk
  walk_at "go"
  refine brd (fun e => ?_) (fun e => ?_)
  · walk_at "go"
    refine dsp_t S.p1 (by decide +kernel) ?_
    walk_at "go"
    exact Tour_marks_odt S hb kk
  walk_at "go"
  refine brd (fun e => ?_) (fun e => ?_)
  · walk_at "go"
    refine dsp_t S.p1 (by decide +kernel) ?_
    walk_at "go"
    exact Tour_beneath_odt S hb kk
  · walk_at "go"
    refine dsp_t S.p1 (by decide +kernel) ?_
    walk_at "go"
    exact Tour_within_odt S hb kk
theorem L_call_bad2 (S : Star H (odt K t v k :: tour K t r n tm :: F)) (hm : m < n) (hb : noT n k) (kk : ∀ H' e, Star H' (pt e (.xd [("found", v)]) :: odt K t v k :: tour K t r n tm :: F) → E (.ref (He.ga K "NoMake")) (some e) H') : sp_L_call K [.ref t, .int 3, nV m, v] H Q E := by
  refine sp_L_call_i ?_
  walk_at "go"
  refine dsp_t S.p1 (by decide +kernel) ?_
  walk_at "go"
  exact Tour_within_odt2 S hm hb kk
theorem L_call_full (S : Star H (tour K t r n tm :: F)) (hm : m < n) (hn : n = 64) (kk : ∀ H' e, Star H' (pt e (.xd [("count", .int 65)]) :: tour K t r n tm :: F) → E (.ref (He.ga K "TooMany")) (some e) H') : sp_L_call K [.ref t, .int 0, nV m, x] H Q E := by
  refine sp_L_call_i ?_
  walk_at "go"
  refine dsp_t S (by decide +kernel) ?_
  walk_at "go"
  exact Tour_grow_full S hm hn kk
theorem L_told_bad1 (S : Star H (odt K t v k :: tour K t r n tm :: F)) (hw : way < 5) (hb : noT n k) (kk : ∀ H' f, Star H' (fx f (.tup [.str "make", v]) :: odt K t v k :: tour K t r n tm :: F) → Q (.ref f) H') : sp_L_told K [.ref t, nV way, v, x] H Q E := by
  refine sp_L_told_i ?_
  walk_at "go"
  refine al_t S fun f0 H1 S => ?_
  walk_at "go"
  refine L_call_bad1 (F := fx f0 (.tup [.str "told", .non]) :: F) (S.fr (by walk_at "fr")) hw hb fun H2 e S => ?_
  refine was_y (by walk_at "mm") fun ea he => ?_
  walk_at "go"
  refine ⟨⟨rfl, rfl⟩, ?_⟩
  refine exi_i S.get (by walk_at "mm") ?_
  walk_at "go"
  refine al_t S fun f1 H3 S => ?_
  walk_at "go"
  refine ⟨⟨rfl, rfl⟩, ?_⟩
  refine exi_i S.p1.get (by walk_at "mm") ?_
  walk_at "go"
  refine ⟨⟨rfl, rfl⟩, ?_⟩
  refine exi_i S.p1.get (by walk_at "mm") ?_
  walk_at "go"
  refine exf_i S.p1.get (by walk_at "mm") rfl ?_
  walk_at "go"
  refine al_t S fun f2 H5 S => ?_
  walk_at "go"
  exact kk _ f2 (S.fr (by walk_at "fr"))
theorem L_told_bad2 (S : Star H (odt K t v k :: tour K t r n tm :: F)) (hm : m < n) (hb : noT n k) (kk : ∀ H' f, Star H' (fx f (.tup [.str "make", v]) :: odt K t v k :: tour K t r n tm :: F) → Q (.ref f) H') : sp_L_told K [.ref t, .int 3, nV m, v] H Q E := by
  refine sp_L_told_i ?_
  walk_at "go"
  refine al_t S fun f0 H1 S => ?_
  walk_at "go"
  refine L_call_bad2 (F := fx f0 (.tup [.str "told", .non]) :: F) (S.fr (by walk_at "fr")) hm hb fun H2 e S => ?_
  refine was_y (by walk_at "mm") fun ea he => ?_
  walk_at "go"
  refine ⟨⟨rfl, rfl⟩, ?_⟩
  refine exi_i S.get (by walk_at "mm") ?_
  walk_at "go"
  refine al_t S fun f1 H3 S => ?_
  walk_at "go"
  refine ⟨⟨rfl, rfl⟩, ?_⟩
  refine exi_i S.p1.get (by walk_at "mm") ?_
  walk_at "go"
  refine ⟨⟨rfl, rfl⟩, ?_⟩
  refine exi_i S.p1.get (by walk_at "mm") ?_
  walk_at "go"
  refine exf_i S.p1.get (by walk_at "mm") rfl ?_
  walk_at "go"
  refine al_t S fun f2 H5 S => ?_
  walk_at "go"
  exact kk _ f2 (S.fr (by walk_at "fr"))
theorem L_told_full (S : Star H (tour K t r n tm :: F)) (hm : m < n) (hn : n = 64) (kk : ∀ H' f, Star H' (fx f (.tup [.str "many", .int 65]) :: tour K t r n tm :: F) → Q (.ref f) H') : sp_L_told K [.ref t, .int 0, nV m, x] H Q E := by
  refine sp_L_told_i ?_
  walk_at "go"
  refine al_t S fun f0 H1 S => ?_
  walk_at "go"
  refine L_call_full (F := fx f0 (.tup [.str "told", .non]) :: F) (S.fr (by walk_at "fr")) hm hn fun H2 e S => ?_
  refine was_y (by walk_at "mm") fun ea he => ?_
  walk_at "go"
  refine ⟨⟨rfl, rfl⟩, ?_⟩
  refine exi_i S.get (by walk_at "mm") ?_
  walk_at "go"
  refine al_t S fun f1 H3 S => ?_
  walk_at "go"
  refine ⟨⟨rfl, rfl⟩, ?_⟩
  refine exi_i S.p1.get (by walk_at "mm") ?_
  walk_at "go"
  refine ⟨⟨rfl, rfl⟩, ?_⟩
  refine exi_i S.p1.get (by walk_at "mm") ?_
  walk_at "go"
  refine ⟨⟨rfl, rfl⟩, ?_⟩
  refine exi_i S.p1.get (by walk_at "mm") ?_
  walk_at "go"
  refine exf_i S.p1.get (by walk_at "mm") rfl ?_
  walk_at "go"
  refine al_t S fun f2 H5 S => ?_
  walk_at "go"
  exact kk _ f2 (S.fr (by walk_at "fr"))
end
end Lawk17

namespace Lawk17
open PySem PySem.Spec PyProof.Rows L2 MK
/-! tours in plain Lean: a make is beneath another one just where its two marks lie between the other's -/
/-- the makes above a make -/
def abvF (tr : List Nat) : Nat → Nat → List Nat
  | 0, _ => []
  | f + 1, m => if m = 0 then [] else tr.getD (m - 1) 0 :: abvF tr f (tr.getD (m - 1) 0)
def abv (tr : List Nat) (m : Nat) : List Nat := abvF tr m m
/-- each make is put on one that was there -/
def Up (tr : List Nat) : Prop := ∀ i, i < tr.length → tr.getD i 0 ≤ i
def WI (tr : List Nat) (a b : Nat) : Prop := a = b ∨ a ∈ abv tr b
section
variable {tr : List Nat} {a b m n i f g : Nat} {L : List Nat} {q : Nat → Nat}
theorem abvF_fuel (u : Up tr) : ∀ (f g m : Nat), m ≤ f → m ≤ g → m ≤ tr.length → abvF tr f m = abvF tr g m
  | 0, g, m, h1, _, _ => by
    have e : m = 0 := by omega
    subst e
    cases g with
    | zero => rfl
    | succ g => rw [abvF, abvF, if_pos rfl]
  | f + 1, 0, m, _, h2, _ => by
    have e : m = 0 := by omega
    subst e
    rw [abvF, abvF, if_pos rfl]
  | f + 1, g + 1, m, h1, h2, h3 => by
    rw [abvF, abvF]
    by_cases e : m = 0
    · rw [if_pos e, if_pos e]
    · have := u (m - 1) (by omega)
      rw [if_neg e, if_neg e, abvF_fuel u f g (tr.getD (m - 1) 0) (by omega) (by omega) (by omega)]
theorem abv_zero : abv tr 0 = [] := rfl
theorem abv_pos (u : Up tr) (h0 : 0 < m) (h : m ≤ tr.length) : abv tr m = tr.getD (m - 1) 0 :: abv tr (tr.getD (m - 1) 0) := by
  unfold abv
  obtain ⟨k, rfl⟩ : ∃ k, m = k + 1 := ⟨m - 1, by omega⟩
  have := u k (by omega)
  show abvF tr (k + 1) (k + 1) = _
  rw [abvF, if_neg (by omega)]
  show tr.getD k 0 :: abvF tr k (tr.getD k 0) = _
  rw [abvF_fuel u k (tr.getD k 0) (tr.getD k 0) (by omega) (Nat.le_refl _) (by omega)]
  rfl
theorem getD_app (h : i < tr.length) : (tr ++ [m]).getD i 0 = tr.getD i 0 := by
  rw [List.getD_eq_getElem?_getD, List.getD_eq_getElem?_getD, List.getElem?_append_left h]
theorem getD_new : (tr ++ [m]).getD tr.length 0 = m := by
  rw [List.getD_eq_getElem?_getD, List.getElem?_append_right (Nat.le_refl _), Nat.sub_self]
  rfl
theorem Up.app (u : Up tr) (h : m ≤ tr.length) : Up (tr ++ [m]) := fun i hi => by
  rw [List.length_append] at hi
  have hi : i < tr.length + 1 := hi
  rcases Nat.lt_or_ge i tr.length with q | q
  · rw [getD_app q]
    exact u i q
  · have e : i = tr.length := by omega
    subst e
    rw [getD_new]
    exact h
theorem abvF_app (u : Up tr) : ∀ (f b : Nat), b ≤ tr.length → abvF (tr ++ [m]) f b = abvF tr f b
  | 0, _, _ => rfl
  | f + 1, b, h => by
    rw [abvF, abvF]
    by_cases e : b = 0
    · rw [if_pos e, if_pos e]
    · have := u (b - 1) (by omega)
      rw [if_neg e, if_neg e, getD_app (by omega), abvF_app u f _ (by omega)]
theorem abv_app (u : Up tr) (h : b ≤ tr.length) : abv (tr ++ [m]) b = abv tr b := abvF_app u b b h
theorem abv_new (u : Up tr) (h : m ≤ tr.length) : abv (tr ++ [m]) (tr.length + 1) = m :: abv tr m := by
  rw [abv_pos (u.app h) (by omega) (by rw [List.length_append]; exact Nat.le_refl _), Nat.add_sub_cancel, getD_new, abv_app u h]
theorem abv_lt (u : Up tr) : ∀ (b : Nat), b ≤ tr.length → ∀ x ∈ abv tr b, x < b := fun b => by
  induction b using Nat.strongRecOn with
  | _ b ih =>
    intro hb x hx
    rcases Nat.eq_zero_or_pos b with e | e
    · subst e
      rw [abv_zero] at hx
      cases hx
    · have := u (b - 1) (by omega)
      rw [abv_pos u e hb] at hx
      rcases List.mem_cons.mp hx with rfl | hx
      · omega
      · have := ih _ (by omega) (by omega) x hx
        omega
/-- where each mark stands in the row -/
def Pos (L : List Nat) (q : Nat → Nat) : Prop := ∀ (i x : Nat), L[i]? = some x → q x = i
/-- the marks by where they stand: nested, and beneath as put -/
structure TM (L : List Nat) (n : Nat) (tr : List Nat) (q : Nat → Nat) : Prop where
  pos : Pos L q
  all : ∀ x, x < 2 * n → ∃ i : Nat, L[i]? = some x
  lt : ∀ x ∈ L, x < 2 * n
  len : tr.length + 1 = n
  up : Up tr
  io : ∀ a, a < n → q (2 * a) < q (2 * a + 1)
  nest : ∀ a b, a < n → b < n → q (2 * a) ≤ q (2 * b) → q (2 * b) < q (2 * a + 1) → q (2 * b + 1) ≤ q (2 * a + 1)
  wi : ∀ a b, a < n → b < n → ((q (2 * a) ≤ q (2 * b) ∧ q (2 * b + 1) ≤ q (2 * a + 1)) ↔ WI tr a b)
theorem TM.inj (t : TM L n tr q) {x y : Nat} (hx : x < 2 * n) (hy : y < 2 * n) (e : q x = q y) : x = y := by
  obtain ⟨i, h1⟩ := t.all x hx
  obtain ⟨j, h2⟩ := t.all y hy
  have e1 := t.pos i x h1
  have e2 := t.pos j y h2
  have e3 : i = j := by omega
  subst e3
  rw [h1] at h2
  exact Option.some.inj h2
/-- a new make right behind the coming of m -/
def newQ (q : Nat → Nat) (n i : Nat) (y : Nat) : Nat := if y = 2 * n then i + 1 else if y = 2 * n + 1 then i + 2 else if q y ≤ i then q y else q y + 2
theorem TM.grow (t : TM L n tr q) (hm : m < n) (hi : L[i]? = some (2 * m)) : TM (L.take (i + 1) ++ [2 * n, 2 * n + 1] ++ L.drop (i + 1)) (n + 1) (tr ++ [m]) (newQ q n i) := by
  have hil := (List.getElem?_eq_some_iff.mp hi).1
  have qm := t.pos i (2 * m) hi
  have old : ∀ y, y < 2 * n → newQ q n i y = if q y ≤ i then q y else q y + 2 := fun y hy => by
    unfold newQ
    rw [if_neg (by omega), if_neg (by omega)]
  have n0 : newQ q n i (2 * n) = i + 1 := by unfold newQ; rw [if_pos rfl]
  have n1 : newQ q n i (2 * n + 1) = i + 2 := by unfold newQ; rw [if_neg (by omega), if_pos rfl]
  have mono : ∀ x y, x < 2 * n → y < 2 * n → (newQ q n i x ≤ newQ q n i y ↔ q x ≤ q y) := fun x y hx hy => by
    rw [old x hx, old y hy]
    split <;> split <;> omega
  have hlen := t.len
  have lens : (L.take (i + 1)).length = i + 1 := by rw [List.length_take]; omega
  have at_ : ∀ j : Nat, (L.take (i + 1) ++ [2 * n, 2 * n + 1] ++ L.drop (i + 1))[j]? = if j ≤ i then L[j]? else if j = i + 1 then some (2 * n) else if j = i + 2 then some (2 * n + 1) else L[j - 2]? := fun j => by
    rw [List.append_assoc]
    by_cases h1 : j ≤ i
    · rw [if_pos h1, List.getElem?_append_left (by omega), List.getElem?_take, if_pos (by omega)]
    · rw [if_neg h1, List.getElem?_append_right (by omega), lens]
      by_cases h2 : j = i + 1
      · rw [if_pos h2, h2, Nat.sub_self]
        rfl
      · by_cases h3 : j = i + 2
        · rw [if_neg h2, if_pos h3, h3, show i + 2 - (i + 1) = 1 by omega]
          rfl
        · rw [if_neg h2, if_neg h3, List.getElem?_append_right (by show 2 ≤ _; omega)]
          show (L.drop (i + 1))[j - (i + 1) - 2]? = _
          rw [List.getElem?_drop]
          congr 1
          omega
  have find : ∀ y, y < 2 * n → ∃ j : Nat, (L.take (i + 1) ++ [2 * n, 2 * n + 1] ++ L.drop (i + 1))[j]? = some y := fun y hy => by
    obtain ⟨j, hj⟩ := t.all y hy
    by_cases h1 : j ≤ i
    · exact ⟨j, by rw [at_, if_pos h1, hj]⟩
    · exact ⟨j + 2, by rw [at_, if_neg (by omega), if_neg (by omega), if_neg (by omega), Nat.add_sub_cancel, hj]⟩
  have ne_i : ∀ y, y < 2 * n → y ≠ 2 * m → q y ≠ i := fun y hy hne e => hne (t.inj hy (by omega) (e.trans qm.symm))
  refine ⟨?_, ?_, ?_, ?_, t.up.app (by omega), ?_, ?_, ?_⟩
  · intro j x hj
    rw [at_] at hj
    split at hj
    · rename_i h1
      have hx := t.lt x (List.mem_of_getElem? hj)
      have := t.pos j x hj
      rw [old x hx, if_pos (by omega)]
      exact this
    · split at hj
      · cases hj
        rename_i h2
        rw [n0, h2]
      · split at hj
        · cases hj
          rename_i h2
          rw [n1, h2]
        · have hx := t.lt x (List.mem_of_getElem? hj)
          have := t.pos (j - 2) x hj
          rw [old x hx, if_neg (by omega)]
          omega
  · intro x hx
    rcases Nat.lt_or_ge x (2 * n) with h | h
    · exact find x h
    · rcases (by omega : x = 2 * n ∨ x = 2 * n + 1) with rfl | rfl
      · exact ⟨i + 1, by rw [at_, if_neg (by omega), if_pos rfl]⟩
      · exact ⟨i + 2, by rw [at_, if_neg (by omega), if_neg (by omega), if_pos rfl]⟩
  · intro x hx
    rcases List.mem_append.mp hx with h | h
    · rcases List.mem_append.mp h with h | h
      · have := t.lt x (List.mem_of_mem_take h)
        omega
      · rcases List.mem_cons.mp h with rfl | h
        · omega
        · rw [List.mem_singleton.mp h]
          omega
    · have := t.lt x (List.mem_of_mem_drop h)
      omega
  · rw [List.length_append]
    show tr.length + 1 + 1 = n + 1
    omega
  · intro a ha
    rcases Nat.lt_or_ge a n with h | h
    · have := t.io a h
      rw [old _ (by omega), old _ (by omega)]
      split <;> split <;> omega
    · have e : a = n := by omega
      subst e
      rw [n0, n1]
      omega
  · intro a b ha hb h1 h2
    rcases Nat.lt_or_ge a n with h | h
    · rcases Nat.lt_or_ge b n with k | k
      · rw [mono _ _ (by omega) (by omega)] at h1 ⊢
        have h3 : ¬ newQ q n i (2 * a + 1) ≤ newQ q n i (2 * b) := by omega
        rw [mono _ _ (by omega) (by omega)] at h3
        exact t.nest a b h k h1 (by omega)
      · have e : b = n := by omega
        subst e
        rw [n0, old _ (by omega)] at h1 h2
        rw [n1, old _ (by omega)]
        split at h2 <;> split <;> omega
    · have e : a = n := by omega
      subst e
      rw [n0] at h1
      rw [n1] at h2 ⊢
      rcases Nat.lt_or_ge b a with k | k
      · rw [old _ (by omega)] at h1 h2
        split at h1 <;> split at h2 <;> omega
      · have e : b = a := by omega
        subst e
        rw [n1]
        omega
  · intro a b ha hb
    rcases Nat.lt_or_ge a n with h | h
    · rcases Nat.lt_or_ge b n with k | k
      · rw [mono _ _ (by omega) (by omega), mono _ _ (by omega) (by omega), t.wi a b h k]
        unfold WI
        rw [abv_app t.up (by omega)]
      · have e : b = n := by omega
        subst e
        have w := t.wi a m h hm
        have e2 : b = tr.length + 1 := hlen.symm
        unfold WI at w ⊢
        rw [e2, abv_new t.up (by omega), ← e2, n0, n1, List.mem_cons, old _ (by omega), old _ (by omega)]
        have ni := ne_i (2 * a + 1) (by omega) (by omega)
        constructor
        · rintro ⟨h1, h2⟩
          right
          refine w.mp ?_
          have e4 : q (2 * a) ≤ i := by
            split at h1 <;> omega
          have e5 : i < q (2 * a + 1) := by
            split at h2 <;> omega
          rw [← qm] at e4 e5
          exact ⟨e4, t.nest a m h hm e4 e5⟩
        · rintro (h3 | h3)
          · omega
          · obtain ⟨w1, w2⟩ := w.mpr h3
            have := t.io m hm
            rw [if_pos (by omega), if_neg (by omega)]
            omega
    · have e : a = n := by omega
      subst e
      unfold WI
      rcases Nat.lt_or_ge b a with k | k
      · rw [n0, n1, abv_app t.up (by omega), old _ (by omega), old _ (by omega)]
        constructor
        · rintro ⟨h1, h2⟩
          exfalso
          have := t.io b k
          split at h1 <;> split at h2 <;> omega
        · rintro (h3 | h3)
          · omega
          · have := abv_lt t.up b (by omega) a h3
            omega
      · have e : b = a := by omega
        subst e
        exact ⟨fun _ => .inl rfl, fun _ => ⟨Nat.le_refl _, Nat.le_refl _⟩⟩
/-- the makes by one of their marks -/
def sideL (L : List Nat) (s : Nat) : List Nat := (L.filter fun m => decide (m % 2 = s)).map (· / 2)
theorem sideL_app {A B : List Nat} {s : Nat} : sideL (A ++ B) s = sideL A s ++ sideL B s := by
  unfold sideL
  rw [List.filter_append, List.map_append]
theorem side_take (hi : L[i]? = some (2 * m)) : sideL (L.take (i + 1)) 0 = sideL (L.take i) 0 ++ [m] := by
  rw [List.take_succ, hi, sideL_app]
  congr 1
  unfold sideL
  show List.map (· / 2) (List.filter (fun m => decide (m % 2 = 0)) [2 * m]) = [m]
  rw [List.filter_cons_of_pos (by rw [decide_eq_true_iff]; omega)]
  show [2 * m / 2] = [m]
  rw [show 2 * m / 2 = m by omega]
theorem side_two : sideL [2 * n, 2 * n + 1] 0 = [n] := by
  unfold sideL
  rw [List.filter_cons_of_pos (by rw [decide_eq_true_iff]; omega), List.filter_cons_of_neg (by rw [decide_eq_true_iff]; omega)]
  show [2 * n / 2] = [n]
  rw [show 2 * n / 2 = n by omega]
theorem side_at (hi : L[i]? = some (2 * m)) : (sideL L 0)[(sideL (L.take i) 0).length]? = some m := by
  have e : sideL L 0 = sideL (L.take i) 0 ++ [m] ++ sideL (L.drop (i + 1)) 0 := by
    rw [← side_take hi, ← sideL_app, List.take_append_drop]
  rw [e, List.append_assoc, List.getElem?_append_right (Nat.le_refl _), Nat.sub_self]
  rfl
theorem side_grow (hi : L[i]? = some (2 * m)) : sideL (L.take (i + 1) ++ [2 * n, 2 * n + 1] ++ L.drop (i + 1)) 0 = (sideL L 0).take ((sideL (L.take i) 0).length + 1) ++ [n] ++ (sideL L 0).drop ((sideL (L.take i) 0).length + 1) := by
  have e : sideL L 0 = sideL (L.take (i + 1)) 0 ++ sideL (L.drop (i + 1)) 0 := by rw [← sideL_app, List.take_append_drop]
  have el : (sideL (L.take (i + 1)) 0).length = (sideL (L.take i) 0).length + 1 := by
    rw [side_take hi, List.length_append]
    rfl
  rw [sideL_app, sideL_app, side_two, ← el, e, List.take_left, List.drop_left]
end
end Lawk17

namespace Lawk17
open PySem PySem.Spec PyProof.Rows L2 MK
section
variable {K : PySem.W.Frag} {F G : List SP} {H : Hp} {Q : VK} {E : XK} {b t D f ow : Addr} {r : List (Nat × Nat)} {n tm m lb i a c : Nat} {v x : V} {tr : List Nat} {q : Nat → Nat}
abbrev mkL (r : List (Nat × Nat)) : List Nat := r.map (·.1)
theorem side_is {s : Nat} : side s r = sideL (mkL r) s := rfl
theorem grw_mkL (hi : i < r.length) {g : Nat} : mkL (grw r g i) = (mkL r).take (i + 1) ++ [g, g + 1] ++ (mkL r).drop (i + 1) := by
  have hb : ∀ {r : List (Nat × Nat)} {g j : Nat}, mkL (bhd r g j) = (mkL r).take (j + 1) ++ [g] ++ (mkL r).drop (j + 1) := fun {r g j} => by
    have ha : mkL (ahd r j) = mkL r := by
      unfold ahd
      split
      · exact relN_marks _ _
      · rfl
    unfold mkL at ha ⊢
    unfold bhd
    rw [List.map_append, List.map_append, List.map_take, List.map_drop, ha]
    rfl
  have h2 : (mkL r).length = r.length := List.length_map ..
  have h3 : ((mkL r).take (i + 1)).length = i + 1 := by rw [List.length_take]; omega
  have h4 : ((mkL r).take (i + 1) ++ [g]).length = i + 1 + 1 := by rw [List.length_append, h3]; rfl
  unfold grw
  rw [hb, hb, List.take_left' h4, List.drop_left' h4, List.append_assoc ((mkL r).take (i + 1)) [g] [g + 1]]
  rfl
theorem TMr.at (T : TM (mkL r) n tr q) {y : Nat} (hy : y < 2 * n) : ∃ lb, r[q y]? = some (y, lb) := by
  obtain ⟨j, hj⟩ := T.all y hy
  have e := T.pos j y hj
  rw [List.getElem?_map] at hj
  obtain ⟨p, hp, rfl⟩ := Option.map_eq_some_iff.mp hj
  exact ⟨p.2, by rw [e, hp]⟩
theorem Tour_within_ok (S : Star H (tour K t r n tm :: F)) (T : TM (mkL r) n tr q) (ha : a < n) (hc : c < n) (k : Q (.bl (decide (q (2 * a) ≤ q (2 * c) ∧ q (2 * c + 1) ≤ q (2 * a + 1)))) H) : sp_Tour_within K [.ref t, nV a, nV c] H Q E := by
  obtain ⟨dx, o, bm, vs, hf, S⟩ := tour_iff.mp S
  have hv : vs.length = n := by
    have h := S.p3.tp.1
    rw [h, mks_len]
  obtain ⟨Ta, a1, a2⟩ := S.p3.tp.2 a _ (mks_at ha)
  obtain ⟨Tc, c1, c2⟩ := S.p3.tp.2 c _ (mks_at hc)
  refine sp_Tour_within_i ?_
  walk_at "go"
  refine Tour_need_ok (S.fr (by walk_at "fr")) hv ha ?_
  walk_at "go"
  refine Tour_need_ok (S.fr (by walk_at "fr")) hv hc ?_
  walk_at "go"
  refine ix_l S.p2.get (atI_n a1) ?_
  walk_at "go"
  refine unp_t a2 rfl ?_
  walk_at "go"
  refine ix_l S.p2.get (atI_n c1) ?_
  walk_at "go"
  refine unp_t c2 rfl ?_
  obtain ⟨l1, e1⟩ := TMr.at T (y := 2 * a) (by omega)
  obtain ⟨l2, e2⟩ := TMr.at T (y := 2 * a + 1) (by omega)
  obtain ⟨l3, e3⟩ := TMr.at T (y := 2 * c) (by omega)
  obtain ⟨l4, e4⟩ := TMr.at T (y := 2 * c + 1) (by omega)
  have hd : decide (q (2 * a) ≤ q (2 * c) ∧ q (2 * c + 1) ≤ q (2 * a + 1)) = (!decide (q (2 * c) < q (2 * a)) && !decide (q (2 * a + 1) < q (2 * c + 1))) := by
    by_cases z1 : q (2 * c) < q (2 * a)
    · rw [decide_eq_true z1, decide_eq_false (by omega)]
      rfl
    · rw [decide_eq_false z1]
      by_cases z2 : q (2 * a + 1) < q (2 * c + 1)
      · rw [decide_eq_true z2, decide_eq_false (by omega)]
        rfl
      · rw [decide_eq_false z2, decide_eq_true ⟨by omega, by omega⟩]
        rfl
  rw [hd] at k
  walk_at "go"
  refine dsp_o S.p1 (by decide +kernel) ?_
  walk_at "go"
  refine Order_ahead_ok S.p1 e3 e1 ?_
  walk_at "go"
  refine brn' (fun z => ?_) (fun z => ?_)
  · rw [z] at k
    walk_at "go"
    refine dsp_o S.p1 (by decide +kernel) ?_
    walk_at "go"
    refine Order_ahead_ok S.p1 e2 e4 ?_
    walk_at "go"
    exact k
  · rw [z] at k
    exact k
end
end Lawk17

namespace Lawk17
open PySem PySem.Spec PyProof.Rows L2 MK
theorem flt_idx (l : List Nat) (P : Nat → Bool) (g : Nat → V) : ((List.range l.length).filter fun i => P (l.getD i 0)).map (fun i => g (l.getD i 0)) = (l.filter P).map g := by
  have e : (List.range l.length).map (fun i => l.getD i 0) = l := by
    refine List.ext_getElem? fun i => ?_
    rw [List.getElem?_map]
    rcases Nat.lt_or_ge i l.length with h | h
    · rw [List.getElem?_range h, List.getElem?_eq_getElem h]
      show some (l.getD i 0) = _
      rw [List.getD_eq_getElem?_getD, List.getElem?_eq_getElem h]
      rfl
    · rw [List.getElem?_eq_none h, List.getElem?_eq_none (by rw [List.length_range]; exact h)]
      rfl
  have e2 : l.filter P = ((List.range l.length).map (fun i => l.getD i 0)).filter P := by rw [e]
  rw [e2, List.filter_map, List.map_map]
  rfl
theorem take_flt {L : List Nat} {P : Nat → Bool} {i p : Nat} (h : L[i]? = some p) : (L.take (i + 1)).filter P = (L.take i).filter P ++ (if P p = true then [p] else []) := by
  rw [List.take_succ, h, List.filter_append]
  show _ ++ List.filter P [p] = _
  cases hp : P p
  · rw [List.filter_cons_of_neg (by rw [hp]; decide), if_neg (by decide)]
    rfl
  · rw [List.filter_cons_of_pos hp, if_pos rfl]
    rfl
theorem ne_dec {m n : Nat} : (!decide (((m : Nat) : Int) = ((n : Nat) : Int))) = decide (m ≠ n) := by
  by_cases h : m = n
  · rw [decide_eq_true (congrArg (fun x : Nat => (x : Int)) h), decide_eq_false (p := m ≠ n) fun z => z h]
    rfl
  · rw [decide_eq_false (p := ((m : Nat) : Int) = ((n : Nat) : Int)) (by omega), decide_eq_true (p := m ≠ n) h]
    rfl
theorem inV_nats2 {x : Nat} {xs : List Nat} : inV (nV x) (xs.map nV) = decide (x ∈ xs) := by
  have e : xs.map nV = (xs.map fun k : Nat => (k : Int)).map V.int := by rw [List.map_map]; rfl
  rw [e, inV_ints]
  refine decide_eq_decide.mpr ⟨fun h => ?_, fun h => List.mem_map.mpr ⟨x, h, rfl⟩⟩
  obtain ⟨y, hy, e2⟩ := List.mem_map.mp h
  have : y = x := by omega
  exact this ▸ hy
theorem flat_nats2 {xs : List Nat} : (xs.map nV).all flatV = true := List.all_eq_true.mpr fun v hv => by
  obtain ⟨x, _, rfl⟩ := List.mem_map.mp hv
  rfl
def ovV (tr : List Nat) : List V := .non :: tr.map nV
/-- beneath, by the marks -/
def inB (q : Nat → Nat) (a c : Nat) : Bool := decide (q (2 * a) ≤ q (2 * c) ∧ q (2 * c + 1) ≤ q (2 * a + 1))
def benL (q : Nat → Nat) (r : List (Nat × Nat)) (a : Nat) : List Nat := (side 0 r).filter fun c => decide (c ≠ a) && inB q a c
section
variable {K : PySem.W.Frag} {F G : List SP} {H : Hp} {Q : VK} {E : XK} {b t D f ow cm : Addr} {r : List (Nat × Nat)} {n tm m lb i a c : Nat} {v x : V} {tr : List Nat} {q : Nat → Nat}
theorem side_lt (T : TM (mkL r) n tr q) {s : Nat} (h : c ∈ side s r) : c < n := by
  obtain ⟨y, hy, rfl⟩ := List.mem_map.mp h
  have := T.lt y (List.mem_filter.mp hy).1
  omega
theorem side_few (T : TM (mkL r) n tr q) {s : Nat} (o : OrdOk r (2 * n)) : (side s r).length ≤ 1000 := by
  unfold side
  rw [List.length_map]
  have h1 := List.length_filter_le (fun m => decide (m % 2 = s)) (r.map (·.1))
  rw [List.length_map] at h1
  have := o.len
  omega
theorem Tour_beneath_ok (S : Star H (tour K t r n tm :: F)) (T : TM (mkL r) n tr q) (hm : m < n) (hn : n ≤ 64) (k : ∀ H' D, Star H' (pt D (.lst ((benL q r m).map nV)) :: tour K t r n tm :: F) → Q (.ref D) H') : sp_Tour_beneath K [.ref t, nV m] H Q E := by
  have o := (tour_ok S).2
  have hsl := side_few T (s := 0) o
  have hneed : sp_Tour_need_make K [.ref t, nV m] H (fun _ H1 => H1 = H) E := by
    obtain ⟨dx, o, bm, vs, hf, S⟩ := tour_iff.mp S
    have hv : vs.length = n := by
      have h := S.p3.tp.1
      rw [h, mks_len]
    exact Tour_need_ok (S.fr (by walk_at "fr")) hv hm rfl
  refine sp_Tour_beneath_i ?_
  obtain ⟨dx0, fs0, hins⟩ := ins_t S
  walk_at "go"
  refine dsp_t S (by decide +kernel) ?_
  walk_at "go"
  obtain ⟨dx, oo, bm, vs, hf, S1⟩ := tour_iff.mp S
  have hv : vs.length = n := by
    have h := S1.p3.tp.1
    rw [h, mks_len]
  refine Tour_need_ok (vs := vs) (dx := dx) (o := oo) (bm := bm) (F := F) (S1.fr (by walk_at "fr")) hv hm ?_
  clear S1
  walk_at "go"
  refine dsp_t S (by decide +kernel) ?_
  walk_at "go"
  refine Tour_coming_ok S hn fun H1 A S => ?_
  walk_at "go"
  refine it_l S.get ?_
  intro D hD
  have S : Star H1 (tour K t r n tm :: pt A (.lst ((side 0 r).map nV)) :: F) := S.fr (by walk_at "fr")
  refine lc_filter (xs := (side 0 r).map nV) (p := fun i => (fun c => decide (c ≠ m) && inB q m c) ((side 0 r).getD i 0)) (f := fun i => nV ((side 0 r).getD i 0)) _ (fun x H Q q => q) walk_list (by rw [List.length_map]; omega) hD S (fun H1 acc S => .inl (.inl S.p2.get)) (fun x => rfl) ?_ ?_ ?_
  · intro i z H5 acc R hz S kk
    rw [List.getElem?_map] at hz
    obtain ⟨c, hc, rfl⟩ := Option.map_eq_some_iff.mp hz
    have eg : (side 0 r).getD i 0 = c := by rw [List.getD_eq_getElem?_getD, hc]; rfl
    have hcl := side_lt T (List.mem_of_getElem? hc)
    have this : R (decide (c ≠ m) && inB q m c) H5 := by
      have z := kk _ S
      rw [eg] at z
      exact z
    walk_at "go"
    rw [ne_dec]
    refine br (fun e => ?_) (fun e => ?_)
    · rw [e, Bool.true_and] at this
      walk_at "go"
      refine dsp_t S.p1 (by decide +kernel) ?_
      walk_at "go"
      refine Tour_within_ok S.p1 T hm hcl ?_
      walk_at "go"
      exact this
    · rw [e, Bool.false_and] at this
      walk_at "go"
      exact this
  · intro i z H5 acc R hz hp S kk
    rw [List.getElem?_map] at hz
    obtain ⟨c, hc, rfl⟩ := Option.map_eq_some_iff.mp hz
    have eg : (side 0 r).getD i 0 = c := by rw [List.getD_eq_getElem?_getD, hc]; rfl
    have := kk _ S
    rw [eg] at this
    walk_at "go"
    exact this
  · intro H5 S
    have e := flt_idx (side 0 r) (fun c => decide (c ≠ m) && inB q m c) nV
    rw [List.length_map, e] at S
    exact k _ D (S.fr (by walk_at "fr"))
theorem ovV_at (h0 : 0 < m) (h : m ≤ tr.length) : (ovV tr)[m]? = some (nV (tr.getD (m - 1) 0)) := by
  obtain ⟨k, rfl⟩ : ∃ k, m = k + 1 := ⟨m - 1, by omega⟩
  show (tr.map nV)[k]? = _
  rw [List.getElem?_map, List.getElem?_eq_getElem (by omega), List.getD_eq_getElem?_getD, Nat.add_sub_cancel, List.getElem?_eq_getElem (by omega)]
  rfl
theorem L_above_ok (S : Star H (pt ow (.lst (ovV tr)) :: F)) (u : Up tr) (hm : m ≤ tr.length) (hl : tr.length ≤ 1000) (k : ∀ H' D, Star H' (pt D (.lst ((abv tr m).map nV)) :: pt ow (.lst (ovV tr)) :: F) → Q (.ref D) H') : sp_L_above K [.ref ow, nV m] H Q E := by
  refine sp_L_above_i ?_
  walk_at "go"
  refine al_l S fun D H1 S => ?_
  walk_at "go"
  refine while_i (fun z σ H' => ∃ xs : List Nat, (z ≤ tr.length ∧ xs ++ abv tr z = abv tr m ∧ xs.length + z ≤ tr.length) ∧ Star H' (pt D (.lst (xs.map nV)) :: pt ow (.lst (ovV tr)) :: F) ∧ σ = [some (.ref ow), some (nV z), some (.ref D)]) m ⟨[], ⟨hm, rfl, by show 0 + m ≤ _; omega⟩, S, rfl⟩ ?_
  rintro z σ H' ⟨xs, ⟨hz, ex, hxl⟩, S, rfl⟩
  walk_at "go"
  refine brd (fun h0 => ?_) (fun h0 => ?_)
  · have h0' : 0 < z := by omega
    have hu := u (z - 1) (by omega)
    walk_at "go"
    refine ix_l S.p1.get (atI_n (ovV_at h0' hz)) ?_
    walk_at "go"
    refine app_S S (by rw [List.length_map]; omega) fun H2 S => ?_
    walk_at "w"
    refine ⟨tr.getD (z - 1) 0, by omega, xs ++ [tr.getD (z - 1) 0], ⟨by omega, ?_, by rw [List.length_append]; show xs.length + 1 + _ ≤ _; omega⟩, ?_, rfl⟩
    · rw [← ex, abv_pos u h0' hz, List.append_assoc]
      rfl
    · rw [List.map_append]
      exact S
  · have e0 : z = 0 := by omega
    subst e0
    rw [abv_zero, List.append_nil] at ex
    subst ex
    walk_at "go"
    exact k _ D S
theorem L_pairs_ok (S : Star H (tour K t r n tm :: pt ow (.lst (ovV tr)) :: pt cm (.lst ((side 0 r).map nV)) :: F)) (T : TM (mkL r) n tr q) (hn : n ≤ 64) (k : ∀ H', Star H' (tour K t r n tm :: pt ow (.lst (ovV tr)) :: pt cm (.lst ((side 0 r).map nV)) :: F) → Q (.bl true) H') : sp_L_pairs_right K [.ref t, .ref ow, .ref cm] H Q E := by
  have hlen := T.len
  have hsl := side_few T (s := 0) (tour_ok S).2
  refine sp_L_pairs_right_i ?_
  walk_at "go"
  have eol : (ovV tr).length = n := by
    show (tr.map nV).length + 1 = n
    rw [List.length_map]
    exact hlen
  rw [eol]
  walk_at "go"
  rw [Int.toNat_natCast]
  refine Loop.range (fun i σ H => ∃ (y3 y4 y5 y6 y7 : Option V), Star H (tour K t r n tm :: pt ow (.lst (ovV tr)) :: pt cm (.lst ((side 0 r).map nV)) :: F) ∧ σ = [some (.ref t), some (.ref ow), some (.ref cm), y3, y4, y5, y6, y7]) ⟨_, _, _, _, _, S, rfl⟩ ?_ ?_
  · rintro a σ H1 ha ⟨y3, y4, y5, y6, y7, S, rfl⟩
    have e0 : (0 : Int) + ((a : Nat) : Int) = ((a : Nat) : Int) := by omega
    rw [e0]
    walk_at "go"
    refine al_l S fun D H2 S => ?_
    walk_at "go"
    refine it_l S.p3.get ?_
    refine Loop.list (fun i σ H => ∃ (y5 y6 y7 : Option V), Star H (pt D (.lst ((((side 0 r).take i).filter fun c => decide (c ≠ a) && inB q a c).map nV)) :: pt cm (.lst ((side 0 r).map nV)) :: tour K t r n tm :: pt ow (.lst (ovV tr)) :: F) ∧ σ = [some (.ref t), some (.ref ow), some (.ref cm), some (nV a), some (.ref D), y5, y6, y7]) ⟨_, _, _, S.fr (by walk_at "fr"), rfl⟩ (fun i σ H _ ⟨y5, y6, y7, S, _⟩ => .inl (.inl S.p1.get)) ?_ ?_
    · rintro i z σ H3 hz ⟨y5, y6, y7, S, rfl⟩
      rw [List.getElem?_map] at hz
      obtain ⟨c, hc, rfl⟩ := Option.map_eq_some_iff.mp hz
      have hcl := side_lt T (List.mem_of_getElem? hc)
      have w := T.wi a c ha hcl
      have hct : c ≤ tr.length := by omega
      by_cases hac : a = c
      · subst hac
        have hw : decide (q (2 * a) ≤ q (2 * a) ∧ q (2 * a + 1) ≤ q (2 * a + 1)) = true := decide_eq_true (w.mpr (.inl rfl))
        walk_at "go"
        rw [decide_eq_true (rfl : ((a : Nat) : Int) = ((a : Nat) : Int))]
        walk_at "go"
        refine dsp_t S.p2 (by decide +kernel) ?_
        walk_at "go"
        refine Tour_within_ok S.p2 T ha ha ?_
        rw [hw]
        walk_at "go"
        rw [decide_eq_true (rfl : ((a : Nat) : Int) = ((a : Nat) : Int))]
        walk_at "go"
        refine ⟨_, _, _, ?_, rfl⟩
        rw [take_flt hc, if_neg (by rw [decide_eq_false (p := a ≠ a) (fun z => z rfl), Bool.false_and]; decide), List.append_nil]
        exact S
      · have hai : ¬ ((a : Nat) : Int) = ((c : Nat) : Int) := by omega
        have hca : c ≠ a := fun z => hac z.symm
        walk_at "go"
        rw [decide_eq_false hai]
        walk_at "go"
        refine L_above_ok (S.fr (by walk_at "fr") : Star H3 (pt ow (.lst (ovV tr)) :: pt D (.lst ((((side 0 r).take i).filter fun c => decide (c ≠ a) && inB q a c).map nV)) :: pt cm (.lst ((side 0 r).map nV)) :: tour K t r n tm :: F)) T.up hct (by omega) fun H4 A S => ?_
        walk_at "go"
        refine in_l S.get rfl (flat_nats2 (xs := abv tr c)) ?_
        rw [if_neg (by decide), inV_nats2]
        have S : Star H4 (pt D (.lst ((((side 0 r).take i).filter fun c => decide (c ≠ a) && inB q a c).map nV)) :: pt cm (.lst ((side 0 r).map nV)) :: tour K t r n tm :: pt ow (.lst (ovV tr)) :: F) := S.fr (by walk_at "fr")
        have hcl2 : (((side 0 r).take i).filter fun c => decide (c ≠ a) && inB q a c).length < 1001 := by
          have h1 := List.length_filter_le (fun c => decide (c ≠ a) && inB q a c) ((side 0 r).take i)
          have h2 : ((side 0 r).take i).length ≤ (side 0 r).length := by rw [List.length_take]; omega
          omega
        by_cases hin : a ∈ abv tr c
        · have hw : decide (q (2 * a) ≤ q (2 * c) ∧ q (2 * c + 1) ≤ q (2 * a + 1)) = true := decide_eq_true (w.mpr (.inr hin))
          rw [decide_eq_true hin]
          walk_at "go"
          refine dsp_t S.p2 (by decide +kernel) ?_
          walk_at "go"
          refine Tour_within_ok S.p2 T ha hcl ?_
          rw [hw]
          walk_at "go"
          rw [decide_eq_false hai]
          walk_at "go"
          refine app_S S (by rw [List.length_map]; omega) fun H5 S => ?_
          walk_at "w"
          refine ⟨_, _, _, ?_, rfl⟩
          rw [take_flt hc, if_pos (by unfold inB; rw [hw, decide_eq_true (p := c ≠ a) hca]; rfl), List.map_append]
          exact S
        · have hw : decide (q (2 * a) ≤ q (2 * c) ∧ q (2 * c + 1) ≤ q (2 * a + 1)) = false := decide_eq_false fun z => by
            rcases w.mp z with e | e
            · exact hac e
            · exact hin e
          rw [decide_eq_false hin]
          walk_at "go"
          refine dsp_t S.p2 (by decide +kernel) ?_
          walk_at "go"
          refine Tour_within_ok S.p2 T ha hcl ?_
          rw [hw]
          walk_at "go"
          refine ⟨_, _, _, ?_, rfl⟩
          rw [take_flt hc, if_neg (by unfold inB; rw [hw, Bool.and_false]; decide), List.append_nil]
          exact S
    · rintro σ H3 ⟨y5, y6, y7, S, rfl⟩
      rw [List.length_map, List.take_of_length_le (Nat.le_refl _)] at S
      have hbl : (benL q r a).length ≤ 1000 := by
        have h1 := List.length_filter_le (fun c => decide (c ≠ a) && inB q a c) (side 0 r)
        unfold benL
        omega
      have hbm : ∀ x ∈ benL q r a, x ≤ 1000 := fun x hx => by
        have := side_lt T (List.mem_filter.mp hx).1
        omega
      have S : Star H3 (tour K t r n tm :: pt D (.lst ((benL q r a).map nV)) :: pt cm (.lst ((side 0 r).map nV)) :: pt ow (.lst (ovV tr)) :: F) := S.fr (by walk_at "fr")
      walk_at "go"
      refine dsp_t S (by decide +kernel) ?_
      walk_at "go"
      refine Tour_beneath_ok S T ha hn fun H4 B S => ?_
      walk_at "go"
      refine repr_ints S hbl hbm ?_
      walk_at "go"
      refine repr_ints (S.fr (by walk_at "fr") : Star H4 (pt D (.lst ((benL q r a).map nV)) :: [])) hbl hbm ?_
      walk_at "go"
      rw [decide_eq_true rfl]
      walk_at "go"
      refine app_S S (by rw [List.length_map]; omega) fun H5 S => ?_
      have S : Star H5 (tour K t r n tm :: pt D (.lst ((benL q r a).map nV)) :: pt cm (.lst ((side 0 r).map nV)) :: pt ow (.lst (ovV tr)) :: F) := S.fr (by walk_at "fr")
      walk_at "go"
      refine dsp_t S (by decide +kernel) ?_
      walk_at "go"
      refine Tour_beneath_ok S T ha hn fun H6 B2 S => ?_
      walk_at "go"
      refine repr_ints S hbl hbm ?_
      walk_at "go"
      refine repr_ints (S.fr (by walk_at "fr") : Star H6 (pt D (.lst ((benL q r a).map nV)) :: [])) hbl hbm ?_
      walk_at "go"
      rw [decide_eq_true rfl]
      walk_at "go"
      exact ⟨_, _, _, _, _, S.fr (by walk_at "fr"), rfl⟩
  · rintro σ H1 ⟨y3, y4, y5, y6, y7, S, rfl⟩
    walk_at "go"
    exact k _ S
end
end Lawk17

namespace Lawk17
open PySem PySem.Spec PyProof.Rows L2 MK
theorem same_lenN {L M : List Nat} (h1 : L.Nodup) (h2 : M.Nodup) (h : ∀ x, x ∈ L ↔ x ∈ M) : L.length = M.length := List.Perm.length_eq (by
  refine List.perm_iff_count.mpr fun a => ?_
  rw [h1.count, h2.count]
  by_cases e : a ∈ L
  · rw [if_pos e, if_pos ((h a).mp e)]
  · rw [if_neg e, if_neg fun z => e ((h a).mpr z)])
section
variable {K : PySem.W.Frag} {F G : List SP} {H : Hp} {Q : VK} {E : XK} {b t D f : Addr} {r : List (Nat × Nat)} {fu n tm m lb i a c : Nat} {v x : V} {tr : List Nat} {q : Nat → Nat} {k : Kd}
theorem nes_non {cs : List Addr} (q : Q (.bl false) H) : neXs K cs .non .non H Q := nes_old (by
  unfold neX
  exact .inl ⟨rfl, by rw [decide_eq_true (rfl : V.non = V.non)]; exact q⟩)
theorem side_nd (T : TM (mkL r) n tr q) : (side 0 r).Nodup := by
  have hL : (mkL r).Nodup := List.pairwise_iff_getElem.mpr fun i j hi hj hij e => by
    have h1 := T.pos i _ (List.getElem?_eq_getElem hi)
    have h2 := T.pos j _ (List.getElem?_eq_getElem hj)
    rw [e, h2] at h1
    omega
  unfold side
  refine List.pairwise_map.mpr (List.Pairwise.imp_of_mem (fun {x y} hx hy h e => ?_) (hL.filter _))
  have h1 := of_decide_eq_true (List.mem_filter.mp hx).2
  have h2 := of_decide_eq_true (List.mem_filter.mp hy).2
  exact h (by omega)
theorem side_len (T : TM (mkL r) n tr q) : (side 0 r).length = n := by
  have h := same_lenN (side_nd T) (List.nodup_range (n := n)) fun x => by
    rw [List.mem_range]
    refine ⟨side_lt T, fun hx => ?_⟩
    obtain ⟨i, hi⟩ := T.all (2 * x) (by omega)
    exact List.mem_map.mpr ⟨2 * x, List.mem_filter.mpr ⟨List.mem_of_getElem? hi, decide_eq_true (by omega)⟩, by omega⟩
  rw [h, List.length_range]
theorem L_refused_ok (S : Star H (box2 b (fu + 5) :: tour K t r n tm :: F)) (T : TM (mkL r) n tr q) (hn : n ≤ 64)
    (kk : ∀ H', Star H' (tour K t r n tm :: F) → Q (.bl true) H') : sp_L_refused_right K [.ref b, .ref t, nV n] H Q E := by
  have hlen := T.len
  refine sp_L_refused_right_i ?_
  walk_at "go"
  refine take2_ok (n := fu + 4) S (by decide) fun H1 way hway S => ?_
  walk_at "go"
  refine take2_ok (n := fu + 3) S (by decide) fun H2 both hboth S => ?_
  walk_at "go"
  refine L_odd_ok (fu := fu + 2) S hn fun H3 v1 k1 hf1 hm1 S => ?_
  walk_at "go"
  refine L_odd_ok (fu := fu + 1) (F := odt K t v1 k1 :: F) (S.fr (by walk_at "fr")) hn fun H4 v2 k2 hf2 hm2 S => ?_
  have S : Star H4 (box2 b (fu + 1) :: tour K t r n tm :: odt K t v1 k1 :: odt K t v2 k2 :: F) := S.fr (by walk_at "fr")
  walk_at "go"
  refine take2_ok (n := fu) S (by omega) fun H5 d hd S => ?_
  have hgood : d < n := by omega
  walk_at "go"
  refine al_t S fun T0 H8 S => ?_
  walk_at "go"
  refine al_t S fun T1 H9 S => ?_
  walk_at "go"
  refine al_t S fun T2 H10 S => ?_
  walk_at "go"
  refine al_l S fun lt H12 S => ?_
  have S : Star H12 (pt lt (.lst [.ref T0, .ref T1, .ref T2]) :: fx T0 (.tup [v1, nV d]) :: fx T1 (.tup [v1, v2]) :: fx T2 (.tup [nV d, v2]) :: odt K t v1 k1 :: odt K t v2 k2 :: tour K t r n tm :: F) := S.fr (by walk_at "fr")
  have hb4 : both = 0 ∨ both = 1 ∨ both = 2 := by omega
  rcases hb4 with rfl | rfl | rfl
  · walk_at "go"
    refine L_told_bad1 (way := way) (k := k1) (v := v1) (F := F) (S.fr (by walk_at "fr")) (by omega) hm1 fun H12 fo S => ?_
    have f5 := odt_five (k := k1) (v := v1) (r := r) (n := n) (tm := tm) (F := []) (S.fr (by walk_at "fr")) hf1
    have S : Star H12 (fx fo (.tup [.str "make", v1]) :: tour K t r n tm :: F) := S.fr (by walk_at "fr")
    rcases f5 with rfl | ⟨y, rfl⟩ | ⟨y, rfl⟩ | ⟨y, rfl⟩ | ⟨y, rfl, hx, hy⟩
    all_goals walk_at "go"
    all_goals first | refine nes_non ?_ | refine hx _ ?_ | rw [decide_eq_true (rfl : y = y)]
    all_goals walk_at "go"
    all_goals first | (refine hy _ ?_; walk_at "go"; refine hy _ ?_; walk_at "go") | skip
    all_goals have S : Star H12 (tour K t r n tm :: F) := S.fr (by walk_at "fr")
    all_goals refine dsp_ot S (by decide +kernel) ?_
    all_goals walk_at "go"
    all_goals refine Tour_many_ok S ?_
    all_goals walk_at "go"
    all_goals rw [decide_eq_true (rfl : ((n : Nat) : Int) = ((n : Nat) : Int))]
    all_goals walk_at "go"
    all_goals refine dsp_t S (by decide +kernel) ?_
    all_goals walk_at "go"
    all_goals refine Tour_coming_ok S hn fun H13 A S => ?_
    all_goals walk_at "go"
    all_goals rw [List.length_map, side_len T]
    all_goals walk_at "go"
    all_goals rw [decide_eq_true (rfl : ((n : Nat) : Int) = ((n : Nat) : Int))]
    all_goals exact kk _ (S.fr (by walk_at "fr"))
  · walk_at "go"
    refine L_told_bad1 (way := way) (k := k1) (v := v1) (F := F) (S.fr (by walk_at "fr")) (by omega) hm1 fun H12 fo S => ?_
    have f5 := odt_five (k := k1) (v := v1) (r := r) (n := n) (tm := tm) (F := []) (S.fr (by walk_at "fr")) hf1
    have S : Star H12 (fx fo (.tup [.str "make", v1]) :: tour K t r n tm :: F) := S.fr (by walk_at "fr")
    rcases f5 with rfl | ⟨y, rfl⟩ | ⟨y, rfl⟩ | ⟨y, rfl⟩ | ⟨y, rfl, hx, hy⟩
    all_goals walk_at "go"
    all_goals first | refine nes_non ?_ | refine hx _ ?_ | rw [decide_eq_true (rfl : y = y)]
    all_goals walk_at "go"
    all_goals first | (refine hy _ ?_; walk_at "go"; refine hy _ ?_; walk_at "go") | skip
    all_goals have S : Star H12 (tour K t r n tm :: F) := S.fr (by walk_at "fr")
    all_goals refine dsp_ot S (by decide +kernel) ?_
    all_goals walk_at "go"
    all_goals refine Tour_many_ok S ?_
    all_goals walk_at "go"
    all_goals rw [decide_eq_true (rfl : ((n : Nat) : Int) = ((n : Nat) : Int))]
    all_goals walk_at "go"
    all_goals refine dsp_t S (by decide +kernel) ?_
    all_goals walk_at "go"
    all_goals refine Tour_coming_ok S hn fun H13 A S => ?_
    all_goals walk_at "go"
    all_goals rw [List.length_map, side_len T]
    all_goals walk_at "go"
    all_goals rw [decide_eq_true (rfl : ((n : Nat) : Int) = ((n : Nat) : Int))]
    all_goals exact kk _ (S.fr (by walk_at "fr"))
  · walk_at "go"
    refine L_told_bad2 (k := k2) (v := v2) (F := F) (S.fr (by walk_at "fr")) hgood hm2 fun H12 fo S => ?_
    have f5 := odt_five (k := k2) (v := v2) (r := r) (n := n) (tm := tm) (F := []) (S.fr (by walk_at "fr")) hf2
    have S : Star H12 (fx fo (.tup [.str "make", v2]) :: tour K t r n tm :: F) := S.fr (by walk_at "fr")
    rcases f5 with rfl | ⟨y, rfl⟩ | ⟨y, rfl⟩ | ⟨y, rfl⟩ | ⟨y, rfl, hx, hy⟩
    all_goals walk_at "go"
    all_goals first | refine nes_non ?_ | refine hx _ ?_ | rw [decide_eq_true (rfl : y = y)]
    all_goals walk_at "go"
    all_goals first | (refine hy _ ?_; walk_at "go"; refine hy _ ?_; walk_at "go") | skip
    all_goals have S : Star H12 (tour K t r n tm :: F) := S.fr (by walk_at "fr")
    all_goals refine dsp_ot S (by decide +kernel) ?_
    all_goals walk_at "go"
    all_goals refine Tour_many_ok S ?_
    all_goals walk_at "go"
    all_goals rw [decide_eq_true (rfl : ((n : Nat) : Int) = ((n : Nat) : Int))]
    all_goals walk_at "go"
    all_goals refine dsp_t S (by decide +kernel) ?_
    all_goals walk_at "go"
    all_goals refine Tour_coming_ok S hn fun H13 A S => ?_
    all_goals walk_at "go"
    all_goals rw [List.length_map, side_len T]
    all_goals walk_at "go"
    all_goals rw [decide_eq_true (rfl : ((n : Nat) : Int) = ((n : Nat) : Int))]
    all_goals exact kk _ (S.fr (by walk_at "fr"))
end
end Lawk17

namespace Lawk17
open PySem PySem.Spec PyProof.Rows L2 MK
theorem TM0 : TM (mkL [(0, 0), (1, 512)]) 1 [] (fun x => x) where
  pos := fun i x h => by
    match i, h with
    | 0, h =>
      exact (Option.some.inj h : (0 : Nat) = x).symm
    | 1, h =>
      exact (Option.some.inj h : (1 : Nat) = x).symm
    | i + 2, h => cases h
  all := fun x hx => by
    rcases (by omega : x = 0 ∨ x = 1) with rfl | rfl
    · exact ⟨0, rfl⟩
    · exact ⟨1, rfl⟩
  lt := fun x hx => by
    rcases List.mem_cons.mp hx with e | hx
    · rw [e]
      decide
    · rw [List.mem_singleton.mp hx]
      decide
  len := rfl
  up := fun i hi => absurd hi (Nat.not_lt_zero _)
  io := fun a ha => by
    show 2 * a < 2 * a + 1
    omega
  nest := fun a b ha hb _ _ => by
    show 2 * b + 1 ≤ 2 * a + 1
    omega
  wi := fun a b ha hb => by
    have e1 : a = 0 := by omega
    have e2 : b = 0 := by omega
    subst e1 e2
    exact ⟨fun _ => .inl rfl, fun _ => ⟨Nat.le_refl _, Nat.le_refl _⟩⟩
theorem TM.grow_r {r : List (Nat × Nat)} {n m : Nat} {tr : List Nat} {q : Nat → Nat} (T : TM (mkL r) n tr q) (hm : m < n) : ∃ lb, r[q (2 * m)]? = some (2 * m, lb) ∧ TM (mkL (grw r (2 * n) (q (2 * m)))) (n + 1) (tr ++ [m]) (newQ q n (q (2 * m))) ∧
    (side 0 r)[(sideL ((mkL r).take (q (2 * m))) 0).length]? = some m ∧ side 0 (grw r (2 * n) (q (2 * m))) = (side 0 r).take ((sideL ((mkL r).take (q (2 * m))) 0).length + 1) ++ [n] ++ (side 0 r).drop ((sideL ((mkL r).take (q (2 * m))) 0).length + 1) := by
  obtain ⟨lb, h1⟩ := TMr.at T (y := 2 * m) (by omega)
  have h2 : (mkL r)[q (2 * m)]? = some (2 * m) := by
    show (r.map (·.1))[q (2 * m)]? = _
    rw [List.getElem?_map, h1]
    rfl
  have hil := (List.getElem?_eq_some_iff.mp h1).1
  refine ⟨lb, h1, ?_, side_at h2, ?_⟩
  · rw [grw_mkL hil]
    exact T.grow hm h2
  · rw [side_is, grw_mkL hil, side_grow h2]
    rfl
theorem pl_ints {xs : List Nat} : Pl (.list (xs.map fun k => PyData.int (k : Nat))) := pl_l fun d hd => by
  obtain ⟨x, _, rfl⟩ := List.mem_map.mp hd
  rfl
def seenF (r : List (Nat × Nat)) (tm : Nat) : PyData := .list [.list ((mkL r).map fun k => .int (k : Nat)), .list ((side 0 r).map fun k => .int (k : Nat)), .list ((side 1 r).map fun k => .int (k : Nat)), .int (tm : Nat)]
theorem seenF_pl {r : List (Nat × Nat)} {tm : Nat} : Pl (seenF r tm) := pl_l (fa1 pl_ints (fa1 pl_ints (fa1 pl_ints (fa1 rfl fa0))))
theorem depth_nats : ∀ {zs : List Nat}, PyData.depthAll (zs.map fun k => PyData.int (k : Nat)) = 0
  | [] => by simp [PyData.depthAll]
  | z :: zs => by
    rw [List.map_cons]
    simp [PyData.depthAll, PyData.depth, depth_nats (zs := zs)]
theorem seenF_sh {r : List (Nat × Nat)} {tm : Nat} : SeqAt.shaped (seenF r tm) = true := by
  have z : ((seenF r tm).canLay0 && decide ((seenF r tm).depth ≤ 64)) = true := by
    rw [show (seenF r tm).canLay0 = true from seenF_pl, Bool.true_and, decide_eq_true_eq]
    unfold seenF
    simp only [PyData.depth, PyData.depthAll, depth_nats]
    decide
  exact z
section
variable {K : PySem.W.Frag} {F G : List SP} {H : Hp} {Q : VK} {E : XK} {b t D f ow cm : Addr} {r : List (Nat × Nat)} {fu n tm m lb i a c : Nat} {v x : V} {tr : List Nat} {q : Nat → Nat} {k : Kd} {d : PyData} {wd : Str}
theorem nats_dat {xs : List Nat} (S : Star H (pt f (.lst (xs.map nV)) :: F)) : Star H (dat (.ref f) (.list (xs.map fun k => .int (k : Nat))) :: F) := by
  have e1 : xs.map nV = (xs.map fun k : Nat => (k : Int)).map V.int := by rw [List.map_map]; rfl
  have e2 : (xs.map fun k => PyData.int (k : Nat)) = (xs.map fun k : Nat => (k : Int)).map PyData.int := by rw [List.map_map]; rfl
  rw [e1] at S
  rw [e2]
  exact dat_l.mpr ⟨f, _, rfl, (zints.mpr ⟨rfl, S⟩ : Star H (dats ((xs.map fun k : Nat => (k : Int)).map V.int) ((xs.map fun k : Nat => (k : Int)).map PyData.int) :: pt f (.lst ((xs.map fun k : Nat => (k : Int)).map V.int)) :: F)).perm (List.Perm.swap _ _ _)⟩
theorem dats_push {u : V} {us : List V} {ds : List PyData} (S : Star H (dat u d :: dats us ds :: F)) : Star H (dats (u :: us) (d :: ds) :: F) := dats_c.mpr ⟨_, _, rfl, S⟩
theorem seenF_mk {sn m1 c1 l1 : Addr} (S : Star H (pt sn (.lst [.ref m1, .ref c1, .ref l1, nV tm]) :: pt m1 (.lst ((mkL r).map nV)) :: pt c1 (.lst ((side 0 r).map nV)) :: pt l1 (.lst ((side 1 r).map nV)) :: F)) : Star H (dat (.ref sn) (seenF r tm) :: F) := by
  refine dat_l.mpr ⟨sn, [.ref m1, .ref c1, .ref l1, nV tm], rfl, ?_⟩
  have S1 : Star H (dat (.ref m1) (.list ((mkL r).map fun k => .int (k : Nat))) :: pt c1 (.lst ((side 0 r).map nV)) :: pt l1 (.lst ((side 1 r).map nV)) :: pt sn (.lst [.ref m1, .ref c1, .ref l1, nV tm]) :: F) := nats_dat (S.fr (by walk_at "fr"))
  have S2 : Star H (dat (.ref c1) (.list ((side 0 r).map fun k => .int (k : Nat))) :: dat (.ref m1) (.list ((mkL r).map fun k => .int (k : Nat))) :: pt l1 (.lst ((side 1 r).map nV)) :: pt sn (.lst [.ref m1, .ref c1, .ref l1, nV tm]) :: F) := nats_dat (S1.perm (List.Perm.swap _ _ _))
  have S3 : Star H (dat (.ref l1) (.list ((side 1 r).map fun k => .int (k : Nat))) :: dat (.ref c1) (.list ((side 0 r).map fun k => .int (k : Nat))) :: dat (.ref m1) (.list ((mkL r).map fun k => .int (k : Nat))) :: pt sn (.lst [.ref m1, .ref c1, .ref l1, nV tm]) :: F) := nats_dat (S2.fr (by walk_at "fr"))
  have S4 : Star H (dats [nV tm] [.int (tm : Nat)] :: dat (.ref l1) (.list ((side 1 r).map fun k => .int (k : Nat))) :: dat (.ref c1) (.list ((side 0 r).map fun k => .int (k : Nat))) :: dat (.ref m1) (.list ((mkL r).map fun k => .int (k : Nat))) :: pt sn (.lst [.ref m1, .ref c1, .ref l1, nV tm]) :: F) := dats_push (dat_i.mpr ⟨rfl, dats_n.mpr ⟨rfl, S3⟩⟩)
  have S5 := dats_push (S4.perm (List.Perm.swap _ _ _))
  have S6 := dats_push (S5.perm (List.Perm.swap _ _ _))
  have S7 := dats_push (S6.perm (List.Perm.swap _ _ _))
  exact S7.perm (List.Perm.swap _ _ _)
theorem pair_dat (hv : ∀ G, Star H G → Star H (dat v d :: G)) (S : Star H (fx f (.tup [.str wd, v]) :: F)) : Star H (dat (.ref f) (.tuple [.str wd, d]) :: F) := by
  refine dat_t.mpr ⟨f, [.str wd, v], rfl, ?_⟩
  have S1 : Star H (dats [v] [d] :: fx f (.tup [.str wd, v]) :: F) := dats_push ((dats_n.mpr ⟨rfl, hv _ S⟩ : Star H (dats [] [] :: dat v d :: fx f (.tup [.str wd, v]) :: F)).perm (List.Perm.swap _ _ _))
  have S2 : Star H (dats [.str wd, v] [.str wd, d] :: fx f (.tup [.str wd, v]) :: F) := dats_push (dat_s.mpr ⟨rfl, S1⟩)
  exact S2.perm (List.Perm.swap _ _ _)
theorem pair_ne {T : Addr} (hv : ∀ G, Star H G → Star H (dat v d :: G)) (hp : Pl (.tuple [.str wd, d])) (hs : SeqAt.shaped (.tuple [.str wd, d]) = true) (S : Star H (fx T (.tup [.str wd, v]) :: fx f (.tup [.str wd, v]) :: F)) (q : Q (.bl false) H) : neX K (.ref f) (.ref T) H Q := by
  have Sa : Star H (dat (.ref f) (.tuple [.str wd, d]) :: []) := pair_dat hv (S.fr (by walk_at "fr"))
  have Sb : Star H (dat (.ref T) (.tuple [.str wd, d]) :: []) := pair_dat hv (S.fr (by walk_at "fr"))
  refine ne_d (Sa.dp hp.nd) (Sb.dp hp.nd) hs hs ?_
  rw [PySem.SeqAt.eqv_refl _ hp]
  exact q
theorem pair_eq {T : Addr} (hv : ∀ G, Star H G → Star H (dat v d :: G)) (hp : Pl (.tuple [.str wd, d])) (hs : SeqAt.shaped (.tuple [.str wd, d]) = true) (S : Star H (fx T (.tup [.str wd, v]) :: fx f (.tup [.str wd, v]) :: F)) (q : Q (.bl true) H) : eqX K (.ref f) (.ref T) H Q := by
  have Sa : Star H (dat (.ref f) (.tuple [.str wd, d]) :: []) := pair_dat hv (S.fr (by walk_at "fr"))
  have Sb : Star H (dat (.ref T) (.tuple [.str wd, d]) :: []) := pair_dat hv (S.fr (by walk_at "fr"))
  refine eq_d (Sa.dp hp.nd) (Sb.dp hp.nd) hs hs ?_
  rw [PySem.SeqAt.eqv_refl _ hp]
  exact q
theorem L_full_ok (S : Star H F) (kk : ∀ H', Star H' F → Q (.bl true) H') : sp_L_full_right K [] H Q E := by
  refine sp_L_full_right_i ?_
  walk_at "go"
  intro t dx hx hd hne
  refine Tour_init_ok (S.mkI (C := He.ga K "Tour") hx hd hne) fun H1 S => ⟨rfl, ?_⟩
  walk_at "go"
  refine Loop.range (fun i σ H => ∃ (r : List (Nat × Nat)) (tm : Nat) (tr : List Nat) (q : Nat → Nat) (y1 : Option V), TM (mkL r) (i + 1) tr q ∧ Star H (tour K t r (i + 1) tm :: F) ∧ σ = [some (.ref t), y1, none]) ⟨_, _, _, _, _, TM0, S.fr (by walk_at "fr"), rfl⟩ ?_ ?_
  · rintro i σ H3 hi ⟨r, tm, tr, q, y1, T, S, rfl⟩
    have hi63 : i < 63 := hi
    walk_at "go"
    refine dsp_t S (by decide +kernel) ?_
    walk_at "go"
    have e : (0 + ((i : Nat) : Int)) / 3 = ((i / 3 : Nat) : Int) := by omega
    rw [e]
    obtain ⟨lb, h1, T2, _, _⟩ := T.grow_r (m := i / 3) (by omega)
    refine Tour_grow_ok S h1 (by omega) (by omega) fun H4 S => ?_
    walk_at "w"
    exact ⟨_, _, _, _, _, T2, S, rfl⟩
  · rintro σ H3 ⟨r, tm, tr, q, y1, T, S, rfl⟩
    have S : Star H3 (tour K t r 64 tm :: F) := S
    have T : TM (mkL r) 64 tr q := T
    walk_at "go"
    refine dsp_t S (by decide +kernel) ?_
    walk_at "go"
    refine Tour_order_ok S fun H4 u S => ?_
    walk_at "go"
    refine dsp_o S (by decide +kernel) ?_
    walk_at "go"
    refine Order_marks_ok S fun H5 m1 S => ?_
    have S : Star H5 (tour K t r 64 tm :: pt m1 (.lst ((mkL r).map nV)) :: F) := by
      rw [← mkV_eq]
      exact S.fr (by walk_at "fr")
    walk_at "go"
    refine dsp_t S (by decide +kernel) ?_
    walk_at "go"
    refine Tour_coming_ok S (by decide) fun H6 c1 S => ?_
    walk_at "go"
    refine dsp_t S.p1 (by decide +kernel) ?_
    walk_at "go"
    refine Tour_leaving_ok S.p1 (by decide) fun H7 l1 S => ?_
    walk_at "go"
    refine dsp_t S.p1 (by decide +kernel) ?_
    walk_at "go"
    refine Tour_order_ok S.p1 fun H8 u2 S => ?_
    walk_at "go"
    refine dsp_o S (by decide +kernel) ?_
    walk_at "go"
    refine Order_anew_ok S ?_
    walk_at "go"
    refine al_l S fun sn H9 S => ?_
    have S : Star H9 (dat (.ref sn) (seenF r tm) :: tour K t r 64 tm :: F) := seenF_mk (S.fr (by walk_at "fr"))
    have S : Star H9 (tour K t r 64 tm :: dat (.ref sn) (seenF r tm) :: F) := S.fr (by walk_at "fr")
    walk_at "go"
    refine L_told_full (m := 63) S (by decide) rfl fun H10 f1 S => ?_
    walk_at "go"
    refine al_t S fun T1 H11 S => ?_
    walk_at "go"
    refine pair_ne (d := .int 65) (fun G S => dat_i.mpr ⟨rfl, S⟩) (pl_t (fa1 (show PyData.canLay0 (.str "many") = true by decide +kernel) (fa1 rfl fa0))) (by decide +kernel) S ?_
    have S0 : Star H11 (tour K t r 64 tm :: dat (.ref sn) (seenF r tm) :: F) := S.fr (by walk_at "fr")
    walk_at "go"
    refine L_told_bad1 (way := 0) (v := .int 64) (k := .data (.int 64)) (dat_i.mpr ⟨rfl, S0⟩) (by decide) (noT_out (.inr (by decide))) fun H12 f2 S => ?_
    walk_at "go"
    refine al_t S fun T2 H13 S => ?_
    walk_at "go"
    refine pair_ne (d := .int 64) (fun G S => dat_i.mpr ⟨rfl, S⟩) (pl_t (fa1 (show PyData.canLay0 (.str "make") = true by decide +kernel) (fa1 rfl fa0))) (by decide +kernel) S ?_
    obtain ⟨_, S2⟩ := dat_i.mp (S.fr (by walk_at "fr") : Star H13 (dat (.int 64) (.int 64) :: tour K t r 64 tm :: dat (.ref sn) (seenF r tm) :: F))
    clear S S0
    have S := S2
    walk_at "go"
    refine dsp_t S (by decide +kernel) ?_
    walk_at "go"
    refine Tour_order_ok S fun H14 u S => ?_
    walk_at "go"
    refine dsp_o S (by decide +kernel) ?_
    walk_at "go"
    refine Order_marks_ok S fun H15 m1 S => ?_
    have S : Star H15 (tour K t r 64 tm :: pt m1 (.lst ((mkL r).map nV)) :: dat (.ref sn) (seenF r tm) :: F) := by
      rw [← mkV_eq]
      exact S.fr (by walk_at "fr")
    walk_at "go"
    refine dsp_t S (by decide +kernel) ?_
    walk_at "go"
    refine Tour_coming_ok S (by decide) fun H16 c1 S => ?_
    walk_at "go"
    refine dsp_t S.p1 (by decide +kernel) ?_
    walk_at "go"
    refine Tour_leaving_ok S.p1 (by decide) fun H17 l1 S => ?_
    walk_at "go"
    refine dsp_t S.p1 (by decide +kernel) ?_
    walk_at "go"
    refine Tour_order_ok S.p1 fun H18 u2 S => ?_
    walk_at "go"
    refine dsp_o S (by decide +kernel) ?_
    walk_at "go"
    refine Order_anew_ok S ?_
    walk_at "go"
    refine al_l S fun sn2 H19 S => ?_
    have S : Star H19 (dat (.ref sn2) (seenF r tm) :: tour K t r 64 tm :: dat (.ref sn) (seenF r tm) :: F) := seenF_mk (S.fr (by walk_at "fr"))
    have Sb : Star H19 (dat (.ref sn) (seenF r tm) :: []) := S.fr (by walk_at "fr")
    walk_at "go"
    refine ne_d (Sb.dp seenF_pl.nd) (S.dp seenF_pl.nd) seenF_sh seenF_sh ?_
    rw [PySem.SeqAt.eqv_refl _ seenF_pl]
    have S : Star H19 (tour K t r 64 tm :: F) := S.fr (by walk_at "fr")
    walk_at "go"
    refine dsp_t S (by decide +kernel) ?_
    walk_at "go"
    refine Tour_many_ok S ?_
    walk_at "go"
    refine L_told_bad1 (way := 0) (v := .non) (k := .data .none) (dat_n.mpr ⟨rfl, S⟩) (by decide) rfl fun H20 f3 S => ?_
    walk_at "go"
    refine al_t S fun T3 H21 S => ?_
    walk_at "go"
    refine pair_eq (d := .none) (fun G S => dat_n.mpr ⟨rfl, S⟩) (pl_t (fa1 (show PyData.canLay0 (.str "make") = true by decide +kernel) (fa1 rfl fa0))) (by decide +kernel) S ?_
    exact kk _ (S.fr (by walk_at "fr"))
end
end Lawk17

namespace Lawk17
open PySem PySem.Spec PyProof.Rows L2 MK
theorem nd_first {xs : List Nat} {x j : Nat} (h : xs.Nodup) (hj : xs[j]? = some x) : ∀ i, i < j → xs[i]? ≠ some x := fun i hi e => by
  obtain ⟨a, ea⟩ := List.getElem?_eq_some_iff.mp hj
  obtain ⟨b, eb⟩ := List.getElem?_eq_some_iff.mp e
  have := (List.getElem_inj h).mp (eb.trans ea.symm)
  omega
theorem law_ok {K : PySem.W.Frag} {H : Hp} {a : Addr} {ns : List Int} (S : Star H [scr K a (ns.map V.int)]) : sp_law K [.ref a] H (fun v _ => v = .bl true) fun _ _ _ => False := by
  refine sp_law_i ?_
  walk_at "w"
  intro t dx hx hd hne
  refine Tour_init_ok (S.mkI (C := He.ga K "Tour") hx hd hne) fun H1 S => ⟨rfl, ?_⟩
  walk_at "go"
  refine al_l S fun ow H2 S => ?_
  walk_at "go"
  refine al_l S fun cm H3 S => ?_
  walk_at "go"
  refine Loop.range (fun i σ H => ∃ (r : List (Nat × Nat)) (n tm : Nat) (tr : List Nat) (q : Nat → Nat) (y4 y5 y6 : Option V), (n = i + 1 ∧ TM (mkL r) n tr q) ∧ Star H (tour K t r n tm :: pt ow (.lst (ovV tr)) :: pt cm (.lst ((side 0 r).map nV)) :: scr K a (ns.map V.int) :: []) ∧ σ = [some (.ref a), some (.ref t), some (.ref ow), some (.ref cm), y4, y5, y6]) ⟨_, 1, _, [], _, _, _, _, ⟨rfl, TM0⟩, S.fr (by walk_at "fr"), rfl⟩ ?_ ?_
  · rintro i σ H4 hi ⟨r, n, tm, tr, q, y4, y5, y6, ⟨hni, T⟩, S, rfl⟩
    have hi39 : i < 39 := by omega
    have hlen := T.len
    have eol : (ovV tr).length = n := by
      show (tr.map nV).length + 1 = n
      rw [List.length_map]
      exact hlen
    walk_at "go"
    refine cell_at_ok (S.fr (by walk_at "fr")) (by omega) fun c => ?_
    walk_at "go"
    refine box2_ok 7 (by decide) S fun H5 b S => ?_
    have S : Star H5 (box2 b 7 :: pt ow (.lst (ovV tr)) :: tour K t r n tm :: pt cm (.lst ((side 0 r).map nV)) :: scr K a (ns.map V.int) :: []) := S.fr (by walk_at "fr")
    walk_at "go"
    rw [eol]
    refine take2_ok (n := 6) S (by omega) fun H6 d hd S => ?_
    walk_at "go"
    rw [eol]
    refine al_l S fun l H7 S => ?_
    have S : Star H7 (box2 b 6 :: pt l (.lst [nV d, .int 0, .int ((n : Int) - 1)]) :: pt ow (.lst (ovV tr)) :: tour K t r n tm :: pt cm (.lst ((side 0 r).map nV)) :: scr K a (ns.map V.int) :: []) := S.fr (by walk_at "fr")
    walk_at "go"
    refine take2_ok (n := 5) S (by decide) fun H8 d2 hd2 S => ?_
    walk_at "go"
    refine ix_m S.p1.get (by omega) (by show ((d2 : Nat) : Int) < 3; exact hd2) fun v hv => ?_
    obtain ⟨m, hm, rfl⟩ : ∃ m, m < n ∧ v = nV m := by
      simp only [List.mem_cons, List.not_mem_nil, or_false] at hv
      rcases hv with e | e | e
      · exact ⟨d, by omega, e⟩
      · exact ⟨0, by omega, e⟩
      · refine ⟨n - 1, by omega, e.trans ?_⟩
        show V.int _ = V.int _
        congr 1
        omega
    clear hv
    obtain ⟨lb, h1, T2, h2, h3⟩ := T.grow_r hm
    obtain ⟨j, ej⟩ : ∃ j, j = (sideL ((mkL r).take (q (2 * m))) 0).length := ⟨_, rfl⟩
    rw [← ej] at h2 h3
    have hjl := (List.getElem?_eq_some_iff.mp h2).1
    have hsl := side_len T
    have S : Star H8 (pt cm (.lst ((side 0 r).map nV)) :: tour K t r n tm :: pt ow (.lst (ovV tr)) :: box2 b 5 :: scr K a (ns.map V.int) :: []) := S.fr (by walk_at "fr")
    walk_at "go"
    refine idx_S S h2 (nd_first (side_nd T) h2) ?_
    walk_at "go"
    refine dsp_t S.p1 (by decide +kernel) ?_
    walk_at "go"
    refine Tour_grow_ok S.p1 h1 hm (by omega) fun H9 S => ?_
    have S : Star H9 (pt cm (.lst ((side 0 r).map nV)) :: tour K t (grw r (2 * n) (q (2 * m))) (n + 1) (tm + grwN r (2 * n) (q (2 * m))) :: pt ow (.lst (ovV tr)) :: box2 b 5 :: scr K a (ns.map V.int) :: []) := S.fr (by walk_at "fr")
    have e2 : ((j : Nat) : Int) + 1 = ((j + 1 : Nat) : Int) := by omega
    walk_at "go"
    first
      | rw [e2]
      | skip
    refine ins_S S (by rw [List.length_map]; omega) (by rw [List.length_map]; omega) fun H10 S => ?_
    have e4 : ((side 0 r).map nV).take (j + 1) ++ [nV n] ++ ((side 0 r).map nV).drop (j + 1) = (side 0 (grw r (2 * n) (q (2 * m)))).map nV := by
      rw [h3, List.map_append, List.map_append, List.map_take, List.map_drop]
      rfl
    rw [e4] at S
    clear e4
    have h5 : (side 0 (grw r (2 * n) (q (2 * m))))[j]? = some m := by
      rw [h3, List.append_assoc, List.getElem?_append_left (by rw [List.length_take]; omega), List.getElem?_take, if_pos (Nat.lt_succ_self j), h2]
    have h6 : (side 0 (grw r (2 * n) (q (2 * m))))[j + 1]? = some n := by
      have hl : ((side 0 r).take (j + 1)).length = j + 1 := by rw [List.length_take]; omega
      rw [h3, List.append_assoc, List.getElem?_append_right (by omega), hl, Nat.sub_self]
      rfl
    have hnd := nd_first (side_nd T2) h5
    obtain ⟨r2, er2⟩ : ∃ r2, r2 = grw r (2 * n) (q (2 * m)) := ⟨_, rfl⟩
    rw [← er2] at S T2 h5 h6 hnd
    clear h3 h1 h2 er2
    have S : Star H10 (pt ow (.lst (ovV tr)) :: pt cm (.lst ((side 0 r2).map nV)) :: tour K t r2 (n + 1) (tm + grwN r (2 * n) (q (2 * m))) :: box2 b 5 :: scr K a (ns.map V.int) :: []) := S.fr (by walk_at "fr")
    walk_at "go"
    refine app_S S (by rw [eol]; omega) fun H11 S => ?_
    have e7 : ovV tr ++ [nV m] = ovV (tr ++ [m]) := by
      unfold ovV
      rw [List.map_append]
      rfl
    rw [e7] at S
    have eol2 : (ovV (tr ++ [m])).length = n + 1 := by
      rw [← e7, List.length_append, eol]
      rfl
    have S : Star H11 (pt cm (.lst ((side 0 r2).map nV)) :: pt ow (.lst (ovV (tr ++ [m]))) :: tour K t r2 (n + 1) (tm + grwN r (2 * n) (q (2 * m))) :: box2 b 5 :: scr K a (ns.map V.int) :: []) := S.fr (by walk_at "fr")
    walk_at "go"
    refine idx_S S h5 hnd ?_
    walk_at "go"
    first
      | rw [e2]
      | skip
    refine ix_l S.get (v := nV n) (atI_n (by rw [List.getElem?_map, h6]; rfl)) ?_
    walk_at "go"
    have e8 : (((n + 1 : Nat) : Int)) - 1 = ((n : Nat) : Int) := by omega
    rw [eol2, e8, decide_eq_true rfl]
    walk_at "go"
    rw [eol2]
    refine L_refused_ok (fu := 0) (b := b) (r := r2) (n := n + 1) (F := pt cm (.lst ((side 0 r2).map nV)) :: pt ow (.lst (ovV (tr ++ [m]))) :: scr K a (ns.map V.int) :: []) (S.fr (by walk_at "fr")) T2 (by omega) fun H12 S => ?_
    walk_at "go"
    exact ⟨r2, n + 1, _, tr ++ [m], _, _, _, _, ⟨by omega, T2⟩, S.fr (by walk_at "fr"), rfl⟩
  · rintro σ H4 ⟨r, n, tm, tr, q, y4, y5, y6, ⟨hni, T⟩, S, rfl⟩
    have hn40 : n ≤ 64 := by
      rw [hni]
      omega
    walk_at "go"
    refine L_pairs_ok S T hn40 fun H5 S => ?_
    walk_at "go"
    refine cell_at_ok (S.fr (by walk_at "fr") : Star H5 (scr K a (ns.map V.int) :: [])) (by omega) fun c => ?_
    walk_at "go"
    refine brn (fun hc => ?_) (fun hc => ?_)
    · rfl
    · walk_at "go"
      refine L_full_ok S fun H6 S => ?_
      rfl
end Lawk17

open PySem PySem.W PySem.Calls PyProof.Rows
set_option maxRecDepth 100000 in
set_option maxHeartbeats 0 in
theorem PySem.Challenge.cw_makeskept_k17_within_and_refused_holds : PySem.Challenge.rw_makeskept_k17_within_and_refused.Holds := by
  w_on; o_law
  refine HandSHeadRun.head_any (r := OpenLaw.row PySem.Challenge.rw_makeskept_k17_within_and_refused) (q := view (OpenLaw.row PySem.Challenge.rw_makeskept_k17_within_and_refused).prog [26]) (H := Lawk17.hk) (ob := Lawk17.ob) (M := 3500) (loose := Lawk17.loose) (d := HandSHeadRun.topDef (OpenLaw.row PySem.Challenge.rw_makeskept_k17_within_and_refused).prog 26) (kwd := []) Lawk17.ob_eq
    (by kernel_rfl) (fun s => by kernel_rfl) Lawk17.run (by kernel_rfl) (by kernel_rfl) (by kernel_rfl) (by rfl) (by first | assumption | decide +kernel) (by decide +kernel) ⟨rfl, rfl, rfl, rfl, rfl, by decide +kernel⟩ ?hw ?hc
  case hw => w_witness2
  case hc =>
    refine MK.walk_end (l := PySem.Challenge.rw_makeskept_k17_within_and_refused) (n := 63) (k := 11) (x := "_law_script") rfl (by decide) (by kernel_rfl) ⟨rfl, by decide, by decide⟩ ?F
    intro w mg fa h Y G hmg0
    obtain ⟨K, KX, c⟩ := Y
    have hmg : mg ("law" : PySem.Str) = some (.ref fa) := by
      have e : (HandSHeadRun.topDef (OpenLaw.row PySem.Challenge.rw_makeskept_k17_within_and_refused).prog 26).name = ("law" : PySem.Str) := by kernel_rfl
      rw [← e]
      exact hmg0
    have e := hmg.symm.trans (Lawk17.g_law c KX G)
    cases e
    obtain ⟨fd, F⟩ := c.def_ 36 (d := Lawk17.dd_law) rfl
    refine ⟨K, fd, Lawk17.sp_law K, KX, fun s v => L2.FunD.bindsA (ps := ["_law_script"]) F (fun _ _ _ _ _ _ us hl => match us, hl with | [_], _ => rfl) s [v] rfl, fun H a ns hl S => Lawk17.law_ok S, fun base kin ns => ?_⟩
    exact Lawk17.fnG_law c kin ns F

