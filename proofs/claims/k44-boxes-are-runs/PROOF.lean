import PyProof.Rows.All
import PySem.Challenge.RW_makeskept_k44_boxes_are_runs
import Wide.All
import OpenK.AllK
import Wide.FinOn
import HandS.ForMost
import HandS.ForExc
import HandS.Defaults
import HandS.Wide
import HandS.Walk
import HandS.IsInst
import HandS.TupAny
import HandS.Style
import HandS.RaiseMore
import PyProof.ReprRoads
import HandS.WordsDict
import HandS.TupLen
import HandS.Small
import HandS.DictComp
import HandS.NoneIn
import HandS.Rev
import HandS.RevRange
import HandS.HeadEnd
import HandS.Head0
import HandS.Head1
import HandS.Head2
import HandS.HeadHook1
import HandS.HeadHook2
import HandS.HeadHook3
import HandS.HeadHook4
import HandS.Dict
import HandS.ExcInit
import HandS.ExcField
import HandS.ExcIs
import HandS.More
import HandS.SetFor
import HandS.Text
import HandS.TryOnly
import KE.BitLaws
import HandS.Zip
import HandS.SetKeys
import HandS.Deep
import HandS.TryMany
import HandS.SortInts
import HandS.DictTup
import HandS.SortOrd
import HandS.SortRule
import HandS.Conv
import KE.KDictCopyH
import KE.KDictOf
import HandS.Iter
/-! By an AI agent: a layer of its own over the walk of the abstract heap, the readings of the text, what they keep, the head. -/
set_option Elab.async false
set_option linter.all false
set_option maxRecDepth 100000
set_option maxHeartbeats 4000000
namespace MK
open PySem PySem.Spec PyProof.Rows L2

/-! ### assertions about the abstract heap -/
def isFix : Option HO → Prop
  | some (.tup _) => True
  | some (.frz _ _) => True
  | _ => False
def Keep (H H' : Hp) : Prop := ∀ a, isFix (H a) → H' a = H a
theorem Keep.refl (H : Hp) : Keep H H := fun _ _ => rfl
theorem Keep.trans {H H1 H2 : Hp} (a : Keep H H1) (b : Keep H1 H2) : Keep H H2 := fun x h => (b x (by rw [a x h]; exact h)).trans (a x h)
structure SP where
  P : Hp → List Addr → Prop
  dom : ∀ H A, P H A → ∀ a ∈ A, H a ≠ none ∧ ¬ isFix (H a)
  st : ∀ H H' A, P H A → (∀ a ∈ A, H' a = H a) → Keep H H' → P H' A
def SL : Hp → List SP → List Addr → Prop
  | _, [], A => A = []
  | H, p :: ps, A => ∃ A1 A2, A = A1 ++ A2 ∧ p.P H A1 ∧ SL H ps A2
theorem SL.dom {H : Hp} : ∀ {ps : List SP} {A : List Addr}, SL H ps A → ∀ a ∈ A, H a ≠ none ∧ ¬ isFix (H a)
  | [], A, h, a, ha => by cases h; cases ha
  | p :: ps, A, h, a, ha => by
    obtain ⟨A1, A2, rfl, h1, h2⟩ := h
    rcases List.mem_append.mp ha with z | z
    · exact p.dom _ _ h1 a z
    · exact h2.dom a z
theorem SL.st {H H' : Hp} (k : Keep H H') : ∀ {ps : List SP} {A : List Addr}, SL H ps A → (∀ a ∈ A, H' a = H a) → SL H' ps A
  | [], A, h, _ => h
  | p :: ps, A, h, e => by
    obtain ⟨A1, A2, rfl, h1, h2⟩ := h
    exact ⟨A1, A2, rfl, p.st _ _ _ h1 (fun a ha => e a (List.mem_append_left _ ha)) k, h2.st k fun a ha => e a (List.mem_append_right _ ha)⟩
theorem SL.app {H : Hp} : ∀ {ps qs : List SP} {A : List Addr}, SL H (ps ++ qs) A ↔ ∃ A1 A2, A = A1 ++ A2 ∧ SL H ps A1 ∧ SL H qs A2
  | [], qs, A => ⟨fun h => ⟨[], A, rfl, rfl, h⟩, fun ⟨A1, A2, e, h1, h2⟩ => by cases h1; rw [e]; exact h2⟩
  | p :: ps, qs, A => by
    constructor
    · rintro ⟨A1, A2, rfl, h1, h2⟩
      obtain ⟨B1, B2, rfl, h3, h4⟩ := SL.app.mp h2
      exact ⟨A1 ++ B1, B2, by simp, ⟨A1, B1, rfl, h1, h3⟩, h4⟩
    · rintro ⟨A1, A2, rfl, ⟨B1, B2, rfl, h3, h4⟩, h5⟩
      exact ⟨B1, B2 ++ A2, by simp, h3, SL.app.mpr ⟨B2, A2, rfl, h4, h5⟩⟩
def Star (H : Hp) (ps : List SP) : Prop := ∃ A, A.Nodup ∧ SL H ps A
theorem Star.nil (H : Hp) : Star H [] := ⟨[], List.nodup_nil, rfl⟩

def pt (a : Addr) (o : HO) : SP where
  P := fun H A => A = [a] ∧ H a = some o ∧ ¬ isFix (some o)
  dom := fun H A ⟨e, h, n⟩ b hb => by
    subst e
    have e : b = a := by simpa using hb
    subst e
    rw [h]
    exact ⟨(fun z => by cases z), n⟩
  st := fun H H' A ⟨e, h, n⟩ k _ => ⟨e, by rw [k a (by simp [e]), h], n⟩
def fx (a : Addr) (o : HO) : SP where
  P := fun H A => A = [] ∧ H a = some o ∧ isFix (some o)
  dom := fun H A ⟨e, h, n⟩ b hb => by
    subst e
    cases hb
  st := fun H H' A ⟨e, h, n⟩ _ k => ⟨e, by rw [k a (by rw [h]; exact n), h], n⟩
def pr (φ : Prop) : SP where
  P := fun _ A => A = [] ∧ φ
  dom := fun H A h b hb => by
    rw [h.1] at hb
    cases hb
  st := fun H H' A h _ k => h
def ex {α : Type} (f : α → SP) : SP where
  P := fun H A => ∃ x, (f x).P H A
  dom := fun H A ⟨x, h⟩ => (f x).dom H A h
  st := fun H H' A ⟨x, h⟩ k q => ⟨x, (f x).st H H' A h k q⟩
def sep (ps : List SP) : SP where
  P := fun H A => SL H ps A
  dom := fun H A h => h.dom
  st := fun H H' A h k q => h.st q k

section
variable {H H' : Hp} {ps qs : List SP} {p q r : SP} {a : Addr} {o o' : HO} {φ : Prop}
theorem Star.split : Star H (p :: ps) ↔ ∃ A1 A2, (A1 ++ A2).Nodup ∧ p.P H A1 ∧ SL H ps A2 :=
  ⟨fun ⟨A, n, A1, A2, e, h1, h2⟩ => ⟨A1, A2, e ▸ n, h1, h2⟩, fun ⟨A1, A2, n, h1, h2⟩ => ⟨_, n, A1, A2, rfl, h1, h2⟩⟩
theorem SL.perm (h : ps.Perm qs) : ∀ {A : List Addr}, SL H ps A → ∃ B, A.Perm B ∧ SL H qs B := by
  induction h with
  | nil => exact fun {A} hA => ⟨A, .refl _, hA⟩
  | cons x _ ih =>
    intro A hA
    obtain ⟨A1, A2, rfl, h1, h2⟩ := hA
    obtain ⟨B, pb, hb⟩ := ih h2
    exact ⟨A1 ++ B, pb.append_left A1, A1, B, rfl, h1, hb⟩
  | swap x y l =>
    intro A hA
    obtain ⟨A1, A2, rfl, h1, B1, B2, rfl, h3, h4⟩ := hA
    refine ⟨B1 ++ (A1 ++ B2), ?_, B1, A1 ++ B2, rfl, h3, A1, B2, rfl, h1, h4⟩
    rw [← List.append_assoc, ← List.append_assoc]
    exact List.Perm.append_right B2 List.perm_append_comm
  | trans _ _ ih1 ih2 =>
    intro A hA
    obtain ⟨B, pb, hb⟩ := ih1 hA
    obtain ⟨C, pc, hc⟩ := ih2 hb
    exact ⟨C, pb.trans pc, hc⟩
theorem Star.perm (S : Star H ps) (h : ps.Perm qs) : Star H qs := by
  obtain ⟨A, n, hA⟩ := S
  obtain ⟨B, pb, hb⟩ := SL.perm h hA
  exact ⟨B, pb.nodup_iff.mp n, hb⟩
theorem Star.tail (S : Star H (p :: ps)) : Star H ps := by
  obtain ⟨A1, A2, n, _, h⟩ := Star.split.mp S
  exact ⟨A2, (List.nodup_append.mp n).2.1, h⟩
theorem Star.get (S : Star H (pt a o :: ps)) : H a = some o := by
  obtain ⟨A1, A2, _, ⟨_, h, _⟩, _⟩ := Star.split.mp S
  exact h
theorem Star.getF (S : Star H (fx a o :: ps)) : H a = some o := by
  obtain ⟨A1, A2, _, ⟨_, h, _⟩, _⟩ := Star.split.mp S
  exact h
theorem nofix_iff {o : HO} : isFix (some o) ↔ isFix (some o) := Iff.rfl
theorem Star.upd' (S : Star H (pt a o :: ps)) (n' : ¬ isFix (some o')) : Star (upd H a o') (pt a o' :: ps) := by
  obtain ⟨A1, A2, n, ⟨e, h, nf⟩, h2⟩ := Star.split.mp S
  subst e
  refine Star.split.mpr ⟨[a], A2, n, ⟨rfl, upd_same, n'⟩, h2.st (fun b hb => ?_) fun b hb => ?_⟩
  · refine upd_ne fun z => ?_
    subst z
    rw [h] at hb
    exact nf hb
  · refine upd_ne fun z => ?_
    subst z
    exact (List.nodup_cons.mp n).1 hb
theorem Star.new' (S : Star H ps) (hn : H a = none) (n' : ¬ isFix (some o)) : Star (upd H a o) (pt a o :: ps) := by
  obtain ⟨A, n, h⟩ := S
  have na : a ∉ A := fun z => (h.dom a z).1 hn
  refine Star.split.mpr ⟨[a], A, List.nodup_cons.mpr ⟨na, n⟩, ⟨rfl, upd_same, n'⟩, h.st (fun b hb => ?_) fun b hb => ?_⟩
  · refine upd_ne fun z => ?_
    subst z
    rw [hn] at hb
    exact hb
  · exact upd_ne fun z => na (z ▸ hb)
theorem Star.newF (S : Star H ps) (hn : H a = none) (n' : isFix (some o)) : Star (upd H a o) (fx a o :: ps) := by
  obtain ⟨A, n, h⟩ := S
  have na : a ∉ A := fun z => (h.dom a z).1 hn
  refine Star.split.mpr ⟨[], A, n, ⟨rfl, upd_same, n'⟩, h.st (fun b hb => ?_) fun b hb => ?_⟩
  · refine upd_ne fun z => ?_
    subst z
    rw [hn] at hb
    exact hb
  · exact upd_ne fun z => na (z ▸ hb)
/-- an object that no one holds any more is forgotten -/
theorem Star.del (S : Star H (pt a o :: ps)) (e : ∀ b, b ≠ a → H' b = H b) : Star H' ps := by
  obtain ⟨A1, A2, n, ⟨e1, h, nf⟩, h2⟩ := Star.split.mp S
  subst e1
  refine ⟨A2, (List.nodup_cons.mp n).2, h2.st (fun b hb => e b fun z => ?_) fun b hb => e b fun z => ?_⟩
  · subst z
    rw [h] at hb
    exact nf hb
  · subst z
    exact (List.nodup_cons.mp n).1 hb
theorem Star.updL {xs ys : List V} (S : Star H (pt a (.lst xs) :: ps)) : Star (upd H a (.lst ys)) (pt a (.lst ys) :: ps) := S.upd' id
theorem Star.newL {ys : List V} (S : Star H ps) (hn : H a = none) : Star (upd H a (.lst ys)) (pt a (.lst ys) :: ps) := S.new' hn id
theorem Star.newT {ys : List V} (S : Star H ps) (hn : H a = none) : Star (upd H a (.tup ys)) (fx a (.tup ys) :: ps) := S.newF hn True.intro
theorem Star.mono1 (S : Star H (p :: ps)) (h : ∀ A, p.P H A → q.P H A) : Star H (q :: ps) := by
  obtain ⟨A1, A2, n, h1, h2⟩ := Star.split.mp S
  exact Star.split.mpr ⟨A1, A2, n, h A1 h1, h2⟩
theorem Star.ex_iff {α : Type} {f : α → SP} : Star H (ex f :: ps) ↔ ∃ x, Star H (f x :: ps) :=
  ⟨fun S => by
    obtain ⟨A1, A2, n, ⟨x, h1⟩, h2⟩ := Star.split.mp S
    exact ⟨x, Star.split.mpr ⟨A1, A2, n, h1, h2⟩⟩, fun ⟨x, S⟩ => S.mono1 fun _ h => ⟨x, h⟩⟩
theorem Star.pr_iff : Star H (pr φ :: ps) ↔ φ ∧ Star H ps :=
  ⟨fun S => by
    obtain ⟨A1, A2, n, ⟨_, h1⟩, h2⟩ := Star.split.mp S
    exact ⟨h1, S.tail⟩, fun ⟨h, A, n, hA⟩ => Star.split.mpr ⟨[], A, n, ⟨rfl, h⟩, hA⟩⟩
theorem Star.sep_iff : Star H (sep qs :: ps) ↔ Star H (qs ++ ps) :=
  ⟨fun ⟨A, n, A1, A2, e, h1, h2⟩ => ⟨A, n, SL.app.mpr ⟨A1, A2, e, h1, h2⟩⟩, fun ⟨A, n, h⟩ => by
    obtain ⟨A1, A2, e, h1, h2⟩ := SL.app.mp h
    exact ⟨A, n, A1, A2, e, h1, h2⟩⟩
theorem Star.dupF (S : Star H (fx a o :: ps)) : Star H (fx a o :: fx a o :: ps) := by
  obtain ⟨A1, A2, n, ⟨e, h, f⟩, h2⟩ := Star.split.mp S
  subst e
  exact Star.split.mpr ⟨[], A2, n, ⟨rfl, h, f⟩, [], A2, rfl, ⟨rfl, h, f⟩, h2⟩
theorem Star.s1 (S : Star H (p :: q :: ps)) : Star H (q :: p :: ps) := S.perm (.swap _ _ _)
end
section
variable {H : Hp} {ps : List SP} {a b c d e f g h i j : SP}
theorem Star.p0 (S : Star H (a :: ps)) : Star H (a :: ps) := S
theorem Star.p1 (S : Star H (a :: b :: ps)) : Star H (b :: a :: ps) := S.perm (.swap _ _ _)
theorem Star.p2 (S : Star H (a :: b :: c :: ps)) : Star H (c :: a :: b :: ps) := S.perm (.trans (.cons _ (.swap _ _ _)) (.swap _ _ _))
theorem Star.up {n : List SP} (S : Star H (n ++ a :: ps)) : Star H (a :: (n ++ ps)) := S.perm List.perm_middle
theorem Star.p3 (S : Star H (a :: b :: c :: d :: ps)) : Star H (d :: a :: b :: c :: ps) := Star.up (n := [a, b, c]) S
theorem Star.p4 (S : Star H (a :: b :: c :: d :: e :: ps)) : Star H (e :: a :: b :: c :: d :: ps) := Star.up (n := [a, b, c, d]) S
theorem Star.p5 (S : Star H (a :: b :: c :: d :: e :: f :: ps)) : Star H (f :: a :: b :: c :: d :: e :: ps) := Star.up (n := [a, b, c, d, e]) S
theorem Star.p6 (S : Star H (a :: b :: c :: d :: e :: f :: g :: ps)) : Star H (g :: a :: b :: c :: d :: e :: f :: ps) := Star.up (n := [a, b, c, d, e, f]) S
theorem Star.p7 (S : Star H (a :: b :: c :: d :: e :: f :: g :: h :: ps)) : Star H (h :: a :: b :: c :: d :: e :: f :: g :: ps) := Star.up (n := [a, b, c, d, e, f, g]) S
theorem Star.p8 (S : Star H (a :: b :: c :: d :: e :: f :: g :: h :: i :: ps)) : Star H (i :: a :: b :: c :: d :: e :: f :: g :: h :: ps) := Star.up (n := [a, b, c, d, e, f, g, h]) S
theorem Star.p9 (S : Star H (a :: b :: c :: d :: e :: f :: g :: h :: i :: j :: ps)) : Star H (j :: a :: b :: c :: d :: e :: f :: g :: h :: i :: ps) := Star.up (n := [a, b, c, d, e, f, g, h, i]) S
end
end MK

namespace MK
open PySem PySem.Spec PyProof.Rows L2

/-! ### promises of defs that are called where no repr runs -/
structure FnG (P : Program) (w : World) (K : PySem.W.Frag) (mg : Str → Option Value) (base : Heap) (k : Nat) (f : Addr) (fd : FuncData) (ps : List Str) (sp : Sp) : Prop where
  len : ∀ vs H Q E, sp vs H Q E → vs.length = ps.length
  run : ∀ (A : Around) (outer : List Env) (s : Shared) (H : Hp) (args : Args) (us : List Value) (vs : List V) (Q : VK) (E : XK),
    Room k A → A.guards = some [] → Env0 P w K mg base A outer s H → BindsTo s fd args (ps.zip us) → Vals vs us → sp vs H Q E →
      codeAny (model P w) A (.call (.ref f) args) (CR (L2.CX P w) outer P w H s Q E) s
section
variable {P : Program} {w : World} {K : PySem.W.Frag} {mg : Str → Option Value} {base : Heap} {k : Nat} {f : Addr} {fd : FuncData} {ps : List Str} {sp sp' : Sp}
theorem FnG.mono {j : Nat} (F : FnG P w K mg base j f fd ps sp) (h : j ≤ k) : FnG P w K mg base k f fd ps sp :=
  ⟨F.len, fun A o s H a us vs Q E hr hg => F.run A o s H a us vs Q E (hr.mono h) hg⟩
theorem FnG.imp (F : FnG P w K mg base k f fd ps sp) (h : ∀ vs H Q E, sp' vs H Q E → sp vs H Q E) : FnG P w K mg base k f fd ps sp' :=
  ⟨fun vs H Q E q => F.len vs H Q E (h _ _ _ _ q), fun A o s H a us vs Q E hr hg he hb hv hs => F.run A o s H a us vs Q E hr hg he hb hv (h _ _ _ _ hs)⟩
/-- a def that nothing asks -/
theorem FnG.never (f : Addr) (fd : FuncData) (ps : List Str) : FnG P w K mg base k f fd ps (fun _ _ _ _ => False) :=
  ⟨fun _ _ _ _ h => h.elim, fun _ _ _ _ _ _ _ _ _ _ _ _ _ _ h => h.elim⟩
theorem FnG.of {x qual : Str} {params : Arguments} {body : List Stmt} {scope : Scope} {N : List Str} (F : FunD K x qual params body scope [] [] f fd) (S : FnScope N ps scope) (len : ∀ vs H Q E, sp vs H Q E → vs.length = ps.length)
    (hbody : ∀ (cdv : Value) (A : Around) (outer : List Env) (s : Shared) (H : Hp) (vs : List V) (Q : VK) (E : XK),
      Room k (A.deeper (envOfC qual scope s.heap.objs.size f cdv)) → A.guards = some [] → sp vs H Q E →
      ∃ t, PSs (cxOf (L2.CX P w) P w K mg base N qual scope f cdv A outer s H E) body t ∧ t { nx := fun _ H' => Q .non H', rt := Q } (start N vs) H) :
    FnG P w K mg base (k + 1) f fd ps sp := by
  obtain ⟨oc, od, dV, kV, doc, pm, an, cdv, ct, osl, e, lk, hcd, _, _⟩ := F.ex
  subst e
  constructor
  · exact len
  intro A outer s H args us vs Q E hr hg e0 hb r hsp
  have hl := len _ _ _ _ hsp
  have kin : K.In s.heap := e0.mod.kin.keeps (fun b o z => (e0.bs b o z).1)
  have kinds : ∀ y ∈ ps.zip us, scope.names.lookup y.1 = some .local ∨
      (scope.names.lookup y.1 = some .cell ∧ ((cellsFrom (s.heap.objs.size + 1) scope.names []).lookup y.1).isSome = true) := by
    intro y hy
    have hm : y.1 ∈ ps := (List.of_mem_zip (show (y.1, y.2) ∈ ps.zip us from hy)).1
    rcases S.par y.1 hm with q | q
    · exact Or.inl q
    · exact Or.inr ⟨q, PySem.W.cellsFrom_some _ _ _ (Or.inl q)⟩
  refine codeAny_call_function hr.depth (kin _ _ lk) rfl S.co S.gen rfl (PySem.W.codeRec_of kin hcd) (hb _ _ _ _ ?_)
  refine wpAny_newFunctionEnv_cells S.kind kinds ?_
  intro env he s1 x
  subst he
  have lim : s.heap.NoLimit := e0.mod.nolimit.keeps (fun b o z => (e0.bs b o z).1)
  refine ⟨lim.keeps x.toInCall.keep, codeAny_func ?_⟩
  obtain ⟨t, ht, hq⟩ := hbody cdv A outer s H vs Q E (hr.deeper _) hg hsp
  refine wpAny_mono (ht.run [] s1 (start N vs) H _ (inv_start S hr.hd e0 hl r x) hq) ?_ (fun _ _ z => z)
  intro fl s' hs
  cases fl with
  | next =>
    obtain ⟨σ', H', J, q⟩ := hs
    exact ⟨V.non, H', J.os, J.bare, J.base, J.hok, rfl, q⟩
  | ret u =>
    obtain ⟨v, σ', H', J, rv, q⟩ := hs
    exact ⟨v, H', J.os, J.bare, J.base, J.hok, rv, q⟩
  | brk =>
    obtain ⟨_, _, _, q⟩ := hs
    exact q.elim
  | cont =>
    obtain ⟨_, _, _, q⟩ := hs
    exact q.elim
end

/-! ### calls -/
section
variable {X : Cx} {k j : Nat} {f C : Addr} {fd : FuncData} {ps : List Str} {sp : Sp} {W : WX} {x m : Str} {p pos apos : Pos} {e o : Expr} {es : List Expr} {ta : TE} {t : TA}
/-- what is asked of a callee that runs within X -/
structure Cal (X : Cx) (f : Addr) (sp : Sp) : Prop where
  ex : ∃ (k : Nat) (fd : FuncData) (ps : List Str), Room k X.A ∧ X.A.guards = some [] ∧ Binds X.K fd ps [] ∧ FnG X.prog X.w X.K X.mg X.base k f fd ps sp
theorem Cal.run (c : Cal X f sp) (tk : Takes X W) {pins : List (Addr × Obj)} {σ : L2.St} {H : Hp} {s : Shared} {Q : VK} {us : List Value} {vs : List V} (I : Inv X pins σ H s) (r : Vals vs us)
    (h : sp vs H Q (fun cls d H' => W cls d σ H')) : wpAny (model X.prog X.w) X.A (call (.ref f) us) (EP X pins σ Q) X.xe s := by
  obtain ⟨k, fd, ps, hr, hg, hb, F⟩ := c.ex
  have hl : us.length = ps.length := by rw [← r.length]; exact F.len _ _ _ _ h
  have b := hb s us I.kIn (by rw [List.append_nil]; exact hl)
  rw [List.append_nil] at b
  refine wpAny_call (codeAny_mono (F.run X.A X.stack s H ⟨us, []⟩ us vs Q _ hr hg I.env0 b r h) ?_)
  intro r s' hq
  rcases r with e | (u | _ | _ | _)
  · exact tk e s' (XE.of_call I (fun _ _ _ z => z) hq)
  · exact hq.elim
  · exact hq.elim
  · exact hq.elim
  · exact I.after hq
/-- f(e, ..): what its promise asks -/
def eCall (sp : Sp) (W : WX) (t : TA) : TE := fun σ H Q => t σ H fun vs H1 => sp vs H1 Q (fun cls d H2 => W cls d σ H2)
theorem pe_cg (c : Cal X f sp) (hm : X.mg x = some (.ref f)) (hk : PySem.W.keepIn X.K (.ref f) = true) (gl : Gl X x) (tk : Takes X W) (ha : PA X (e :: es) t)
    (hdb : (x == ("__debug__" : Str)) = false := by decide +kernel) (he : starEach (e :: es) X.env = (false, eval e X.env) :: starEach es X.env := by rfl) (hpl : (backTo pos (starEach es X.env)).any (·.1) = false := by rfl) :
    PE X (.Call (.Name x p) (e :: es) [] pos) (eCall sp W t) := by
  constructor
  intro pins s σ H Q I h
  refine wpAny_Call_Name_kw (ld_glob I gl hm ?_ hdb)
  refine PySem.W.callWith_K (h₀ := X.base) I.ok.mod.kin hk (thn (ha.run pos pins s σ H _ I h) ?_) he hpl
  rintro us s1 ⟨vs, H1, I1, r, q⟩
  exact ⟨I1.kIn, c.run tk I1 r q⟩
theorem pe_cg0 (c : Cal X f sp) (hm : X.mg x = some (.ref f)) (hk : PySem.W.keepIn X.K (.ref f) = true) (gl : Gl X x) (tk : Takes X W)
    (hdb : (x == ("__debug__" : Str)) = false := by decide +kernel) : PE X (.Call (.Name x p) [] [] pos) (eCall sp W tNil) := by
  constructor
  intro pins s σ H Q I h
  refine wpAny_Call_Name_kw (ld_glob I gl hm ?_ hdb)
  exact PySem.W.callWith_K0 I.kIn hk (c.run (us := []) tk I .nil h)
/-- x is an instance of the class at C, m no attribute of its own -/
def isIns (C : Addr) (m : Str) (x : V) (H : Hp) : Prop := ∃ a dx fs, x = .ref a ∧ H a = some (.ins C dx fs) ∧ fs.lookup m = none
def eMeth (C : Addr) (m : Str) (sp : Sp) (W : WX) (to : TE) (t : TA) : TE := fun σ H Q => to σ H fun x H1 => isIns C m x H1 ∧ t σ H1 fun vs H2 => sp (x :: vs) H2 Q (fun cls d H3 => W cls d σ H3)
theorem pe_mg {pl : Sem Bool} (he : PE X o ta) (cl : Cls X.K C) (hm : Meth X.K C m f) (c : Cal X f sp) (tk : Takes X W) (ha : PA X (e :: es) t)
    (hst : starEach (e :: es) X.env = (false, eval e X.env) :: starEach es X.env := by rfl) (hpl : (backTo pos (starEach es X.env)).any (·.1) = false := by rfl)
    (ht : eval (.Call (.Attribute o m apos) (e :: es) [] pos) X.env = (do
      let ov ← eval o X.env
      standAt apos.atName
      let (f, first) ← holding [ov] (getMethod ov m pl)
      callWith pos f first (backTo pos (starEach (e :: es) X.env)) (backToKw pos (keywordEach [] X.env))) := by rfl) :
    PE X (.Call (.Attribute o m apos) (e :: es) [] pos) (eMeth C m sp W ta t) := by
  constructor
  intro pins s σ H Q I h
  refine PySem.W.methodCall_KW (pl := pl) (thn (he.run pins s σ H _ I h) ?_) ht
  rintro u s1 ⟨x, H1, I1, rx, ⟨a, dx, fs, ex, ea, l⟩, q⟩
  subst ex
  cases (show u = Value.ref a from rx)
  refine getmeth_ok I1 ea cl hm l (PySem.W.callWith_K (first := [.ref a]) (h₀ := X.base) I.ok.mod.kin hm.kp (thn (ha.run pos pins s1 σ H1 _ I1 q) ?_) hst hpl)
  rintro us s2 ⟨vs, H2, I2, r, q2⟩
  exact ⟨I2.kIn, c.run (us := .ref a :: us) (vs := .ref a :: vs) tk I2 (.cons rfl r) q2⟩
theorem pe_mg0 {pl : Sem Bool} (he : PE X o ta) (cl : Cls X.K C) (hm : Meth X.K C m f) (c : Cal X f sp) (tk : Takes X W)
    (ht : eval (.Call (.Attribute o m apos) [] [] pos) X.env = (do
      let ov ← eval o X.env
      standAt apos.atName
      let (f, first) ← holding [ov] (getMethod ov m pl)
      callWith pos f first (backTo pos (starEach [] X.env)) (backToKw pos (keywordEach [] X.env))) := by rfl) :
    PE X (.Call (.Attribute o m apos) [] [] pos) (eMeth C m sp W ta tNil) := by
  constructor
  intro pins s σ H Q I h
  refine PySem.W.methodCall_KW (pl := pl) (thn (he.run pins s σ H _ I h) ?_) ht
  rintro u s1 ⟨x, H1, I1, rx, ⟨a, dx, fs, ex, ea, l⟩, q⟩
  subst ex
  cases (show u = Value.ref a from rx)
  exact getmeth_ok I1 ea cl hm l (PySem.W.callWith_K0 (first := [.ref a]) I1.kIn hm.kp (c.run (us := [.ref a]) (vs := [.ref a]) tk I1 (.cons rfl .nil) q))

/-! ### making an instance -/
/-- a callee within the making of an instance -/
structure CalM (X : Cx) (f : Addr) (sp : Sp) : Prop where
  ex : ∃ (k : Nat) (fd : FuncData) (ps : List Str), Room (k + 1) X.A ∧ X.A.guards = some [] ∧ Binds X.K fd ps [] ∧ FnG X.prog X.w X.K X.mg X.base k f fd ps sp
theorem make_guards {A : Around} {us : List Value} : (A.under (.builtin "type.__call__" ⟨.ref C :: us, []⟩)).guards = A.guards := by
  first | rfl | simp [Around.under, Code.guards, Code.isGuard, guardIds, pushGuards]
/-- C(..): a new instance, then __init__ -/
def eMake (C : Addr) (sp : Sp) (W : WX) (t : TA) : TE := fun σ H Q => t σ H fun vs H1 => ∀ x dx, H1 x = none → H1 dx = none → dx ≠ x →
  sp (.ref x :: vs) (upd (upd H1 dx (.own x)) x (.ins C dx [])) (fun v H2 => v = .non ∧ Q (.ref x) H2) (fun cls d H2 => W cls d σ H2)
theorem CalM.run (M : Mk X.K C f) (c : CalM X f sp) (tk : Takes X W) {pins : List (Addr × Obj)} {σ : L2.St} {H : Hp} {s : Shared} {Q : VK} {us : List Value} {vs : List V} (I : Inv X pins σ H s) (r : Vals vs us)
    (h : ∀ x dx, H x = none → H dx = none → dx ≠ x → sp (.ref x :: vs) (upd (upd H dx (.own x)) x (.ins C dx [])) (fun v H2 => v = .non ∧ Q (.ref x) H2) (fun cls d H2 => W cls d σ H2)) :
    wpAny (model X.prog X.w) X.A (call (.ref C) us) (EP X pins σ Q) X.xe s := by
  obtain ⟨k, fd, ps, hr, hg, hb, F⟩ := c.ex
  have n0 : H s.heap.objs.size = none := I.hok.fresh (Nat.le_refl _)
  have n1 : H (s.heap.objs.size + 1) = none := I.hok.fresh (Nat.le_succ _)
  have hq := h _ _ n1 n0 (Nat.ne_of_lt (Nat.lt_succ_self _))
  have J := Inv.made (C := C) I
  have r2 : Vals (V.ref (s.heap.objs.size + 1) :: vs) (Value.ref (s.heap.objs.size + 1) :: us) := .cons rfl r
  have hl : (Value.ref (s.heap.objs.size + 1) :: us).length = ps.length := by
    rw [← r2.length]
    exact F.len _ _ _ _ hq
  have b := hb _ (Value.ref (s.heap.objs.size + 1) :: us) J.kIn (by rw [List.append_nil]; exact hl)
  rw [List.append_nil] at b
  have run := F.run (X.A.under (.builtin "type.__call__" ⟨.ref C :: us, []⟩)) X.stack _ _ ⟨Value.ref (s.heap.objs.size + 1) :: us, []⟩ (Value.ref (s.heap.objs.size + 1) :: us) _ _ _
    (hr.make C us []) (by rw [make_guards]; exact hg) (J.env0.make C us []) b r2 hq
  refine wpAny_call (make_map (f := f) I.kIn M.makes M.init (beq_iff_eq.mp M.fn) (codeAny_mono run ?_))
  intro r s' z
  rcases r with e | (u | _ | _ | _)
  · exact tk e s' (XE.of_call J (fun _ _ _ y => y) z)
  · exact z.elim
  · exact z.elim
  · exact z.elim
  · obtain ⟨v, H', I3, rv, ev, q3⟩ := J.after z
    subst ev
    exact ⟨rv, V.ref (s.heap.objs.size + 1), H', I3, rfl, q3⟩
theorem pe_mk (M : Mk X.K C f) (c : CalM X f sp) (hm : X.mg x = some (.ref C)) (gl : Gl X x) (tk : Takes X W) (ha : PA X (e :: es) t)
    (hdb : (x == ("__debug__" : Str)) = false := by decide +kernel) (he : starEach (e :: es) X.env = (false, eval e X.env) :: starEach es X.env := by rfl) (hpl : (backTo pos (starEach es X.env)).any (·.1) = false := by rfl) :
    PE X (.Call (.Name x p) (e :: es) [] pos) (eMake C sp W t) := by
  constructor
  intro pins s σ H Q I h
  refine wpAny_Call_Name_kw (ld_glob I gl hm ?_ hdb)
  refine PySem.W.callWith_K (h₀ := X.base) I.ok.mod.kin M.kp (thn (ha.run pos pins s σ H _ I h) ?_) he hpl
  rintro us s1 ⟨vs, H1, I1, r, q⟩
  exact ⟨I1.kIn, CalM.run M c tk I1 r q⟩
theorem pe_mk0 (M : Mk X.K C f) (c : CalM X f sp) (hm : X.mg x = some (.ref C)) (gl : Gl X x) (tk : Takes X W)
    (hdb : (x == ("__debug__" : Str)) = false := by decide +kernel) : PE X (.Call (.Name x p) [] [] pos) (eMake C sp W tNil) := by
  constructor
  intro pins s σ H Q I h
  refine wpAny_Call_Name_kw (ld_glob I gl hm ?_ hdb)
  exact PySem.W.callWith_K0 I.kIn M.kp (CalM.run (us := []) M c tk I .nil h)
end
end MK

namespace MK
open PySem PySem.Spec PyProof.Rows L2

/-! ### weakening a reading -/
section
variable {X : Cx} {e : Expr} {es : List Expr} {st : Stmt} {sts : List Stmt}
theorem pe_imp {t t' : TE} (h : PE X e t) (i : ∀ σ H Q, t' σ H Q → t σ H Q) : PE X e t' := ⟨fun pins s σ H Q I q => h.run pins s σ H Q I (i σ H Q q)⟩
theorem pt_imp {t t' : TT} (h : PT X e t) (i : ∀ σ H Q, t' σ H Q → t σ H Q) : PT X e t' := ⟨fun pins s σ H Q I q => h.run pins s σ H Q I (i σ H Q q)⟩
theorem pw_imp {t t' : TT} (h : PW X e t) (i : ∀ σ H Q, t' σ H Q → t σ H Q) : PW X e t' := ⟨fun wh pins s σ H Q I q => h.run wh pins s σ H Q I (i σ H Q q)⟩
theorem ps_imp {t t' : TS} (h : PS X st t) (i : ∀ D σ H, t' D σ H → t D σ H) : PS X st t' := ⟨fun pins s σ H D I q => h.run pins s σ H D I (i D σ H q)⟩
theorem pss_imp {t t' : TS} (h : PSs X sts t) (i : ∀ D σ H, t' D σ H → t D σ H) : PSs X sts t' := ⟨fun pins s σ H D I q => h.run pins s σ H D I (i D σ H q)⟩
theorem pe_or2 {t t' : TE} (h : PE X e t) (h' : PE X e t') : PE X e (fun σ H Q => t σ H Q ∨ t' σ H Q) :=
  ⟨fun pins s σ H Q I q => q.elim (h.run pins s σ H Q I) (h'.run pins s σ H Q I)⟩
end

/-! ### the slots -/
def look : L2.St → Nat → Option V
  | [], _ => none
  | x :: _, 0 => x
  | _ :: r, n + 1 => look r n
def sput : L2.St → Nat → V → L2.St
  | [], _, _ => []
  | _ :: r, 0, v => some v :: r
  | x :: r, n + 1, v => x :: sput r n v
theorem look_get : ∀ {σ : L2.St} {i : Nat} {v : V}, look σ i = some v → σ[i]? = some (some v)
  | [], _, _, h => by cases h
  | x :: _, 0, v, h => by
    have e : x = some v := h
    simp [e]
  | _ :: r, n + 1, v, h => by
    have e : look r n = some v := h
    simpa using look_get e
theorem sput_eq : ∀ (σ : L2.St) (i : Nat) (v : V), sput σ i v = σ.set i (some v)
  | [], _, _ => rfl
  | _ :: _, 0, _ => rfl
  | x :: r, n + 1, v => by
    show x :: sput r n v = x :: r.set n (some v)
    rw [sput_eq r n v]

/-! ### readings -/
def eV (i : Nat) : TE := fun σ H Q => match look σ i with
  | some v => Q v H
  | none => False
def eC (v : V) : TE := fun _ H Q => Q v H
/-- two values, an operation on them -/
def eB (r : R2) (ta tb : TE) : TE := fun σ H Q => ta σ H fun x H1 => tb σ H1 fun y H2 => r x y H2 Q
def eU (r : V → Hp → VK → Prop) (ta : TE) : TE := fun σ H Q => ta σ H fun x H1 => r x H1 Q
def eChain (r r' : R2) (ta tb tc : TE) : TE := fun σ H Q => ta σ H fun x H1 => tb σ H1 fun y H2 => r x y H2 fun z H3 => match z with
  | .bl k => cond k (tc σ H3 fun v H4 => r' y v H4 Q) (Q (.bl false) H3)
  | _ => False
/-- a value's truth, of a bool -/
def isB (x : V) (H : Hp) (Q : Bool → Hp → Prop) : Prop := match x with
  | .bl b => Q b H
  | _ => False
def kT (te : TE) : TT := fun σ H Q => te σ H fun x H1 => isB x H1 Q
def kAnd (t u : TT) : TT := fun σ H Q => t σ H fun c H1 => cond c (u σ H1 Q) (Q false H1)
def kOr (t u : TT) : TT := fun σ H Q => t σ H fun c H1 => cond c (Q true H1) (u σ H1 Q)
def kNot (t : TT) : TT := fun σ H Q => t σ H fun c H1 => Q (!c) H1
/-- the same as values -/
def eAnd (ta tb : TE) : TE := fun σ H Q => ta σ H fun x H1 => isB x H1 fun c H2 => cond c (tb σ H2 Q) (Q (.bl false) H2)
def eOr (ta tb : TE) : TE := fun σ H Q => ta σ H fun x H1 => isB x H1 fun c H2 => cond c (Q (.bl true) H2) (tb σ H2 Q)
def eNot (ta : TE) : TE := fun σ H Q => ta σ H fun x H1 => isB x H1 fun c H2 => Q (.bl (!c)) H2
def eIf (t : TT) (ta tb : TE) : TE := fun σ H Q => t σ H fun c H1 => cond c (ta σ H1 Q) (tb σ H1 Q)
/-- arguments -/
def aN : TA := fun _ H Q => Q [] H
def aC (te : TE) (t : TA) : TA := fun σ H Q => te σ H fun x H1 => t σ H1 fun xs H2 => Q (x :: xs) H2
/-- a call by values -/
def eF (r : List V → Hp → VK → Prop) (t : TA) : TE := fun σ H Q => t σ H fun vs H1 => r vs H1 Q
def szOk (n : Nat) : Prop := n ≤ 16777216
theorem szOk.w {n : Nat} (h : szOk n) : n ≤ sizeLine := by rw [sizeLine_eq]; exact h
/-- a new object, its address the continuation's -/
@[irreducible] def nwO (o : HO) (H : Hp) (Q : VK) : Prop := ∀ p, H p = none → Q (.ref p) (upd H p o)
theorem nwO_i {o : HO} {H : Hp} {Q : VK} (h : ∀ p, H p = none → Q (.ref p) (upd H p o)) : nwO o H Q := by unfold nwO; exact h
theorem nwO_e {o : HO} {H : Hp} {Q : VK} (h : nwO o H Q) : ∀ p, H p = none → Q (.ref p) (upd H p o) := by unfold nwO at h; exact h
def eL (t : TA) : TE := fun σ H Q => t σ H fun xs H1 => szOk xs.length ∧ nwO (.lst xs) H1 Q
def eT (t : TA) : TE := fun σ H Q => t σ H fun xs H1 => szOk xs.length ∧ nwO (.tup xs) H1 Q
theorem eL_eq (t : TA) : eL t = fun σ H Q => t σ H fun xs H1 => szOk xs.length ∧ ∀ p, H1 p = none → Q (.ref p) (upd H1 p (.lst xs)) := by
  unfold eL nwO
  rfl
theorem eT_eq (t : TA) : eT t = fun σ H Q => t σ H fun xs H1 => szOk xs.length ∧ ∀ p, H1 p = none → Q (.ref p) (upd H1 p (.tup xs)) := by
  unfold eT nwO
  rfl
/-- statements -/
def sSet (i : Nat) (te : TE) : TS := fun D σ H => te σ H fun v H1 => D.nx (sput σ i v) H1
def sIf (c : TT) (t u : TS) : TS := fun D σ H => c σ H fun b H1 => cond b (t D σ H1) (u D σ H1)
def sDrop (te : TE) : TS := fun D σ H => te σ H fun _ H1 => D.nx σ H1
def sRet (te : TE) : TS := fun D σ H => te σ H D.rt

section
variable {X : Cx} {a b c e : Expr} {es : List Expr} {ta tb tc te : TE} {t : TA} {tA tB : TT} {pos : Pos} {rest : List Expr}
theorem mv (i : Nat) {x : Str} (hN : X.N[i]? = some x := by rfl) (hv : Vis X.env.scope x := by first | exact Or.inl rfl | exact Or.inr (Or.inl rfl) | exact Or.inr (Or.inr rfl)) (hd : (x == ("__debug__" : Str)) = false := by decide +kernel)
    (hcd : (x == ("__classdict__" : Str)) = false := by decide +kernel) : PE X (.Name x pos) (eV i) := pe_imp (pe_var hN hv hd hcd) fun σ H Q q => by
  unfold eV at q
  cases h : look σ i with
  | none => rw [h] at q; exact q.elim
  | some v => rw [h] at q; exact ⟨v, look_get h, q⟩
theorem mc {v : V} (h : PE X e (tC v)) : PE X e (eC v) := h
theorem mi {i j} : PE X (.Constant (.int i) j pos) (eC (.int i)) := pe_int
theorem mb {i j} : PE X (.Constant (.bool i) j pos) (eC (.bl i)) := pe_bl
theorem mn {j} : PE X (.Constant .none j pos) (eC .non) := pe_non
theorem ms {x j} : PE X (.Constant (.str x) j pos) (eC (.str x)) := pe_str
/-- a module's constant -/
theorem mg_ {x : Str} {v : V} (hg : Gl X x) (h : ∃ u, X.mg x = some u ∧ RelV v u) (hd : (x == ("__debug__" : Str)) = false := by decide +kernel) : PE X (.Name x pos) (eC v) := by
  obtain ⟨u, h1, h2⟩ := h
  exact pe_glob hg h1 h2 hd
theorem mbin {op : Operator} {r : R2} (ho : OpR X (binaryOp op) r) (ha : PE X a ta) (hb : PE X b tb) : PE X (.BinOp a op b pos) (eB r ta tb) := pe_op ho ha hb
theorem mun {op : UnaryOp} {r : V → Hp → VK → Prop} (ho : UnR X (unaryOp op) r) (ha : PE X a ta) : PE X (.UnaryOp op a pos) (eU r ta) := pe_un ho ha
theorem mcmp {op : CmpOp} {r : R2} (ho : OpR X (compareOp op) r) (ha : PE X a ta) (hb : PE X b tb) (hm : behindInMarks op b = false := by first | exact nomark _ (by decide) (by decide) | rfl) : PE X (.Compare a [op] [b] pos) (eB r ta tb) := pe_cmpR ho ha hb hm
theorem isB_iff {x : V} {H : Hp} {Q : Bool → Hp → Prop} (h : isB x H Q) : ∃ k, x = .bl k ∧ Q k H := by
  cases x with
  | bl k => exact ⟨k, rfl, h⟩
  | _ => exact h.elim
/-- the value of a test -/
theorem truthB {M : Model} {A : Around} {E : Value → Shared → Prop} {x : V} {v : Value} {H : Hp} {s : Shared} {pins : List (Addr × Obj)} {σ : L2.St} {Q : Bool → Hp → Prop} (I : Inv X pins σ H s) (r : RelV x v) (q : isB x H Q) :
    wpAny M A (truthy v) (TP X pins σ Q) E s := by
  obtain ⟨k, e, q⟩ := isB_iff q
  subst e
  cases r
  exact wpAny_truthy_bool ⟨H, I, q⟩
theorem mtc {op : CmpOp} {r : R2} (ho : OpR X (compareOp op) r) (ha : PE X a ta) (hb : PE X b tb) (hm : behindInMarks op b = false := by first | exact nomark _ (by decide) (by decide) | rfl) :
    PT X (.Compare a [op] [b] pos) (kT (eB r ta tb)) := by
  constructor
  intro pins s σ H Q I h
  refine wpAny_isTrue_Compare1 (thn (ha.run pins s σ H _ I h) ?_) hm
  rintro v s1 ⟨x, H1, I1, r1, q1⟩
  refine thn (hb.run pins s1 σ H1 _ I1 q1) ?_
  rintro u s2 ⟨y, H2, I2, r2, q2⟩
  refine thn (ho pins s2 σ H2 x y v u _ I2 r1 r2 q2) ?_
  rintro z s3 ⟨zv, H3, I3, r3, q3⟩
  exact truthB I3 r3 q3
theorem mtv {t : TE} (h : PE X e t) (he : ∀ whole, isTrue e X.env whole = (do let v ← whole; standAt e.pos; holding [v] (truthy v)) := by intro _; rfl) : PT X e (kT t) := by
  constructor
  intro pins s σ H Q I hw
  refine isTrue_plain (thn (h.run pins s σ H _ I hw) ?_) (he _)
  rintro v s1 ⟨x, H1, I1, r1, q1⟩
  exact truthB I1 r1 q1
theorem mch {op op' : CmpOp} {r r' : R2} (ho : OpR X (compareOp op) r) (ho' : OpR X (compareOp op') r') (ha : PE X a ta) (hb : PE X b tb) (hc : PE X c tc)
    (hm : lastMarks [op, op'] [b, c] = false := by with_unfolding_all rfl) : PE X (.Compare a [op, op'] [b, c] pos) (eChain r r' ta tb tc) := by
  constructor
  intro pins s σ H Q I h
  refine Compare_chain (thn (ha.run pins s σ H _ I h) ?_) hm
  rintro v s1 ⟨x, H1, I1, r1, q1⟩
  refine chain_link (thn (hb.run pins s1 σ H1 _ I1 q1) ?_)
  rintro u s2 ⟨y, H2, I2, r2, q2⟩
  refine thn (ho pins s2 σ H2 x y v u _ I2 r1 r2 q2) ?_
  rintro d s3 ⟨z, H3, I3, r3, q3⟩
  cases z with
  | bl k =>
    cases r3
    refine wpAny_truthy_bool ?_
    cases k with
    | false => exact ite_ff ⟨.bl false, H3, I3, rfl, q3⟩
    | true =>
      refine ite_tt (chain_last (thn (hc.run pins s3 σ H3 _ I3 q3) ?_))
      rintro w4 s4 ⟨z4, H4, I4, r4, q4⟩
      exact ho' pins s4 σ H4 y z4 u w4 Q I4 r2 r4 q4
  | _ => exact q3.elim
theorem mtch {op op' : CmpOp} {r r' : R2} (ho : OpR X (compareOp op) r) (ho' : OpR X (compareOp op') r') (ha : PE X a ta) (hb : PE X b tb) (hc : PE X c tc)
    (hm : lastMarks [op, op'] [b, c] = false := by with_unfolding_all rfl) : PT X (.Compare a [op, op'] [b, c] pos) (kT (eChain r r' ta tb tc)) := by
  constructor
  intro pins s σ H Q I h
  refine isTrue_chain (thn (ha.run pins s σ H _ I h) ?_) hm
  rintro v s1 ⟨x, H1, I1, r1, q1⟩
  refine test_link (thn (hb.run pins s1 σ H1 _ I1 q1) ?_)
  rintro u s2 ⟨y, H2, I2, r2, q2⟩
  refine thn (ho pins s2 σ H2 x y v u _ I2 r1 r2 q2) ?_
  rintro d s3 ⟨z, H3, I3, r3, q3⟩
  cases z with
  | bl k =>
    cases r3
    refine wpAny_truthy_bool ?_
    cases k with
    | false => exact ite_ff ⟨H3, I3, q3⟩
    | true =>
      refine ite_tt (test_last (thn (hc.run pins s3 σ H3 _ I3 q3) ?_))
      rintro w4 s4 ⟨z4, H4, I4, r4, q4⟩
      refine thn (ho' pins s4 σ H4 y z4 u w4 _ I4 r2 r4 q4) ?_
      rintro d5 s5 ⟨z5, H5, I5, r5, q5⟩
      exact truthB I5 r5 q5
  | _ => exact q3.elim

/-! ### and, or, not -/
theorem ma1 (ha : PT X a tA) : PW X (.BoolOp .And [a] pos) tA := pw_and1 ha
theorem mo1 (ha : PT X a tA) : PW X (.BoolOp .Or [a] pos) tA := pw_or1 ha
theorem ma2 (ha : PT X a tA) (hb : PW X (.BoolOp .And (b :: rest) pos) tB) : PW X (.BoolOp .And (a :: b :: rest) pos) (kAnd tA tB) := by
  constructor
  intro wh pins s σ H Q I h
  refine isTrue_and (thn (ha.run pins s σ H _ I h) ?_)
  rintro k s1 ⟨H1, I1, q1⟩
  cases k with
  | false => exact ⟨H1, I1, q1⟩
  | true => exact hb.run wh pins s1 σ H1 Q I1 q1
theorem mo2 (ha : PT X a tA) (hb : PW X (.BoolOp .Or (b :: rest) pos) tB) : PW X (.BoolOp .Or (a :: b :: rest) pos) (kOr tA tB) := by
  constructor
  intro wh pins s σ H Q I h
  refine isTrue_or (thn (ha.run pins s σ H _ I h) ?_)
  rintro k s1 ⟨H1, I1, q1⟩
  cases k with
  | false => exact hb.run wh pins s1 σ H1 Q I1 q1
  | true => exact ⟨H1, I1, q1⟩
theorem mtn (ha : PT X a tA) : PT X (.UnaryOp .Not a pos) (kNot tA) := pt_not ha
theorem me1 {op} {t : TE} (h : PE X a t) : PE X (.BoolOp op [a] pos) t := pe_one h
theorem mea (ha : PE X a ta) (hb : PE X (.BoolOp .And (b :: rest) pos) tb) : PE X (.BoolOp .And (a :: b :: rest) pos) (eAnd ta tb) := by
  constructor
  intro pins s σ H Q I h
  refine BoolOp_and (thn (ha.run pins s σ H _ I h) ?_)
  rintro v s1 ⟨x, H1, I1, r1, q1⟩
  obtain ⟨k, e, q1⟩ := isB_iff q1
  subst e
  cases r1
  refine wpAny_truthy_bool ?_
  cases k with
  | false => exact ⟨.bl false, H1, I1, rfl, q1⟩
  | true => exact hb.run pins s1 σ H1 Q I1 q1
theorem meo (ha : PE X a ta) (hb : PE X (.BoolOp .Or (b :: rest) pos) tb) : PE X (.BoolOp .Or (a :: b :: rest) pos) (eOr ta tb) := by
  constructor
  intro pins s σ H Q I h
  refine BoolOp_or (thn (ha.run pins s σ H _ I h) ?_)
  rintro v s1 ⟨x, H1, I1, r1, q1⟩
  obtain ⟨k, e, q1⟩ := isB_iff q1
  subst e
  cases r1
  refine wpAny_truthy_bool ?_
  cases k with
  | false => exact hb.run pins s1 σ H1 Q I1 q1
  | true => exact ⟨.bl true, H1, I1, rfl, q1⟩
theorem men (ha : PE X a ta) : PE X (.UnaryOp .Not a pos) (eNot ta) := by
  constructor
  intro pins s σ H Q I h
  refine UnaryOp_ (thn (ha.run pins s σ H _ I h) ?_)
  rintro v s1 ⟨x, H1, I1, r1, q1⟩
  obtain ⟨k, e, q1⟩ := isB_iff q1
  subst e
  cases r1
  exact not_of (wpAny_truthy_bool ⟨.bl (!k), H1, I1, rfl, q1⟩)
theorem mif {c : Expr} (hc : PT X c tA) (ha : PE X a ta) (hb : PE X b tb) : PE X (.IfExp c a b pos) (eIf tA ta tb) := by
  constructor
  intro pins s σ H Q I h
  refine wpAny_IfExp (thn (hc.run pins s σ H _ I h) ?_)
  rintro k s1 ⟨H1, I1, q1⟩
  cases k with
  | false => exact hb.run pins s1 σ H1 Q I1 q1
  | true => exact ha.run pins s1 σ H1 Q I1 q1

/-! ### argument lists, displays, calls of built-ins -/
theorem man : PA X [] aN := pa_nil
theorem mac (ha : PE X e te) (hr : PA X es t) (hs : starEach (e :: es) X.env = (false, eval e X.env) :: starEach es X.env := by rfl) : PA X (e :: es) (aC te t) := pa_cons ha hr hs
theorem mlst (h : PA X es t) : PE X (.List es pos) (eL t) := by
  rw [eL_eq]
  exact pe_lst h
theorem mtup {x1} (h : PA X es t) : PE X (.Tuple es x1 pos) (eT t) := by
  rw [eT_eq]
  exact pe_tup h
theorem mcb {x : Str} {id : String} {r : List V → Hp → VK → Prop} {p : Pos} (hc : CallR X (.builtin id) r) (hg : Gl X x) (hm : X.mg x = none) (hv : bootBuiltins x = some (.builtin id)) (ha : PA X (e :: es) t)
    (hn : x ≠ "__name__" := by decide +kernel) (hdb : (x == ("__debug__" : Str)) = false := by decide +kernel)
    (he : starEach (e :: es) X.env = (false, eval e X.env) :: starEach es X.env := by rfl) (hpl : (backTo pos (starEach es X.env)).any (·.1) = false := by rfl) : PE X (.Call (.Name x p) (e :: es) [] pos) (eF r t) := pe_callB hc hg hm hv ha hn hdb he hpl
theorem mct {x : Str} {T : String} {r : List V → Hp → VK → Prop} {p : Pos} (hc : CallR X (.type T) r) (hg : Gl X x) (hm : X.mg x = none) (hv : bootBuiltins x = some (.type T)) (ha : PA X (e :: es) t)
    (hn : x ≠ "__name__" := by decide +kernel) (hdb : (x == ("__debug__" : Str)) = false := by decide +kernel)
    (he : starEach (e :: es) X.env = (false, eval e X.env) :: starEach es X.env := by rfl) (hpl : (backTo pos (starEach es X.env)).any (·.1) = false := by rfl) : PE X (.Call (.Name x p) (e :: es) [] pos) (eF r t) := pe_callTy hc hg hm hv ha hn hdb he hpl

/-! ### statements -/
theorem mset {i : Nat} {x : Str} {pos' : Pos} (hN : X.N.Nodup) (hi : X.N[i]? = some x) (hx : Loc X.env.scope x) (he : PE X e te) (hs : swapsWith e (some (.Name x pos')) pos.line X.env = pure false := by rfl)
    (hf : X.fn x = true ∨ X.env.scope.names.lookup x = some .local := by first | exact .inl rfl | exact .inr rfl | assumption) : PS X (.Assign [.Name x pos'] e pos) (sSet i te) := by
  constructor
  intro pins s σ H D I h
  refine wpAny_Assign_Name (thn (he.run pins s σ H _ I h) ?_) hs
  rintro v s1 ⟨y, H1, I1, r1, q1⟩
  refine store_ok I1 hN hi hx r1 ?_ hf
  intro s2 I2
  rw [sput_eq] at q1
  exact ⟨_, H1, I2, q1⟩
theorem msif {c : Expr} {u v : List Stmt} {t1 t2 : TS} (hc : PT X c tA) (ha : PSs X u t1) (hb : PSs X v t2) : PS X (.If c u v pos) (sIf tA t1 t2) := by
  constructor
  intro pins s σ H D I h
  refine wpAny_If (thn (hc.run pins s σ H _ I h) ?_)
  rintro k s1 ⟨H1, I1, q1⟩
  cases k with
  | false => exact hb.run pins s1 σ H1 D I1 q1
  | true => exact ha.run pins s1 σ H1 D I1 q1
theorem msx (he : PE X e te) (hs : swapsWith e none pos.line X.env = pure false := by rfl) : PS X (.Expr e pos) (sDrop te) := ps_expr he hs
theorem msr (he : PE X e te) : PS X (.Return (some e) pos) (sRet te) := ps_ret he
end
end MK

namespace MK
open PySem PySem.Spec PyProof.Rows L2

/-! ### repr of data that may hold dicts of ints and texts -/
def kD : Key → PyData
  | .inl i => .int i
  | .inr x => .str x
mutual
def Rp (K : PySem.W.Frag) (H : Hp) : V → PyData → Prop
  | v, .none => v = .non
  | v, .bool b => v = .bl b
  | v, .int i => v = .int i
  | v, .str x => v = .str x
  | v, .list ds => ∃ a xs, v = .ref a ∧ SqL K H a xs ∧ RpA K H xs ds
  | v, .tuple ds => ∃ a xs, v = .ref a ∧ SqT K H a xs ∧ RpA K H xs ds
  | v, .dict kvs => ∃ a ks, v = .ref a ∧ H a = some (.dK ks) ∧ RpK K H ks kvs
def RpA (K : PySem.W.Frag) (H : Hp) : List V → List PyData → Prop
  | vs, [] => vs = []
  | vs, d :: ds => ∃ v r, vs = v :: r ∧ Rp K H v d ∧ RpA K H r ds
def RpK (K : PySem.W.Frag) (H : Hp) : List (Key × V) → List (PyData × PyData) → Prop
  | ks, [] => ks = []
  | ks, p :: r => ∃ k v t, ks = (k, v) :: t ∧ p.1 = kD k ∧ Rp K H v p.2 ∧ RpK K H t r
end
/-- what a repr walks over: read, and shown -/
abbrev Sh (P : Program) (w : World) (h : Heap) (u : Value) (d : PyData) : Prop :=
  (∃ as, Reads h u d as) ∧ ∃ bs, ReadAtMost h d.depth bs ∧ ReprK P w bs h d.depth u d.shown
abbrev ShA (P : Program) (w : World) (h : Heap) (us : List Value) (ds : List PyData) : Prop :=
  (∃ as, ReadsAll h us ds as) ∧ ∃ bs, ReadAtMost h (PyData.depthAll ds) bs ∧ ReprAllK P w bs h (PyData.depthAll ds) us (PyData.shownAll ds)
theorem ShA.nil {P : Program} {w : World} {h : Heap} : ShA P w h [] [] := ⟨⟨[], .nil⟩, [], (fun b hb => absurd hb List.not_mem_nil), by simp only [PyData.shownAll]; exact .nil⟩
theorem ShA.cons {P : Program} {w : World} {h : Heap} {u : Value} {us : List Value} {d : PyData} {ds : List PyData} (x : Sh P w h u d) (y : ShA P w h us ds) : ShA P w h (u :: us) (d :: ds) := by
  obtain ⟨⟨as, r⟩, bs, m, k⟩ := x
  obtain ⟨⟨as', r'⟩, bs', m', k'⟩ := y
  refine ⟨⟨_, .cons r r'⟩, bs ++ bs', ?_, ?_⟩
  · have e : PyData.depthAll (d :: ds) = max d.depth (PyData.depthAll ds) := by simp only [PyData.depthAll]
    rw [e]
    exact (m.mono (Nat.le_max_left _ _)).append (m'.mono (Nat.le_max_right _ _))
  · have e : PyData.depthAll (d :: ds) = max d.depth (PyData.depthAll ds) := by simp only [PyData.depthAll]
    have e2 : PyData.shownAll (d :: ds) = d.shown :: PyData.shownAll ds := by simp only [PyData.shownAll]
    rw [e, e2]
    exact .cons ((k.more fun b hb => List.mem_append_left _ hb).level_le (Nat.le_max_left _ _)) (k'.more_le (fun b hb => List.mem_append_right _ hb) (Nat.le_max_right _ _))
theorem dep_l (ds : List PyData) : PyData.depth (.list ds) = PyData.depthAll ds + 1 := by simp only [PyData.depth]
theorem dep_t (ds : List PyData) : PyData.depth (.tuple ds) = PyData.depthAll ds + 1 := by simp only [PyData.depth]
theorem dep_k (ds : List (PyData × PyData)) : PyData.depth (.dict ds) = PyData.depthKv ds + 1 := by simp only [PyData.depth]
theorem sho_l (ds : List PyData) : PyData.shown (.list ds) = listText (PyData.shownAll ds) := by simp only [PyData.shown]
theorem sho_t (ds : List PyData) : PyData.shown (.tuple ds) = tupleText (PyData.shownAll ds) := by simp only [PyData.shown]
theorem sho_k (ds : List (PyData × PyData)) : PyData.shown (.dict ds) = dictText (PyData.shownKv ds) := by simp only [PyData.shown]
theorem kD_sh {P : Program} {w : World} {h : Heap} {k : Key} {u : Value} (e : keyIs k u = true) (s : (kD k).showable = true) (z : (kD k).shown.length ≤ sizeLine) : Sh P w h u (kD k) := by
  rcases keyIs_shape e with ⟨i, t, rfl, rfl⟩ | ⟨x, t, rfl, rfl⟩
  · have r : Reads h (.int i t) (.int i) [] := .int i t
    exact ⟨⟨_, r⟩, ReprK.of_reads r s (fun y => by cases y) z⟩
  · have r : Reads h (.str x t) (.str x) [] := .str x t
    exact ⟨⟨_, r⟩, ReprK.of_reads r s (fun y => by cases y) z⟩
section
variable {X : Cx} {pins : List (Addr × Obj)} {σ : L2.St} {H : Hp} {s : Shared}
mutual
theorem Rp.go (I : Inv X pins σ H s) : ∀ (d : PyData) {v : V} {u : Value}, Rp X.K H v d → RelV v u → d.showable = true → d.shown.length ≤ sizeLine → Sh X.prog X.w s.heap u d
  | .none, _, u, e, r, sh, z => by
    cases (show _ = V.non from e)
    cases (show u = Value.none from r)
    have q : Reads s.heap .none .none [] := .none
    exact ⟨⟨_, q⟩, ReprK.of_reads q sh (fun y => by cases y) z⟩
  | .bool b, _, u, e, r, sh, z => by
    cases (show _ = V.bl b from e)
    cases (show u = Value.bool b from r)
    have q : Reads s.heap (.bool b) (.bool b) [] := .bool b
    exact ⟨⟨_, q⟩, ReprK.of_reads q sh (fun y => by cases y) z⟩
  | .int i, _, u, e, r, sh, z => by
    cases (show _ = V.int i from e)
    obtain ⟨t, e2⟩ := r
    subst e2
    have q : Reads s.heap (.int i t) (.int i) [] := .int i t
    exact ⟨⟨_, q⟩, ReprK.of_reads q sh (fun y => by cases y) z⟩
  | .str x, _, u, e, r, sh, z => by
    cases (show _ = V.str x from e)
    obtain ⟨t, e2⟩ := r
    subst e2
    have q : Reads s.heap (.str x t) (.str x) [] := .str x t
    exact ⟨⟨_, q⟩, ReprK.of_reads q sh (fun y => by cases y) z⟩
  | .list ds, _, u, e, r, sh, z => by
    unfold Rp at e
    obtain ⟨a, xs, ev, hs, ha⟩ := e
    subst ev
    cases (show u = Value.ref a from r)
    obtain ⟨its, rv, ⟨o, n, ho, hc, _, hd⟩, _⟩ := I.list hs
    have z' : (listText (PyData.shownAll ds)).length ≤ sizeLine := by rw [← sho_l]; exact z
    obtain ⟨⟨as, rr⟩, bs, m, k⟩ := RpA.go I ds ha rv (by simpa only [PyData.showable] using sh) fun t ht => Nat.le_trans (listText_mem_le ht) z'
    have rd : Reads s.heap (.ref a) (.list ds) _ := .list ho hc hd rr
    have hna : a ∉ bs := not_mem_of_deeper rd (by rw [dep_l]; omega) m
    refine ⟨⟨_, rd⟩, a :: bs, ReadAtMost.cons rd (by rw [dep_l]; omega) m, ?_⟩
    rw [dep_l, sho_l]
    cases its with
    | nil =>
      cases rr
      have e0 : listText (PyData.shownAll []) = "[]" := by simp only [PyData.shownAll, listText_nil]
      rw [e0]
      exact ReprK.listEmpty ho hc hd
    | cons x l => exact ReprK.list ho hc hd hna (by simpa using k.length_eq) fun i y hy => k.item i y (by simpa using hy)
  | .tuple ds, _, u, e, r, sh, z => by
    unfold Rp at e
    obtain ⟨a, xs, ev, hs, ha⟩ := e
    subst ev
    cases (show u = Value.ref a from r)
    obtain ⟨its, rv, ⟨o, ho, hc, n, hd⟩, _⟩ := I.tuple hs
    have z' : (tupleText (PyData.shownAll ds)).length ≤ sizeLine := by rw [← sho_t]; exact z
    obtain ⟨⟨as, rr⟩, bs, m, k⟩ := RpA.go I ds ha rv (by simpa only [PyData.showable] using sh) fun t ht => Nat.le_trans (tupleText_mem_le ht) z'
    have rd : Reads s.heap (.ref a) (.tuple ds) _ := .tuple ho hc hd rr
    have hna : a ∉ bs := not_mem_of_deeper rd (by rw [dep_t]; omega) m
    refine ⟨⟨_, rd⟩, a :: bs, ReadAtMost.cons rd (by rw [dep_t]; omega) m, ?_⟩
    rw [dep_t, sho_t]
    exact ReprK.tuple ho hc hd hna k
  | .dict kvs, _, u, e, r, sh, z => by
    unfold Rp at e
    obtain ⟨a, ks, ev, hs, ha⟩ := e
    subst ev
    cases (show u = Value.ref a from r)
    obtain ⟨_, hsys, vs, kv, o, es, ep, h1, h2, h3, h4, h5, h6⟩ := (show ObjOk X.prog X.w H s.heap a (.dK ks) from I.hok a _ hs)
    have z' : (dictText (PyData.shownKv kvs)).length ≤ sizeLine := by rw [← sho_k]; exact z
    obtain ⟨s1, s2⟩ := PyData.showableKv_split kvs (by simpa only [PyData.showable] using sh)
    obtain ⟨⟨⟨as, rr⟩, bs, m, k⟩, ⟨as', rr'⟩, bs', m', k'⟩ := RpK.go I kvs ha kv h5 s1 s2
      (fun t ht => by
        obtain ⟨p, hp, hl⟩ := PyData.shownKv_key_le kvs t ht
        exact Nat.le_trans hl (Nat.le_trans (dictText_mem_le hp) z'))
      (fun t ht => by
        obtain ⟨p, hp, hl⟩ := PyData.shownKv_val_le kvs t ht
        exact Nat.le_trans hl (Nat.le_trans (dictText_mem_le hp) z'))
    have rd : Reads s.heap (.ref a) (.dict kvs) _ := .dict h1 h2.1 h3 rr rr'
    have mm : ReadAtMost s.heap (PyData.depthKv kvs) (bs ++ bs') := (m.mono (PyData.depthAll_keys_le kvs)).append (m'.mono (PyData.depthAll_vals_le kvs))
    have hna : a ∉ bs ++ bs' := not_mem_of_deeper rd (by rw [dep_k]; omega) mm
    refine ⟨⟨_, rd⟩, a :: (bs ++ bs'), ReadAtMost.cons rd (by rw [dep_k]; omega) mm, ?_⟩
    rw [dep_k, sho_k, PyData.shownKv_eq]
    exact ReprK.dict h1 h2.1 h3 hsys hna (ReprEntriesK.of_two es.toList _ _ (k.more_le (fun b hb => List.mem_append_left _ hb) (PyData.depthAll_keys_le kvs)) (k'.more_le (fun b hb => List.mem_append_right _ hb) (PyData.depthAll_vals_le kvs)))
theorem RpA.go (I : Inv X pins σ H s) : ∀ (ds : List PyData) {vs : List V} {us : List Value}, RpA X.K H vs ds → Vals vs us → PyData.showableAll ds = true → (∀ t ∈ PyData.shownAll ds, t.length ≤ sizeLine) → ShA X.prog X.w s.heap us ds
  | [], vs, us, e, r, sh, z => by
    cases (show vs = [] from e)
    cases r
    exact .nil
  | d :: ds, vs, us, e, r, sh, z => by
    unfold RpA at e
    obtain ⟨v, t, ev, h1, h2⟩ := e
    subst ev
    cases r with
    | cons r1 r2 =>
      have sh' : d.showable = true ∧ PyData.showableAll ds = true := by simpa [PyData.showableAll] using sh
      exact .cons (Rp.go I d h1 r1 sh'.1 (z _ (by simp only [PyData.shownAll]; exact List.mem_cons_self))) (RpA.go I ds h2 r2 sh'.2 fun t ht => z t (by simp only [PyData.shownAll]; exact List.mem_cons_of_mem _ ht))
theorem RpK.go (I : Inv X pins σ H s) : ∀ (kvs : List (PyData × PyData)) {ks : List (Key × V)} {vs : List (Key × Value)} {es : List DictEntry}, RpK X.K H ks kvs → KV ks vs → Pairs (mixKind X.prog X.w) es vs →
    PyData.showableAll (kvs.map (·.1)) = true → PyData.showableAll (kvs.map (·.2)) = true → (∀ t ∈ PyData.shownAll (kvs.map (·.1)), t.length ≤ sizeLine) → (∀ t ∈ PyData.shownAll (kvs.map (·.2)), t.length ≤ sizeLine) →
    ShA X.prog X.w s.heap (es.map (·.key)) (kvs.map (·.1)) ∧ ShA X.prog X.w s.heap (es.map (·.val)) (kvs.map (·.2))
  | [], ks, vs, es, e, r, p, _, _, _, _ => by
    cases (show ks = [] from e)
    cases r
    cases p
    exact ⟨.nil, .nil⟩
  | q :: kvs, ks, vs, es, e, r, p, s1, s2, z1, z2 => by
    unfold RpK at e
    obtain ⟨k, v, t, ev, e1, h1, h2⟩ := e
    subst ev
    cases r with
    | cons r1 r2 =>
      cases p with
      | cons p1 p2 p3 =>
        simp only [List.map_cons, PyData.showableAll, Bool.and_eq_true] at s1 s2
        simp only [List.map_cons, PyData.shownAll] at z1 z2
        obtain ⟨y1, y2⟩ := RpK.go I kvs h2 r2 p3 s1.2 s2.2 (fun t ht => z1 t (List.mem_cons_of_mem _ ht)) fun t ht => z2 t (List.mem_cons_of_mem _ ht)
        refine ⟨.cons ?_ y1, .cons ?_ y2⟩
        · show Sh X.prog X.w s.heap _ q.1
          rw [e1] at s1 z1 ⊢
          refine kD_sh ?_ s1.1 (z1 _ List.mem_cons_self)
          have e2 : k = _ := r1.1
          rw [e2]
          exact p1
        · refine Rp.go I q.2 h1 ?_ s2.1 (z2 _ List.mem_cons_self)
          show RelV v (DictEntry.val _)
          rw [p2]
          exact r1.2
end
/-- repr(x), as the builtin is called -/
theorem Rp.repr {Q : Value → Shared → Prop} {E : Value → Shared → Prop} (I : Inv X pins σ H s) {d : PyData} {v : V} {u : Value} (e : Rp X.K H v d) (r : RelV v u) (sh : d.showable = true) (z : d.shown.length ≤ sizeLine)
    (hg : X.A.guards = some []) (hu : X.A.units + (d.depth + 1) < cLine)
    (q : ∀ h' u' tk, (∀ b o, s.heap.get? b = some o → h'.get? b = some o) → Q (.str d.shown u') { s with heap := h', toks := tk }) : wpAny (model X.prog X.w) X.A (call (.builtin "repr") [u]) Q E s := by
  cases d with
  | none =>
    cases (show v = V.non from e)
    cases (show u = Value.none from r)
    exact PySem.P.repr_of_none (q s.heap _ _ fun _ _ z => z)
  | bool b =>
    cases (show v = V.bl b from e)
    cases (show u = Value.bool b from r)
    exact PySem.P.repr_of_bool (q s.heap _ _ fun _ _ z => z)
  | int i =>
    cases (show v = V.int i from e)
    obtain ⟨t, e2⟩ := r
    subst e2
    exact PySem.P.repr_of_int (by simpa only [PyData.showable, decide_eq_true_eq] using sh) (q s.heap _ _ fun _ _ z => z)
  | str x =>
    cases (show v = V.str x from e)
    obtain ⟨t, e2⟩ := r
    subst e2
    exact PySem.P.repr_of_str (q s.heap _ _ fun _ _ z => z) z
  | list ds =>
    unfold Rp at e
    obtain ⟨a, xs, ev, hs, ha⟩ := e
    subst ev
    cases (show u = Value.ref a from r)
    obtain ⟨its, rv, ⟨o, n, ho, hc, _, hd⟩, _⟩ := I.list hs
    rw [sho_l] at z q
    rw [dep_l] at hu
    obtain ⟨⟨as, rr⟩, bs, m, k⟩ := RpA.go I ds ha rv (by simpa only [PyData.showable] using sh) fun t ht => Nat.le_trans (listText_mem_le ht) z
    have rd : Reads s.heap (.ref a) (.list ds) _ := .list ho hc hd rr
    have hna : a ∉ bs := not_mem_of_deeper rd (by rw [dep_l]; omega) m
    refine call_repr_slot (by omega) ⟨o, ho, hc⟩ F.slot_list_repr.toG ?_
    cases its with
    | nil =>
      cases rr
      simp only [PyData.shownAll, listText_nil] at q
      exact call_list_repr_empty ⟨o, ho, hc⟩ ho hd ⟨_, _, rfl, q s.heap _ _ fun _ _ e => e⟩
    | cons x l =>
      exact call_list_reprK ho hc hd hna (by simpa using k.length_eq) (fun i y hy => k.item i y (by simpa using hy)) hg (fun b _ => Clear.nil b) (by show X.A.units + 1 + _ < cLine; omega) (fun _ _ e => e) (fun h' u' tk hk => ⟨_, _, rfl, q h' u' tk hk⟩) z
  | tuple ds =>
    unfold Rp at e
    obtain ⟨a, xs, ev, hs, ha⟩ := e
    subst ev
    cases (show u = Value.ref a from r)
    obtain ⟨its, rv, ⟨o, ho, hc, n, hd⟩, _⟩ := I.tuple hs
    rw [sho_t] at z q
    rw [dep_t] at hu
    obtain ⟨⟨as, rr⟩, bs, m, k⟩ := RpA.go I ds ha rv (by simpa only [PyData.showable] using sh) fun t ht => Nat.le_trans (tupleText_mem_le ht) z
    have rd : Reads s.heap (.ref a) (.tuple ds) _ := .tuple ho hc hd rr
    have hna : a ∉ bs := not_mem_of_deeper rd (by rw [dep_t]; omega) m
    refine call_repr_slot (by omega) ⟨o, ho, hc⟩ F.slot_tuple_repr ?_
    exact call_tuple_reprK ho hc hd hna k hg (fun b _ => Clear.nil b) (by show X.A.units + 1 + _ < cLine; omega) (fun _ _ e => e) (fun h' u' tk hk => ⟨_, _, rfl, q h' u' tk hk⟩) z
  | dict kvs =>
    unfold Rp at e
    obtain ⟨a, ks, ev, hs, ha⟩ := e
    subst ev
    cases (show u = Value.ref a from r)
    obtain ⟨_, hsys, vs, kv, o, es, ep, h1, h2, h3, h4, h5, h6⟩ := (show ObjOk X.prog X.w H s.heap a (.dK ks) from I.hok a _ hs)
    rw [sho_k] at z q
    rw [dep_k] at hu
    obtain ⟨s1, s2⟩ := PyData.showableKv_split kvs (by simpa only [PyData.showable] using sh)
    obtain ⟨⟨⟨as, rr⟩, bs, m, k⟩, ⟨as', rr'⟩, bs', m', k'⟩ := RpK.go I kvs ha kv h5 s1 s2
      (fun t ht => by
        obtain ⟨p, hp, hl⟩ := PyData.shownKv_key_le kvs t ht
        exact Nat.le_trans hl (Nat.le_trans (dictText_mem_le hp) z))
      (fun t ht => by
        obtain ⟨p, hp, hl⟩ := PyData.shownKv_val_le kvs t ht
        exact Nat.le_trans hl (Nat.le_trans (dictText_mem_le hp) z))
    have rd : Reads s.heap (.ref a) (.dict kvs) _ := .dict h1 h2.1 h3 rr rr'
    have mm : ReadAtMost s.heap (PyData.depthKv kvs) (bs ++ bs') := (m.mono (PyData.depthAll_keys_le kvs)).append (m'.mono (PyData.depthAll_vals_le kvs))
    have hna : a ∉ bs ++ bs' := not_mem_of_deeper rd (by rw [dep_k]; omega) mm
    refine call_repr_slot (by omega) ⟨o, h1, h2.1⟩ F.slot_dict_repr ?_
    rw [PyData.shownKv_eq] at z q
    exact call_dict_reprK h1 h2.1 h3 hsys hna (ReprEntriesK.of_two es.toList _ _ (k.more_le (fun b hb => List.mem_append_left _ hb) (PyData.depthAll_keys_le kvs)) (k'.more_le (fun b hb => List.mem_append_right _ hb) (PyData.depthAll_vals_le kvs))) hg (fun b _ => Clear.nil b) (by show X.A.units + 1 + _ < cLine; omega) (fun _ _ e => e) (fun h' u' tk hk => ⟨_, _, rfl, q h' u' tk hk⟩) z
end
end MK

namespace MK
open PySem PySem.Spec PyProof.Rows L2

section
variable {X : Cx}
theorem op_imp {f : Value → Value → Sem Value} {r r' : R2} (h : OpR X f r) (i : ∀ x y H Q, r' x y H Q → r x y H Q) : OpR X f r' :=
  fun pins s σ H x y v u Q I rx ry q => h pins s σ H x y v u Q I rx ry (i _ _ _ _ q)
theorem call_imp {f : Value} {r r' : List V → Hp → VK → Prop} (h : CallR X f r) (i : ∀ xs H Q, r' xs H Q → r xs H Q) : CallR X f r' :=
  fun pins s σ H xs us Q I rx q => h pins s σ H xs us Q I rx (i _ _ _ q)
end

/-! ### lists and tuples that are read -/
/-- at a a list is read; at a a tuple is read -/
abbrev LsAt (H : Hp) (a : Addr) (xs : List V) : Prop := Rd H a (.lst xs)
abbrev TpAt (H : Hp) (a : Addr) (xs : List V) : Prop := Rd H a (.tup xs)
theorem rd {H : Hp} {a : Addr} {o : HO} (h : H a = some o) : Rd H a o := .inl h

/-! ### arithmetic -/
@[irreducible] def addX (K : PySem.W.Frag) : R2 := fun x y H Q =>
  (∃ i j, x = .str i ∧ y = .str j ∧ i.length + j.length ≤ sizeLine ∧ Q (.str (i ++ j)) H) ∨
  (∃ l b xs zs, x = .ref l ∧ y = .ref b ∧ H l = some (.lst xs) ∧ H b = some (.lst zs) ∧ xs.length + zs.length ≤ sizeLine ∧ ∀ p, H p = none → Q (.ref p) (upd H p (.lst (xs ++ zs)))) ∨ rCatA K x y H Q
def opAdd (K : PySem.W.Frag) : R2 := fun x y H Q => match x, y with
  | .int i, .int j => Q (.int (i + j)) H
  | x, y => addX K x y H Q
def opSub : R2 := fun x y H Q => match x, y with
  | .int i, .int j => Q (.int (i - j)) H
  | _, _ => False
/-- what * asks of two ints, what // asks, what ** asks -/
def mulOk (i j : Int) : Prop := (-18446744073709551616 < i ∧ i < 18446744073709551616) ∨ (-18446744073709551616 < j ∧ j < 18446744073709551616) ∨ CMulW i j
def divOk (j : Int) : Prop := 0 < j ∧ j < 18446744073709551616
def powOk (i j : Int) : Prop := (0 ≤ j ∧ j ≤ 1000000) ∧ -18446744073709551616 < i ∧ i < 18446744073709551616
theorem divOk.w {j : Int} (h : divOk j) : j.natAbs.log2 < 9000 := by
  have h1 : j.natAbs < 2 ^ 64 := by
    have h2 := h.1
    have h3 := h.2
    have e : (2 : Nat) ^ 64 = 18446744073709551616 := by decide
    rw [e]
    omega
  exact Nat.lt_of_lt_of_le (PySem.Flt.log2_lt_of (by decide) h1) (by decide)
@[irreducible] def mulX : R2 := fun x y H Q => ∃ l k xs, x = .ref l ∧ y = .int k ∧ H l = some (.lst xs) ∧ -(2 ^ 63) ≤ k ∧ k < 2 ^ 63 ∧ xs.length * k.toNat ≤ sizeLine ∧ ∀ p, H p = none → Q (.ref p) (upd H p (.lst (List.replicate k.toNat xs).flatten))
def opMul : R2 := fun x y H Q => match x, y with
  | .int i, .int j => mulOk i j ∧ Q (.int (i * j)) H
  | x, y => mulX x y H Q
def opDiv : R2 := fun x y H Q => match x, y with
  | .int i, .int j => divOk j ∧ Q (.int (i / j)) H
  | _, _ => False
def opMod : R2 := fun x y H Q => match x, y with
  | .int i, .int j => 0 < j ∧ Q (.int (i % j)) H
  | _, _ => False
def opPow : R2 := fun x y H Q => match x, y with
  | .int i, .int j => powOk i j ∧ Q (.int (i ^ j.toNat)) H
  | _, _ => False
def opShr : R2 := fun x y H Q => match x, y with
  | .int i, .int j => 0 ≤ j ∧ Q (.int (i / 2 ^ j.toNat)) H
  | _, _ => False
def opBand : R2 := fun x y H Q => match x, y with
  | .int i, .int j => Q (.int (Builtin.bitAnd i j)) H
  | _, _ => False
def opNeg : V → Hp → VK → Prop := fun x H Q => match x with
  | .int i => Q (.int (-i)) H
  | _ => False
section
variable {X : Cx}
theorem ii {f : Value → Value → Sem Value} {C : Int → Int → Prop} {g : Int → Int → V} (h : OpR X f (rI C g)) : OpR X f (fun x y H Q => match x, y with
  | .int i, .int j => C i j ∧ Q (g i j) H
  | _, _ => False) := op_imp h fun x y H Q q => by
  split at q
  · exact ⟨_, _, rfl, rfl, q⟩
  · exact q.elim
theorem ii0 {f : Value → Value → Sem Value} {g : Int → Int → V} (h : OpR X f (rI0 g)) : OpR X f (fun x y H Q => match x, y with
  | .int i, .int j => Q (g i j) H
  | _, _ => False) := op_imp h fun x y H Q q => by
  split at q
  · exact ⟨_, _, rfl, rfl, q⟩
  · exact q.elim
theorem o_add : OpR X (binaryOp .Add) (opAdd X.K) := op_imp (op_add.or (op_add_str.or (op_cat.or op_catA))) fun x y H Q q => by
  unfold opAdd at q
  split at q
  · exact .inl ⟨_, _, rfl, rfl, q⟩
  · unfold addX at q
    rcases q with q | q | q
    · exact .inr (.inl q)
    · exact .inr (.inr (.inl q))
    · exact .inr (.inr (.inr q))
theorem o_sub : OpR X (binaryOp .Sub) opSub := ii0 op_sub
theorem o_mul : OpR X (binaryOp .Mult) opMul := op_imp (op_mul.or (op_mulW.or op_rep)) fun x y H Q q => by
  unfold opMul at q
  split at q
  · have e : (2 : Int) ^ 64 = 18446744073709551616 := by decide
    obtain ⟨c | c | c, q⟩ := q
    · exact .inl ⟨_, _, rfl, rfl, .inl (by rw [e]; exact c), q⟩
    · exact .inl ⟨_, _, rfl, rfl, .inr (by rw [e]; exact c), q⟩
    · exact .inr (.inl ⟨_, _, rfl, rfl, c, q⟩)
  · unfold mulX at q
    exact .inr (.inr q)
theorem o_div : OpR X (binaryOp .FloorDiv) opDiv := op_imp (ii op_fdivW) fun x y H Q q => by
  unfold opDiv at q
  split at q
  · exact ⟨⟨q.1.1, q.1.w⟩, q.2⟩
  · exact q.elim
theorem o_mod : OpR X (binaryOp .Mod) opMod := ii op_mod
theorem o_pow : OpR X (binaryOp .Pow) opPow := op_imp (ii op_pow) fun x y H Q q => by
  unfold opPow at q
  split at q
  · have e : (2 : Nat) ^ 64 = 18446744073709551616 := by decide
    exact ⟨⟨q.1.1.1, q.1.1.2, by rw [e]; have h1 := q.1.2.1; have h2 := q.1.2.2; omega⟩, q.2⟩
  · exact q.elim
theorem o_shr : OpR X (binaryOp .RShift) opShr := ii op_shr
theorem o_band : OpR X (binaryOp .BitAnd) opBand := ii0 op_and
theorem o_neg : UnR X (unaryOp .USub) opNeg := fun pins s σ H x v Q I rx q => by
  cases x with
  | int i => exact un_neg pins s σ H (.int i) v Q I rx ⟨i, rfl, q⟩
  | _ => exact q.elim
end

/-! ### comparisons -/
@[irreducible] def eqX (K : PySem.W.Frag) : R2 := fun x y H Q => (scal x y = true ∧ Q (.bl (decide (x = y))) H) ∨ rEqD K x y H Q ∨ rEqDA x y H Q
@[irreducible] def neX (K : PySem.W.Frag) : R2 := fun x y H Q => (scal x y = true ∧ Q (.bl (!decide (x = y))) H) ∨ rNeD K x y H Q ∨ rNeDA x y H Q
def opEq (K : PySem.W.Frag) : R2 := fun x y H Q => match x, y with
  | .int i, .int j => Q (.bl (decide (i = j))) H
  | .str i, .str j => Q (.bl (decide (i = j))) H
  | .bl i, .bl j => Q (.bl (decide (i = j))) H
  | x, y => eqX K x y H Q
def opNe (K : PySem.W.Frag) : R2 := fun x y H Q => match x, y with
  | .int i, .int j => Q (.bl (!decide (i = j))) H
  | .str i, .str j => Q (.bl (!decide (i = j))) H
  | .bl i, .bl j => Q (.bl (!decide (i = j))) H
  | x, y => neX K x y H Q
def opLt : R2 := fun x y H Q => match x, y with
  | .int i, .int j => Q (.bl (decide (i < j))) H
  | .str i, .str j => Q (.bl (decide (i.cps.toList < j.cps.toList))) H
  | _, _ => False
def opLe : R2 := fun x y H Q => match x, y with
  | .int i, .int j => Q (.bl (decide (i ≤ j))) H
  | .str i, .str j => Q (.bl (!decide (j.cps.toList < i.cps.toList))) H
  | _, _ => False
def opGt : R2 := fun x y H Q => match x, y with
  | .int i, .int j => Q (.bl (decide (j < i))) H
  | _, _ => False
def opGe : R2 := fun x y H Q => match x, y with
  | .int i, .int j => Q (.bl (decide (j ≤ i))) H
  | _, _ => False
/-- is: of None, True, False -/
def isV (x y : V) : Option Bool := match x, y with
  | .ty _, _ => none
  | _, .ty _ => none
  | x, .non => some (decide (x = .non))
  | x, .bl b => some (decide (x = .bl b))
  | _, _ => none
def opIs : R2 := fun x y H Q => match isV x y with
  | some b => Q (.bl b) H
  | none => False
def opIsNot : R2 := fun x y H Q => match isV x y with
  | some b => Q (.bl (!b)) H
  | none => False
section
variable {X : Cx}
theorem dI {i j : Int} : decide (V.int i = V.int j) = decide (i = j) := by simp
theorem dS {i j : Str} : decide (V.str i = V.str j) = decide (i = j) := by simp
theorem dB {i j : Bool} : decide (V.bl i = V.bl j) = decide (i = j) := by simp
theorem o_eq (hu : X.A.units + 64 < cLine) : OpR X (compareOp .Eq) (opEq X.K) := op_imp (op_eq.or ((op_eqD hu).or (op_eq_dictA (by omega)))) fun x y H Q q => by
  unfold opEq at q
  split at q
  · exact .inl ⟨rfl, by rw [dI]; exact q⟩
  · exact .inl ⟨rfl, by rw [dS]; exact q⟩
  · exact .inl ⟨rfl, by rw [dB]; exact q⟩
  · unfold eqX at q
    exact q
theorem o_ne (hu : X.A.units + 64 < cLine) : OpR X (compareOp .NotEq) (opNe X.K) := op_imp (op_ne.or ((op_neD hu).or (op_ne_dictA (by omega)))) fun x y H Q q => by
  unfold opNe at q
  split at q
  · exact .inl ⟨rfl, by rw [dI]; exact q⟩
  · exact .inl ⟨rfl, by rw [dS]; exact q⟩
  · exact .inl ⟨rfl, by rw [dB]; exact q⟩
  · unfold neX at q
    exact q
theorem o_lt : OpR X (compareOp .Lt) opLt := op_imp (op_lt.or op_lt_str) fun x y H Q q => by
  unfold opLt at q
  split at q
  · exact .inl ⟨_, _, rfl, rfl, q⟩
  · exact .inr ⟨_, _, rfl, rfl, q⟩
  · exact q.elim
theorem o_le : OpR X (compareOp .LtE) opLe := op_imp (op_le.or op_le_str) fun x y H Q q => by
  unfold opLe at q
  split at q
  · exact .inl ⟨_, _, rfl, rfl, q⟩
  · exact .inr ⟨_, _, rfl, rfl, q⟩
  · exact q.elim
theorem o_gt : OpR X (compareOp .Gt) opGt := ii0 op_gt
theorem o_ge : OpR X (compareOp .GtE) opGe := ii0 op_ge
theorem isV_rel {x y : V} {v u : Value} {b : Bool} (rx : RelV x v) (ry : RelV y u) (h : isV x y = some b) : plainIs v u = true ∧ (v == u) = b := by
  unfold isV at h
  split at h
  · cases h
  · cases h
  · cases h
    cases (show u = Value.none from ry)
    cases x with
    | non => cases (show v = Value.none from rx); exact ⟨rfl, rfl⟩
    | bl c => cases (show v = Value.bool c from rx); exact ⟨rfl, rfl⟩
    | int i => obtain ⟨t, rfl⟩ := rx; exact ⟨rfl, rfl⟩
    | str i => obtain ⟨t, rfl⟩ := rx; exact ⟨rfl, rfl⟩
    | byt i => obtain ⟨t, rfl⟩ := rx; exact ⟨rfl, rfl⟩
    | flt i => obtain ⟨t, rfl⟩ := rx; exact ⟨rfl, rfl⟩
    | ref a => cases (show v = Value.ref a from rx); exact ⟨rfl, rfl⟩
    | ty n => exact (‹∀ (k : String), V.ty n = V.ty k → False› n rfl).elim
  · rename_i c _
    cases h
    cases (show u = Value.bool c from ry)
    cases x with
    | non => cases (show v = Value.none from rx); exact ⟨rfl, rfl⟩
    | bl d =>
      cases (show v = Value.bool d from rx)
      refine ⟨rfl, ?_⟩
      rw [dB]
      cases c <;> cases d <;> rfl
    | int i => obtain ⟨t, rfl⟩ := rx; exact ⟨rfl, rfl⟩
    | str i => obtain ⟨t, rfl⟩ := rx; exact ⟨rfl, rfl⟩
    | byt i => obtain ⟨t, rfl⟩ := rx; exact ⟨rfl, rfl⟩
    | flt i => obtain ⟨t, rfl⟩ := rx; exact ⟨rfl, rfl⟩
    | ref a => cases (show v = Value.ref a from rx); exact ⟨rfl, rfl⟩
    | ty n => exact (‹∀ (k : String), V.ty n = V.ty k → False› n rfl).elim
  · cases h
theorem o_is : OpR X (compareOp .Is) opIs := fun pins s σ H x y v u Q I rx ry q => by
  unfold opIs at q
  split at q
  · rename_i b e
    obtain ⟨h1, h2⟩ := isV_rel rx ry e
    exact wpAny_is_plain h1 (by rw [h2]; exact ⟨.bl b, H, I, rfl, q⟩)
  · exact q.elim
theorem o_isnot : OpR X (compareOp .IsNot) opIsNot := fun pins s σ H x y v u Q I rx ry q => by
  unfold opIsNot at q
  split at q
  · rename_i b e
    obtain ⟨h1, h2⟩ := isV_rel rx ry e
    refine wpAny_isNot_plain h1 ?_
    have e2 : (v != u) = !b := by
      show (!(v == u)) = !b
      rw [h2]
    first
      | (rw [e2]; exact ⟨.bl (!b), H, I, rfl, q⟩)
      | (rw [h2]; exact ⟨.bl (!b), H, I, rfl, q⟩)
  · exact q.elim
end

/-! ### built-in calls by values -/
@[irreducible] def lenX (K : PySem.W.Frag) (x : V) (H : Hp) (Q : VK) : Prop :=
  (∃ n, LenV K x H n ∧ Q (.int n) H) ∨ (∃ a kvs, x = .ref a ∧ H a = some (.dK kvs) ∧ Q (.int kvs.length) H) ∨ ∃ a kvs, x = .ref a ∧ H a = some (.dT kvs) ∧ Q (.int ((kvs.length : Nat) : Int)) H
def cLen (K : PySem.W.Frag) : List V → Hp → VK → Prop := fun xs H Q => match xs with
  | [x] => lenX K x H Q
  | _ => False
@[irreducible] def maxX (K : PySem.W.Frag) (x : V) (H : Hp) (Q : VK) : Prop := ∃ (a : Addr) (ns : List Int), x = V.ref a ∧ SqL K H a (ns.map V.int) ∧ 0 < ns.length ∧ ∀ m, m ∈ ns → (∀ y, y ∈ ns → y ≤ m) → Q (.int m) H
@[irreducible] def minX (K : PySem.W.Frag) (x : V) (H : Hp) (Q : VK) : Prop := ∃ (a : Addr) (ns : List Int), x = V.ref a ∧ SqL K H a (ns.map V.int) ∧ 0 < ns.length ∧ ∀ m, m ∈ ns → (∀ y, y ∈ ns → m ≤ y) → Q (.int m) H
def cMax (K : PySem.W.Frag) : List V → Hp → VK → Prop := fun xs H Q => match xs with
  | [.int i, .int j] => Q (.int (max i j)) H
  | [x] => maxX K x H Q
  | _ => False
def cMin (K : PySem.W.Frag) : List V → Hp → VK → Prop := fun xs H Q => match xs with
  | [.int i, .int j] => Q (.int (min i j)) H
  | [x] => minX K x H Q
  | _ => False
/-- a text, plainly written -/
def okI (i : Int) : Prop := i.natAbs.log2 < 1920
structure RepOk (d : PyData) : Prop where
  sh : d.showable = true
  dp : d.depth ≤ 60
  sm : d.leavesShort 64 = true
  bk : d.bulk ≤ 200000
theorem RepOk.len {d : PyData} (h : RepOk d) : d.shown.length ≤ sizeLine := by
  have a := PyData.shown_le_bulk 64 (by decide) d h.sm
  have b := h.bk
  rw [sizeLine_eq]
  omega
@[irreducible] def reprX (K : PySem.W.Frag) (x : V) (H : Hp) (Q : VK) : Prop :=
  ∃ d, Rp K H x d ∧ RepOk d ∧ Q (.str d.shown) H
def cRepr (K : PySem.W.Frag) : List V → Hp → VK → Prop := fun xs H Q => match xs with
  | [x] => reprX K x H Q
  | _ => False
@[irreducible] def tupX (K : PySem.W.Frag) (x : V) (H : Hp) (Q : VK) : Prop :=
  ∃ p ys, x = .ref p ∧ ((SqL K H p ys ∧ ∀ l, H l = none → Q (.ref l) (upd H l (.tup ys))) ∨ (SqT K H p ys ∧ Q (.ref p) H))
def cTuple (K : PySem.W.Frag) : List V → Hp → VK → Prop := fun xs H Q => match xs with
  | [x] => tupX K x H Q
  | _ => False
@[irreducible] def listX (K : PySem.W.Frag) (x : V) (H : Hp) (Q : VK) : Prop :=
  ∃ p ys, x = .ref p ∧ (SqL K H p ys ∨ SqT K H p ys) ∧ ∀ l, H l = none → Q (.ref l) (upd H l (.lst ys))
def cList (K : PySem.W.Frag) : List V → Hp → VK → Prop := fun xs H Q => match xs with
  | [x] => listX K x H Q
  | _ => False
@[irreducible] def allX (K : PySem.W.Frag) (x : V) (H : Hp) (Q : VK) : Prop := ∃ (a : Addr) (bs : List Bool), x = V.ref a ∧ SqL K H a (bs.map V.bl) ∧ Q (.bl (bs.all id)) H
def cAll (K : PySem.W.Frag) : List V → Hp → VK → Prop := fun xs H Q => match xs with
  | [x] => allX K x H Q
  | _ => False
section
variable {X : Cx}
theorem call_or {f : Value} {r r' : List V → Hp → VK → Prop} (h : CallR X f r) (h' : CallR X f r') : CallR X f (fun xs H Q => r xs H Q ∨ r' xs H Q) :=
  fun pins s σ H xs us Q I rx q => q.elim (h pins s σ H xs us Q I rx) (h' pins s σ H xs us Q I rx)
theorem k_len : CallR X (.builtin "len") (cLen X.K) := call_imp (call_or call_len (call_or call_lenD call_len_dT)) fun xs H Q q => by
  unfold cLen at q
  split at q
  · unfold lenX at q
    rcases q with ⟨n, h, q⟩ | ⟨a, kvs, e, h, q⟩ | ⟨a, kvs, e, h, q⟩
    · exact .inl ⟨_, n, rfl, h, q⟩
    · exact .inr (.inl ⟨a, kvs, by rw [e], h, q⟩)
    · exact .inr (.inr ⟨a, kvs, by rw [e], h, q⟩)
  · exact q.elim
theorem k_max (hc : X.calm = true) : CallR X (.builtin "max") (cMax X.K) := call_imp (call_or (call_max2 hc) (cr_max hc)) fun xs H Q q => by
  unfold cMax at q
  split at q
  · rename_i i j
    refine .inl ⟨i, j, rfl, ?_⟩
    have e : (if j > i then j else i) = max i j := by
      rw [Int.max_def]
      split <;> split <;> omega
    rw [e]
    exact q
  · unfold maxX at q
    obtain ⟨a, ns, e, q⟩ := q
    subst e
    exact .inr ⟨a, ns, rfl, q⟩
  · exact q.elim
theorem k_min (hc : X.calm = true) : CallR X (.builtin "min") (cMin X.K) := call_imp (call_or (call_min2 hc) (cr_min hc)) fun xs H Q q => by
  unfold cMin at q
  split at q
  · rename_i i j
    refine .inl ⟨i, j, rfl, ?_⟩
    have e : (if j < i then j else i) = min i j := by
      rw [Int.min_def]
      split <;> split <;> omega
    rw [e]
    exact q
  · unfold minX at q
    obtain ⟨a, ns, e, q⟩ := q
    subst e
    exact .inr ⟨a, ns, rfl, q⟩
  · exact q.elim
theorem max_l {H : Hp} {Q : VK} {K : PySem.W.Frag} {a : Addr} {ns : List Int} (h : H a = some (.lst (ns.map V.int))) (h0 : 0 < ns.length) (q : ∀ m, m ∈ ns → (∀ y, y ∈ ns → y ≤ m) → Q (.int m) H) : maxX K (.ref a) H Q := by
  unfold maxX
  exact ⟨a, ns, rfl, SqL.of h, h0, q⟩
theorem min_l {H : Hp} {Q : VK} {K : PySem.W.Frag} {a : Addr} {ns : List Int} (h : H a = some (.lst (ns.map V.int))) (h0 : 0 < ns.length) (q : ∀ m, m ∈ ns → (∀ y, y ∈ ns → m ≤ y) → Q (.int m) H) : minX K (.ref a) H Q := by
  unfold minX
  exact ⟨a, ns, rfl, SqL.of h, h0, q⟩
theorem k_tuple : CallR X (.type "tuple") (cTuple X.K) := call_imp call_tuple_of fun xs H Q q => by
  unfold cTuple at q
  split at q
  · unfold tupX at q
    obtain ⟨p, ys, e, q⟩ := q
    subst e
    exact ⟨p, ys, rfl, q⟩
  · exact q.elim
theorem k_list : CallR X (.type "list") (cList X.K) := call_imp call_list_of fun xs H Q q => by
  unfold cList at q
  split at q
  · unfold listX at q
    obtain ⟨p, ys, e, q⟩ := q
    subst e
    exact ⟨p, ys, rfl, q⟩
  · exact q.elim
theorem k_all (hc : X.calm = true) : CallR X (.builtin "all") (cAll X.K) := call_imp (cr_all hc) fun xs H Q q => by
  unfold cAll at q
  split at q
  · unfold allX at q
    obtain ⟨a, bs, e, q⟩ := q
    subst e
    exact ⟨a, bs, rfl, q⟩
  · exact q.elim
theorem k_repr (hg : X.A.guards = some []) (hu : X.A.units + 64 < cLine) : CallR X (.builtin "repr") (cRepr X.K) := fun pins s σ H xs us Q I r q => by
  unfold cRepr at q
  split at q
  · rename_i x
    obtain ⟨u, e, rx⟩ := vals1 r
    subst e
    unfold reprX at q
    obtain ⟨d, hd, ok, q⟩ := q
    have fin : ∀ h' u' tk, (∀ b o, s.heap.get? b = some o → h'.get? b = some o) → EP X pins σ Q (.str d.shown u') { s with heap := h', toks := tk } :=
      fun h' u' tk k => ⟨.str d.shown, H, I.kept (t' := tk) k, ⟨u', rfl⟩, q⟩
    exact Rp.repr I hd rx ok.sh ok.len hg (by have := ok.dp; omega) fin
  · exact q.elim
end
end MK

namespace MK
open PySem PySem.Spec PyProof.Rows L2

/-! ### items -/
@[irreducible] def ixX (K : PySem.W.Frag) : R2 := fun x y H Q => rIx K x y H Q ∨ ∃ a v, x = .ref a ∧ DGet H a y (some v) ∧ Q v H
section
variable {X : Cx} {a b o i e tg : Expr} {ta tb te to ti : TE} {pos : Pos}
theorem ix_dct (hu : X.A.units + 1 < cLine) : IxR X (fun x y H Q => ∃ a v, x = .ref a ∧ DGet H a y (some v) ∧ Q v H) := by
  intro vl sl pins s σ H x y v u Q I rx ry q hs
  obtain ⟨a, z, ex, g, q⟩ := q
  subst ex
  cases (show v = Value.ref a from rx)
  have hT := dict_typeIs I g
  unfold subscriptTail
  refine wpAny_bind ?_
  rw [getitemInPython_of_ne hT.not_modules]
  refine wpAny_bind (wpAny_specialOf hT PySem.F.slot_dict_getitem.lookup ?_)
  have h₂ : wpAny (model X.prog X.w) X.A (getItem (.ref a) u) (EP X pins σ Q) X.xe s := d_getItem hu I g ry fun w' s3 I3 rw' => ⟨z, H, I3, rw', q⟩
  have fin : wpAny (model X.prog X.w) X.A (subscripted sl false (.ref a) u) (fun r s₃ => wpAny (model X.prog X.w) X.A (letTemporaryGo vl (.ref a) r >>= fun _ => pure r) (EP X pins σ Q) X.xe s₃) X.xe s := by
    rw [hs]
    exact wpAny_operating (wpAny_mono h₂ (fun r s₃ h₃ => wpAny_bind (wpAny_letTemporaryGo (wpAny_pure h₃))) fun _ _ x => x)
  first
    | exact wpAny_pure (wpAny_bind fin)
    | exact wpAny_bind (wpAny_pure (wpAny_bind fin))
    | exact wpAny_bind fin
theorem o_ix (hu : X.A.units + 64 < cLine) : IxR X (ixX X.K) := by
  intro vl sl pins s σ H x y v u Q I rx ry q
  unfold ixX at q
  exact IxR.or ix_seq (ix_dct (by omega)) vl sl pins s σ H x y v u Q I rx ry q
theorem mix (hu : X.A.units + 64 < cLine) (ha : PE X a ta) (hb : PE X b tb) (hs : PlainIx b := by intro _ _; rfl) : PE X (.Subscript a b pos) (eB (ixX X.K) ta tb) := pe_ix (o_ix hu) ha hb hs
end
section
variable {K : PySem.W.Frag} {H : Hp} {Q : VK} {a p : Addr} {xs ys : List V} {x y v : V} {i : Int}
theorem ix_l (h : H a = some (.lst xs)) (e : atI xs i = some v) (q : Q v H) : ixX K (.ref a) (.int i) H Q := by
  unfold ixX
  exact .inl (.inl ⟨a, xs, i, v, rfl, rfl, SqL.of h, e, q⟩)
theorem ix_f {o : Obj} (h : H a = some (.frz o (.lst xs))) (e : atI xs i = some v) (q : Q v H) : ixX K (.ref a) (.int i) H Q := by
  unfold ixX
  exact .inl (.inl ⟨a, xs, i, v, rfl, rfl, .inl (.inr ⟨o, h⟩), e, q⟩)
theorem ix_t (h : H a = some (.tup xs)) (e : atI xs i = some v) (q : Q v H) : ixX K (.ref a) (.int i) H Q := by
  unfold ixX
  exact .inl (.inr (.inl ⟨a, xs, i, v, rfl, rfl, SqT.of h, e, q⟩))
theorem ix_s {z : Str} {c : Nat} (h : z.length ≤ sizeLine) (e : atI z.cps.toList i = some c) (q : Q (.str ⟨#[c]⟩) H) : ixX K (.str z) (.int i) H Q := by
  unfold ixX
  exact .inl (.inr (.inr ⟨z, i, c, rfl, rfl, h, e, q⟩))
theorem ixd_k {kvs : List (Key × V)} {k : Key} (h : H a = some (.dK kvs)) (e : valV kvs k = some v) (q : Q v H) : ixX K (.ref a) (kV k) H Q := by
  unfold ixX
  exact .inr ⟨a, v, rfl, e ▸ DGet.k h, q⟩
theorem ixd_i {kvs : List (Key × V)} {n : Int} (h : H a = some (.dK kvs)) (e : valV kvs (.inl n) = some v) (q : Q v H) : ixX K (.ref a) (.int n) H Q := ixd_k (k := .inl n) h e q
theorem ixd_s {kvs : List (Key × V)} {z : Str} (h : H a = some (.dK kvs)) (e : valV kvs (.inr z) = some v) (q : Q v H) : ixX K (.ref a) (.str z) H Q := ixd_k (k := .inr z) h e q
theorem ixd_t {kvs : List (List Key × V)} {k : List Key} (h : H a = some (.dT kvs)) (hb : H p = some (.tup (k.map kV))) (e : valV kvs k = some v) (q : Q v H) : ixX K (.ref a) (.ref p) H Q := by
  unfold ixX
  exact .inr ⟨a, v, rfl, e ▸ DGet.t h hb, q⟩
/-! intro lemmas of the operations of MkVal -/
theorem len_l (h : H a = some (.lst xs)) (q : Q (.int (xs.length : Int)) H) : lenX K (.ref a) H Q := by
  unfold lenX
  exact .inl ⟨xs.length, .inl ⟨xs, SqL.of h, rfl⟩, q⟩
theorem len_f {o : Obj} (h : H a = some (.frz o (.lst xs))) (q : Q (.int (xs.length : Int)) H) : lenX K (.ref a) H Q := by
  unfold lenX
  exact .inl ⟨xs.length, .inl ⟨xs, .inl (.inr ⟨o, h⟩), rfl⟩, q⟩
theorem len_t (h : H a = some (.tup xs)) (q : Q (.int (xs.length : Int)) H) : lenX K (.ref a) H Q := by
  unfold lenX
  exact .inl ⟨xs.length, .inr ⟨xs, SqT.of h, rfl⟩, q⟩
theorem len_s {z : Str} (h : z.length ≤ sizeLine) (q : Q (.int (z.length : Int)) H) : lenX K (.str z) H Q := by
  unfold lenX
  exact .inl ⟨z.length, ⟨h, rfl⟩, q⟩
theorem len_d {kvs : List (Key × V)} (h : H a = some (.dK kvs)) (q : Q (.int (kvs.length : Int)) H) : lenX K (.ref a) H Q := by
  unfold lenX
  exact .inr (.inl ⟨a, kvs, rfl, h, q⟩)
theorem len_dt {kvs : List (List Key × V)} (h : H a = some (.dT kvs)) (q : Q (.int (kvs.length : Int)) H) : lenX K (.ref a) H Q := by
  unfold lenX
  exact .inr (.inr ⟨a, kvs, rfl, h, q⟩)
theorem add_l {b : Addr} (h : H a = some (.lst xs)) (h2 : H b = some (.lst ys)) (z : xs.length + ys.length ≤ sizeLine) (q : ∀ p, H p = none → Q (.ref p) (upd H p (.lst (xs ++ ys)))) : addX K (.ref a) (.ref b) H Q := by
  unfold addX
  exact .inr (.inl ⟨a, b, xs, ys, rfl, rfl, h, h2, z, q⟩)
theorem add_s {z w : Str} (h : z.length + w.length ≤ sizeLine) (q : Q (.str (z ++ w)) H) : addX K (.str z) (.str w) H Q := by
  unfold addX
  exact .inl ⟨z, w, rfl, rfl, h, q⟩
theorem mul_l {k : Int} (h : H a = some (.lst xs)) (h1 : -(2 ^ 63) ≤ k) (h2 : k < 2 ^ 63) (z : xs.length * k.toNat ≤ sizeLine) (q : ∀ p, H p = none → Q (.ref p) (upd H p (.lst (List.replicate k.toNat xs).flatten))) : mulX (.ref a) (.int k) H Q := by
  unfold mulX
  exact ⟨a, k, xs, rfl, rfl, h, h1, h2, z, q⟩
theorem tup_l (h : H a = some (.lst xs)) (q : ∀ l, H l = none → Q (.ref l) (upd H l (.tup xs))) : tupX K (.ref a) H Q := by
  unfold tupX
  exact ⟨a, xs, rfl, .inl ⟨SqL.of h, q⟩⟩
theorem list_l (h : H a = some (.lst xs)) (q : ∀ l, H l = none → Q (.ref l) (upd H l (.lst xs))) : listX K (.ref a) H Q := by
  unfold listX
  exact ⟨a, xs, rfl, .inl (SqL.of h), q⟩
theorem list_t (h : H a = some (.tup xs)) (q : ∀ l, H l = none → Q (.ref l) (upd H l (.lst xs))) : listX K (.ref a) H Q := by
  unfold listX
  exact ⟨a, xs, rfl, .inr (SqT.of h), q⟩
theorem all_l {bs : List Bool} (h : H a = some (.lst (bs.map V.bl))) (q : Q (.bl (bs.all id)) H) : allX K (.ref a) H Q := by
  unfold allX
  exact ⟨a, bs, rfl, SqL.of h, q⟩
theorem eq_d {d e : PyData} (hd : Dp K H x d) (he : Dp K H y e) (s1 : SeqAt.shaped d = true) (s2 : SeqAt.shaped e = true) (q : Q (.bl (PyData.eqv d e)) H) : eqX K x y H Q := by
  unfold eqX
  exact .inr (.inl ⟨d, e, hd, he, s1, s2, q⟩)
theorem ne_d {d e : PyData} (hd : Dp K H x d) (he : Dp K H y e) (s1 : SeqAt.shaped d = true) (s2 : SeqAt.shaped e = true) (q : Q (.bl (!PyData.eqv d e)) H) : neX K x y H Q := by
  unfold neX
  exact .inr (.inl ⟨d, e, hd, he, s1, s2, q⟩)
theorem eq_dk {b : Addr} {ks ls : List (Key × V)} (h : H a = some (.dK ks)) (h2 : H b = some (.dK ls)) (hl : ks.length = ls.length) (hv : ∀ p ∈ ks, valV ls p.1 = some p.2 ∧ flatB p.2 = true) (q : Q (.bl true) H) : eqX K (.ref a) (.ref b) H Q := by
  unfold eqX
  exact .inr (.inr ⟨a, b, ks, ls, rfl, rfl, h, h2, hl, hv, q⟩)
theorem ne_dk {b : Addr} {ks ls : List (Key × V)} (h : H a = some (.dK ks)) (h2 : H b = some (.dK ls)) (hl : ks.length = ls.length) (hv : ∀ p ∈ ks, valV ls p.1 = some p.2 ∧ flatB p.2 = true) (q : Q (.bl false) H) : neX K (.ref a) (.ref b) H Q := by
  unfold neX
  exact .inr (.inr ⟨a, b, ks, ls, rfl, rfl, h, h2, hl, hv, q⟩)
theorem eq_v (h : scal x y = true) (q : Q (.bl (decide (x = y))) H) : eqX K x y H Q := by
  unfold eqX
  exact .inl ⟨h, q⟩
theorem ne_v (h : scal x y = true) (q : Q (.bl (!decide (x = y))) H) : neX K x y H Q := by
  unfold neX
  exact .inl ⟨h, q⟩
theorem repr_d {d : PyData} (h : Rp K H x d) (ok : RepOk d) (q : Q (.str d.shown) H) : reprX K x H Q := by
  unfold reprX
  exact ⟨d, h, ok, q⟩
theorem okBl (b : Bool) : RepOk (.bool b) := ⟨rfl, Nat.zero_le _, rfl, Nat.zero_le _⟩
theorem repr_b {b : Bool} (q : Q (.str (PyData.shown (.bool b))) H) : reprX K (.bl b) H Q := repr_d (d := .bool b) rfl (okBl b) q
end

/-! ### o[i] = v -/
@[irreducible] def setX (o i v : V) (H : Hp) (Q : Hp → Prop) : Prop := rSetL o i v H Q ∨ rSetD o i v H Q
def sSetI (te to ti : TE) : TS := fun D σ H => te σ H fun v H1 => to σ H1 fun o H2 => ti σ H2 fun i H3 => setX o i v H3 fun H4 => D.nx σ H4
theorem set_l {H : Hp} {Q : Hp → Prop} {a : Addr} {xs : List V} {i : Int} {j : Nat} {v : V} (h : H a = some (.lst xs)) (e : ixN xs.length i = some j) (q : Q (upd H a (.lst (xs.set j v)))) : setX (.ref a) (.int i) v H Q := by
  unfold setX
  exact .inl ⟨a, xs, i, j, rfl, rfl, h, e, q⟩
theorem set_dk {H : Hp} {Q : Hp → Prop} {a : Addr} {kvs : List (Key × V)} {k : Key} {v : V} (h : H a = some (.dK kvs)) (z : kvs.length < 16777216) (q : Q (upd H a (.dK (putK kvs k v)))) : setX (.ref a) (kV k) v H Q := by
  unfold setX
  exact .inr ⟨a, _, rfl, DPut.k h (by rw [sizeLine_eq]; exact z), q⟩
theorem set_dt {H : Hp} {Q : Hp → Prop} {a b : Addr} {kvs : List (List Key × V)} {k : List Key} {v : V} (h : H a = some (.dT kvs)) (hb : H b = some (.tup (k.map kV))) (z : kvs.length < 16777216) (q : Q (upd H a (.dT (putK kvs k v)))) : setX (.ref a) (.ref b) v H Q := by
  unfold setX
  exact .inr ⟨a, _, rfl, DPut.t h hb (by rw [sizeLine_eq]; exact z), q⟩
section
variable {X : Cx} {o i e : Expr} {te to ti : TE} {pos p2 : Pos}
theorem mseti (hu : X.A.units + 64 < cLine) (he : PE X e te) (ho : PE X o to) (hi : PE X i ti)
    (ha : ∀ v, assign (.Subscript o i p2) X.env v = (do
      let ov ← holding [v] (eval o X.env)
      let iv ← holding [v, ov] (eval i X.env)
      standAt p2
      holding [v, ov, iv] (setItem ov iv v)
      release [v, ov, iv] []) := by intro _; rfl)
    (hs : swapsWithSole [.Subscript o i p2] e pos.line X.env = pure false := by rfl) (hw : swappedStores [.Subscript o i p2] e X.env = pure none := by rfl)
    (h1 : (assignEach [.Subscript o i p2] X.env).map (·.2) = [assign (.Subscript o i p2) X.env] := by rfl) : PS X (.Assign [.Subscript o i p2] e pos) (sSetI te to ti) := by
  have hp : PSet X setX := fun pins s σ H o i v ov iv u Q I r1 r2 r3 q => by
    unfold setX at q
    rcases q with q | q
    · exact set_list pins s σ H o i v ov iv u Q I r1 r2 r3 q
    · exact set_dict (by omega) pins s σ H o i v ov iv u Q I r1 r2 r3 q
  exact ps_asg he (pg_sub ho hi hp ha) hs hw h1
end

/-! ### targets -/
def gN (i : Nat) : TG := fun v σ H Q => Q (sput σ i v) H
theorem gN_eq (i : Nat) : gN i = gName i := by
  funext v σ H Q
  unfold gN gName
  rw [sput_eq]
def sputs : L2.St → List Nat → List V → L2.St
  | σ, i :: is, v :: vs => sputs (sput σ i v) is vs
  | σ, _, _ => σ
def gNs : List Nat → TGs
  | [] => gNil
  | i :: is => gCons (gN i) (gNs is)
theorem gNs_ok {Q : L2.St → Hp → Prop} {H : Hp} : ∀ {is : List Nat} {vs : List V} {σ : L2.St}, is.length = vs.length → Q (sputs σ is vs) H → gNs is vs σ H Q
  | [], [], _, _, q => ⟨rfl, q⟩
  | i :: is, v :: vs, σ, h, q => ⟨v, vs, rfl, gNs_ok (is := is) (Nat.succ.inj h) q⟩
/-- a, b, .. = a tuple or a list of that length -/
@[irreducible] def unpX (K : PySem.W.Frag) (is : List Nat) (v : V) (σ : L2.St) (H : Hp) (Q : L2.St → Hp → Prop) : Prop :=
  ∃ a xs, v = .ref a ∧ (SqT K H a xs ∨ SqL K H a xs) ∧ is.length = xs.length ∧ Q (sputs σ is xs) H
def gU (K : PySem.W.Frag) (is : List Nat) : TG := fun v σ H Q => unpX K is v σ H Q
section
variable {X : Cx} {e tg : Expr} {es : List Expr} {te : TE} {pos : Pos}
theorem mgn {i : Nat} {x : Str} (hN : X.N.Nodup) (hi : X.N[i]? = some x) (hx : Loc X.env.scope x) (hf : X.fn x = true ∨ X.env.scope.names.lookup x = some .local := by first | exact .inl rfl | exact .inr rfl | assumption) : PG X (.Name x pos) (gN i) := by
  rw [gN_eq]
  exact pg_name hN hi hx hf
theorem mg0 : PGs X [] (gNs []) := pgs_nil
theorem mg1 {i : Nat} {is : List Nat} (h1 : PG X e (gN i)) (h2 : PGs X es (gNs is)) (hs : (assignEach (e :: es) X.env).map (·.2) = assign e X.env :: (assignEach es X.env).map (·.2) := by rfl) : PGs X (e :: es) (gNs (i :: is)) := pgs_cons h1 h2 hs
theorem mgu {is : List Nat} {k : Nat} (hc : X.calm = true) (h : PGs X es (gNs is)) (hn : (assignEach es X.env).length = is.length := by rfl) (hst : (assignEach es X.env).findIdx? (·.1) = none := by rfl) :
    PG X (.Tuple es k pos) (gU X.K is) := by
  constructor
  intro pins s σ H v u Q I r hw
  unfold gU unpX at hw
  obtain ⟨a, xs, e1, hq, hl, q⟩ := hw
  rcases hq with hq | hq
  · exact (pg_tup hc h hn hst).run pins s σ H v u Q I r ⟨a, xs, e1, hq, hl.symm, gNs_ok hl q⟩
  · exact (pg_unl hc h hn hst).run pins s σ H v u Q I r ⟨a, xs, e1, hq, hl.symm, gNs_ok hl q⟩
def sAsg (te : TE) (g : TG) : TS := fun D σ H => te σ H fun x H1 => g x σ H1 D.nx
theorem masg {g : TG} (he : PE X e te) (hg : PG X tg g) (hs : swapsWithSole [tg] e pos.line X.env = pure false := by rfl) (hw : swappedStores [tg] e X.env = pure none := by rfl)
    (h1 : (assignEach [tg] X.env).map (·.2) = [assign tg X.env] := by rfl) : PS X (.Assign [tg] e pos) (sAsg te g) := ps_asg he hg hs hw h1
end
theorem unp_t {K : PySem.W.Frag} {is : List Nat} {a : Addr} {σ : L2.St} {H : Hp} {Q : L2.St → Hp → Prop} {xs : List V} (h : H a = some (.tup xs)) (hl : is.length = xs.length) (q : Q (sputs σ is xs) H) : unpX K is (.ref a) σ H Q := by
  unfold unpX
  exact ⟨a, xs, rfl, .inl (SqT.of h), hl, q⟩
theorem unp_l {K : PySem.W.Frag} {is : List Nat} {a : Addr} {σ : L2.St} {H : Hp} {Q : L2.St → Hp → Prop} {xs : List V} (h : H a = some (.lst xs)) (hl : is.length = xs.length) (q : Q (sputs σ is xs) H) : unpX K is (.ref a) σ H Q := by
  unfold unpX
  exact ⟨a, xs, rfl, .inr (SqL.of h), hl, q⟩

/-! ### what is walked -/
@[irreducible] def iterX (K : PySem.W.Frag) (x : V) (H : Hp) (R : It → Hp → Prop) : Prop :=
  (∃ a, x = .ref a ∧ (∃ xs, SqL K H a xs) ∧ R (Itl K a) H) ∨ (∃ a, x = .ref a ∧ (∃ xs, SqT K H a xs) ∧ R (Itt K a) H) ∨ ∃ z, x = .str z ∧ R (Its z) H
def iV (K : PySem.W.Frag) (tl : TE) : TI := fun σ H R => tl σ H fun x H1 => iterX K x H1 R
def rngOk (i : Int) : Prop := -4611686018427387904 ≤ i ∧ i < 4611686018427387904
theorem e62 : (2 : Int) ^ 62 = 4611686018427387904 := by decide
def iR1 (ta : TA) : TI := fun σ H R => ta σ H fun vs H1 => match vs with
  | [.int j] => rngOk j ∧ R (Itr 0 j.toNat) H1
  | _ => False
def iR2 (ta : TA) : TI := fun σ H R => ta σ H fun vs H1 => match vs with
  | [.int i, .int j] => rngOk i ∧ rngOk j ∧ R (Itr i (j - i).toNat) H1
  | _ => False
section
variable {X : Cx} {tg : Expr}
theorem miv {l : Expr} {tl : TE} (hl : PE X l tl) : PI X tg l (iV X.K tl) := by
  constructor
  intro pins s σ H R I h
  refine thn (hl.run pins s σ H _ I h) ?_
  rintro v s1 ⟨x, H1, I1, r1, q1⟩
  unfold iterX at q1
  rcases q1 with ⟨a, ex, ⟨xs, hq⟩, q⟩ | ⟨a, ex, ⟨xs, hq⟩, q⟩ | ⟨z, ex, q⟩
  · subst ex
    cases (show v = Value.ref a from r1)
    obtain ⟨its, rv, p, hz⟩ := I1.list hq
    exact wpAny_pyIter_list p.isList (pi_one (tk := s1.toks) I1 _ (turn_list a _) ⟨_, Heap.get?_push_size _ rfl, rfl, rfl⟩ q)
  · subst ex
    cases (show v = Value.ref a from r1)
    obtain ⟨its, rv, p, hz⟩ := I1.tuple hq
    exact wpAny_pyIter_tuple (show s1.heap.IsTuple a its.toArray from p) (pi_one (tk := s1.toks) I1 _ (turn_tuple a _) ⟨_, Heap.get?_push_size _ rfl, rfl, rfl⟩ q)
  · subst ex
    obtain ⟨t, rfl⟩ := r1
    cases ha : z.cps.all (· < 128)
    · exact wpAny_pyIter_wide ha (pi_one (tk := s1.toks) I1 _ (turn_str _ z t "str_iterator" (.inr rfl)) ⟨_, Heap.get?_push_size _ rfl, rfl, rfl⟩ q)
    · exact wpAny_pyIter_ascii ha (pi_one (tk := s1.toks) I1 _ (turn_str _ z t "str_ascii_iterator" (.inl rfl)) ⟨_, Heap.get?_push_size _ rfl, rfl, rfl⟩ q)
theorem pi_rng {iter : Expr} {ta : TA} {wi wi' : (List V → Hp → (It → Hp → Prop) → Prop)} (h : PI X tg iter (fun σ H R => ta σ H fun vs H1 => wi vs H1 R)) (e : wi' = wi) : PI X tg iter (fun σ H R => ta σ H fun vs H1 => wi' vs H1 R) := e ▸ h
theorem mr1 {a : Expr} {ta : TA} {p pos : Pos} (hg : Gl X "range") (hm : X.mg "range" = none) (ha : PA X [a] ta) (hs : starEach [a] X.env = [(false, eval a X.env)] := by rfl) : PI X tg (.Call (.Name "range" p) [a] [] pos) (iR1 ta) := by
  refine pi_rng (pi_range1 hg hm ha hs) ?_
  funext vs H1 R
  apply propext
  constructor
  · intro q
    split at q
    · exact ⟨_, rfl, by rw [e62]; exact q.1.1, by rw [e62]; exact q.1.2, q.2⟩
    · exact q.elim
  · rintro ⟨j, e, a, b, q⟩
    subst e
    rw [e62] at a b
    exact ⟨⟨a, b⟩, q⟩
theorem mr2 {a b : Expr} {ta : TA} {p pos : Pos} (hg : Gl X "range") (hm : X.mg "range" = none) (ha : PA X [a, b] ta) (hs : starEach [a, b] X.env = [(false, eval a X.env), (false, eval b X.env)] := by rfl) (hs2 : starEach [b] X.env = [(false, eval b X.env)] := by rfl) :
    PI X tg (.Call (.Name "range" p) [a, b] [] pos) (iR2 ta) := by
  refine pi_rng (pi_range2 hg hm ha hs hs2) ?_
  funext vs H1 R
  apply propext
  constructor
  · intro q
    split at q
    · exact ⟨_, _, rfl, by rw [e62]; exact ⟨q.1.1, q.1.2, q.2.1.1, q.2.1.2⟩, q.2.2⟩
    · exact q.elim
  · rintro ⟨i, j, e, ⟨a, b, c, d⟩, q⟩
    subst e
    rw [e62] at a b c d
    exact ⟨⟨a, b⟩, ⟨c, d⟩, q⟩
end

/-! ### loops -/
@[irreducible] def Loop (J : It) (g : TG) (tb : TS) (D : Ends) (σ : L2.St) (H1 : Hp) : Prop := ∃ W : Nat → Nat → L2.St → Hp → Prop, (∃ m, W 0 m σ H1) ∧ ∀ i m σ H, W i m σ H →
  (J.stop i H ∧ D.nx σ H) ∨ (J.go i H ∧ ∃ N : L2.St → Hp → Prop, (∀ σ' H', N σ' H' → ∃ m', m' < m ∧ W (i + 1) m' σ' H') ∧ ∀ x H', J.yld i H x H' → g x σ H' fun σ2 H2 => tb { D with nx := N, ct := N, bk := D.nx } σ2 H2)
def sFor (wi : TI) (g : TG) (tb : TS) : TS := fun D σ H => wi σ H fun J H1 => Loop J g tb D σ H1
theorem sFor_eq (wi : TI) (g : TG) (tb : TS) : sFor wi g tb = tFor wi g tb := by
  funext D σ H
  unfold sFor Loop tFor
  rfl
@[irreducible] def LoopC (J : It) (g : TG) (tt : TT) (te : TE) (vs : List Nat) (σ : L2.St) (D : Addr) (H1 : Hp) (Q : VK) : Prop := ∃ W : Nat → Nat → Hp → Prop, (∃ m, W 0 m (upd H1 D (.lst []))) ∧ ∀ i m H, W i m H →
  (J.stop i H ∧ Q (.ref D) H) ∨ (J.go i H ∧ ∃ Nx : Hp → Prop, (∀ H', Nx H' → ∃ m', m' < m ∧ W (i + 1) m' H') ∧ ∀ x H', J.yld i H x H' → g x (wipe σ vs) H' fun σ2 H2 => wipe σ2 vs = wipe σ vs ∧ tt σ2 H2 fun b H3 =>
    if b = true then te σ2 H3 fun y H4 => ∃ acc, H4 D = some (.lst acc) ∧ acc.length < sizeLine ∧ Nx (upd H4 D (.lst (acc ++ [y]))) else Nx H3)
def eLc (wi : TI) (g : TG) (tt : TT) (te : TE) (vs : List Nat) : TE := fun σ H Q => wi σ H fun J H1 => ∀ D, H1 D = none → LoopC J g tt te vs σ D H1 Q
theorem eLc_eq (wi : TI) (g : TG) (tt : TT) (te : TE) (vs : List Nat) : eLc wi g tt te vs = tLc wi g tt te vs := by
  funext σ H Q
  unfold eLc LoopC tLc
  rfl
theorem sSet_eq (i : Nat) (te : TE) : sSet i te = tAsg te (gName i) := by
  funext D σ H
  unfold sSet tAsg gName
  simp only [sput_eq]
section
variable {X : Cx} {iter tg elt : Expr} {body : List Stmt} {ifs : List Expr} {wi : TI} {g : TG} {tb : TS} {tt : TT} {te : TE} {pos : Pos} {scope : Scope} {own : List (Str × Nat)}
theorem mfor (hp : PassesOwn (model X.prog X.w) X.A X.env X.xe) (hc : X.calm = true) (hi : PI X tg iter wi) (hg : PG X tg g) (hb : PSs X body tb) (hs : ∀ x, foldedSetIterable iter X.env x = pure x := by intro _; rfl) :
    PS X (.For tg iter body [] pos) (sFor wi g tb) := by
  rw [sFor_eq]
  exact ps_for hp hc hi hg hb hs
theorem mlc (hc : X.calm = true) (hN : X.N.Nodup) (hi : PI X tg iter wi) (ok : BlkOk X.N X.env.scope scope own)
    (hg : ∀ (s : Shared) (H : Hp) (C : Addr) (cl : List (Str × Addr)) (fp : List Addr), PG (X.blk s H scope (compEnvC scope cl C X.env) fp) tg g) (ht : ∀ (s : Shared) (H : Hp) (C : Addr) (cl : List (Str × Addr)) (fp : List Addr), PTs (X.blk s H scope (compEnvC scope cl C X.env) fp) ifs tt)
    (he : ∀ (s : Shared) (H : Hp) (C : Addr) (cl : List (Str × Addr)) (fp : List Addr), PE (X.blk s H scope (compEnvC scope cl C X.env) fp) elt te) (hs : ∀ x, foldedSetIterable iter X.env x = pure x := by intro _; rfl) :
    PE X (.ListComp elt [⟨tg, iter, ifs, 0⟩] scope pos) (eLc wi g tt te (own.map (·.2))) := by
  rw [eLc_eq]
  exact pe_lc hc hN hi ok hg ht he hs
theorem mlcs {i : Nat} {y : Str} {py spos : Pos} (hc : X.calm = true) (hN : X.N.Nodup) (hy : X.N[i]? = some y) (hyl : X.env.scope.names.lookup y = some .local)
    (hsw : swapsWith (.ListComp elt [⟨tg, iter, ifs, 0⟩] scope pos) (some (.Name y py)) spos.line X.env = pure true) (hi : PI X tg iter wi) (ok : BlkOk X.N X.env.scope scope own)
    (hg : ∀ (s : Shared) (H : Hp) (C : Addr) (cl : List (Str × Addr)) (fp : List Addr), PG (X.blk s H scope (compEnvC scope cl C X.env) fp) tg g) (ht : ∀ (s : Shared) (H : Hp) (C : Addr) (cl : List (Str × Addr)) (fp : List Addr), PTs (X.blk s H scope (compEnvC scope cl C X.env) fp) ifs tt)
    (he : ∀ (s : Shared) (H : Hp) (C : Addr) (cl : List (Str × Addr)) (fp : List Addr), PE (X.blk s H scope (compEnvC scope cl C X.env) fp) elt te) (hs : ∀ x, foldedSetIterable iter X.env x = pure x := by intro _; rfl) :
    PS X (.Assign [.Name y py] (.ListComp elt [⟨tg, iter, ifs, 0⟩] scope pos) spos) (sSet i (eLc wi g tt te (own.map (·.2)))) := by
  rw [sSet_eq, eLc_eq]
  exact ps_setLc hc hN hy hyl hsw hi ok hg ht he hs
end

/-! ### while -/
@[irreducible] def sWhile (c : TT) (tb : TS) : TS := fun D σ H => ∃ W : Nat → L2.St → Hp → Prop, (∃ m, W m σ H) ∧ ∀ m σ H, W m σ H →
  c σ H fun b H1 => cond b (tb { D with nx := fun σ' H' => ∃ m', m' < m ∧ W m' σ' H', ct := fun σ' H' => ∃ m', m' < m ∧ W m' σ' H', bk := D.nx } σ H1) (D.nx σ H1)
theorem mwhile {X : Cx} {pos : Pos} {c : Expr} {body : List Stmt} {tc : TT} {tb : TS} (hp : PassesOwn (model X.prog X.w) X.A X.env X.xe) (hc : PT X c tc) (hb : PSs X body tb) : PS X (.While c body [] pos) (sWhile tc tb) := by
  constructor
  intro pins s σ H D I h
  unfold sWhile at h
  obtain ⟨W, ⟨m0, w0⟩, turn⟩ := h
  refine wpAny_While (codeAny_whileLoop (fun n s' => ∃ σ' H', Inv X pins σ' H' s' ∧ W n σ' H') ?_ m0 ⟨σ, H, I, w0⟩)
  rintro n s1 ⟨σ1, H1, I1, w1⟩
  refine wpAny_passesOwn hp (thn (hc.run pins s1 σ1 H1 _ I1 (turn n σ1 H1 w1)) ?_)
  rintro k s2 ⟨H2, I2, q2⟩
  cases k with
  | false =>
    rw [if_neg Bool.false_ne_true]
    exact wpAny_execs_nil ⟨σ1, H2, I2, q2⟩
  | true =>
    rw [if_pos rfl]
    refine wpAny_passesOwn hp (thn (hb.run pins s2 σ1 H2 _ I2 q2) ?_)
    intro f s3 q3
    cases f with
    | ret v => exact q3
    | brk => exact q3
    | next =>
      obtain ⟨σ3, H3, I3, m', hm, w3⟩ := q3
      exact ⟨m', hm, σ3, H3, I3, w3⟩
    | cont =>
      obtain ⟨σ3, H3, I3, m', hm, w3⟩ := q3
      exact ⟨m', hm, σ3, H3, I3, w3⟩
/-- a while by what holds and what falls -/
theorem while_i {c : TT} {tb : TS} {D : Ends} {σ : L2.St} {H : Hp} (Pv : Nat → L2.St → Hp → Prop) (m : Nat) (h0 : Pv m σ H)
    (hs : ∀ m σ H, Pv m σ H → c σ H fun b H1 => cond b (tb { D with nx := fun σ' H' => ∃ m', m' < m ∧ Pv m' σ' H', ct := fun σ' H' => ∃ m', m' < m ∧ Pv m' σ' H', bk := D.nx } σ H1) (D.nx σ H1)) : sWhile c tb D σ H := by
  unfold sWhile
  exact ⟨Pv, ⟨m, h0⟩, hs⟩

/-! ### loops by their invariants -/
section
variable {K : PySem.W.Frag} {g : TG} {tb : TS} {D : Ends} {σ : L2.St} {H : Hp} {J : It} {n : Nat} {G : Hp → Prop} {Y : Nat → Hp → V → Hp → Prop} {tt : TT} {te : TE} {vs : List Nat} {Da : Addr} {Q : VK}
theorem Loop.it (w : Walk J n G Y) (Pv : Nat → L2.St → Hp → Prop) (h0 : Pv 0 σ H) (hG : ∀ i σ H, i ≤ n → Pv i σ H → G H)
    (hs : ∀ i x σ H H', i < n → Pv i σ H → Y i H x H' → g x σ H' fun σ2 H2 => tb { D with nx := Pv (i + 1), ct := Pv (i + 1), bk := D.nx } σ2 H2) (hd : ∀ σ H, Pv n σ H → D.nx σ H) : Loop J g tb D σ H := by
  unfold Loop
  exact for_it w Pv h0 hG hs hd
theorem Loop.range {lo : Int} {n : Nat} (Pv : Nat → L2.St → Hp → Prop) (h0 : Pv 0 σ H)
    (hs : ∀ i σ H, i < n → Pv i σ H → g (.int (lo + i)) σ H fun σ2 H2 => tb { D with nx := Pv (i + 1), ct := Pv (i + 1), bk := D.nx } σ2 H2) (hd : ∀ σ H, Pv n σ H → D.nx σ H) : Loop (Itr lo n) g tb D σ H := by
  unfold Loop
  exact for_range Pv h0 hs hd
theorem Loop.list {a : Addr} {xs : List V} (Pv : Nat → L2.St → Hp → Prop) (h0 : Pv 0 σ H) (hl : ∀ i σ H, i ≤ xs.length → Pv i σ H → SqL K H a xs)
    (hs : ∀ i x σ H, xs[i]? = some x → Pv i σ H → g x σ H fun σ2 H2 => tb { D with nx := Pv (i + 1), ct := Pv (i + 1), bk := D.nx } σ2 H2) (hd : ∀ σ H, Pv xs.length σ H → D.nx σ H) : Loop (Itl K a) g tb D σ H := by
  unfold Loop
  exact for_list Pv h0 hl hs hd
theorem Loop.tup {a : Addr} {xs : List V} (Pv : Nat → L2.St → Hp → Prop) (h0 : Pv 0 σ H) (hl : ∀ i σ H, i ≤ xs.length → Pv i σ H → SqT K H a xs)
    (hs : ∀ i x σ H, xs[i]? = some x → Pv i σ H → g x σ H fun σ2 H2 => tb { D with nx := Pv (i + 1), ct := Pv (i + 1), bk := D.nx } σ2 H2) (hd : ∀ σ H, Pv xs.length σ H → D.nx σ H) : Loop (Itt K a) g tb D σ H := by
  unfold Loop
  exact for_tup Pv h0 hl hs hd
theorem LoopC.it (w : Walk J n G Y) (Pv : Nat → Hp → Prop) (h0 : Pv 0 (upd H Da (.lst []))) (hG : ∀ i H, i ≤ n → Pv i H → G H)
    (hs : ∀ i x H H', i < n → Pv i H → Y i H x H' → g x (wipe σ vs) H' fun σ2 H2 => wipe σ2 vs = wipe σ vs ∧ tt σ2 H2 fun b H3 =>
      if b = true then te σ2 H3 fun y H4 => ∃ acc, H4 Da = some (.lst acc) ∧ acc.length < sizeLine ∧ Pv (i + 1) (upd H4 Da (.lst (acc ++ [y]))) else Pv (i + 1) H3) (hd : ∀ H, Pv n H → Q (.ref Da) H) : LoopC J g tt te vs σ Da H Q := by
  unfold LoopC
  exact lc_it (Qd := fun H => Q (.ref Da) H) w Pv h0 hG hs hd
end
section
variable {K : PySem.W.Frag} {H : Hp} {R : It → Hp → Prop} {a : Addr} {xs : List V} {z : Str}
theorem it_l (h : H a = some (.lst xs)) (q : R (Itl K a) H) : iterX K (.ref a) H R := by
  unfold iterX
  exact .inl ⟨a, rfl, ⟨xs, SqL.of h⟩, q⟩
theorem it_f {o : Obj} (h : H a = some (.frz o (.lst xs))) (q : R (Itl K a) H) : iterX K (.ref a) H R := by
  unfold iterX
  exact .inl ⟨a, rfl, ⟨xs, .inl (.inr ⟨o, h⟩)⟩, q⟩
theorem it_t (h : H a = some (.tup xs)) (q : R (Itt K a) H) : iterX K (.ref a) H R := by
  unfold iterX
  exact .inr (.inl ⟨a, rfl, ⟨xs, SqT.of h⟩, q⟩)
theorem it_s (q : R (Its z) H) : iterX K (.str z) H R := by
  unfold iterX
  exact .inr (.inr ⟨z, rfl, q⟩)
end

/-! ### isinstance of built-in types -/
inductive Ty where
  | none | bool | int | str | list | tuple | dict
  deriving DecidableEq
def Ty.nm : Ty → String
  | .none => "NoneType" | .bool => "bool" | .int => "int" | .str => "str" | .list => "list" | .tuple => "tuple" | .dict => "dict"
def Ty.is : Ty → Ty → Bool
  | .none, .none => true | .bool, .bool => true | .bool, .int => true | .int, .int => true | .str, .str => true | .list, .list => true | .tuple, .tuple => true | .dict, .dict => true
  | _, _ => false
theorem Ty.kit (K : PySem.W.Frag) (t : Ty) (T : Ty) (h : T ≠ .none) : PySem.W.kitOne K (.type t.nm) (.type T.nm) = some (t.is T) := by
  cases T with
  | none => exact absurd rfl h
  | bool => cases t <;> exact kit_ty (by decide +kernel)
  | int => cases t <;> exact kit_ty (by decide +kernel)
  | str => cases t <;> exact kit_ty (by decide +kernel)
  | list => cases t <;> exact kit_ty (by decide +kernel)
  | tuple => cases t <;> exact kit_ty (by decide +kernel)
  | dict => cases t <;> exact kit_ty (by decide +kernel)
@[irreducible] def isiX (K : PySem.W.Frag) (T : List Ty) (x : V) (H : Hp) (Q : VK) : Prop := ∃ t : Ty, TyX K H x (.type t.nm) ∧ Q (.bl (T.any fun u => t.is u)) H
def isiV (K : PySem.W.Frag) (T : List Ty) : V → Hp → VK → Prop := fun x H Q => match x with
  | .non => Q (.bl (T.any fun u => Ty.none.is u)) H
  | .bl _ => Q (.bl (T.any fun u => Ty.bool.is u)) H
  | .int _ => Q (.bl (T.any fun u => Ty.int.is u)) H
  | .str _ => Q (.bl (T.any fun u => Ty.str.is u)) H
  | x => isiX K T x H Q
section
variable {K : PySem.W.Frag} {T : List Ty} {H : Hp} {Q : VK} {a : Addr} {xs : List V}
theorem isiV_x {x : V} (q : isiV K T x H Q) : isiX K T x H Q := by
  unfold isiV at q
  unfold isiX
  split at q
  · exact ⟨.none, .base .non, q⟩
  · exact ⟨.bool, .base (.bl _), q⟩
  · exact ⟨.int, .base (.int _), q⟩
  · exact ⟨.str, .base (.str _), q⟩
  · unfold isiX at q
    exact q
theorem isi_l (h : H a = some (.lst xs)) (q : Q (.bl (T.any fun u => Ty.list.is u)) H) : isiX K T (.ref a) H Q := by
  unfold isiX
  exact ⟨.list, .base (.lst h), q⟩
theorem isi_t (h : H a = some (.tup xs)) (q : Q (.bl (T.any fun u => Ty.tuple.is u)) H) : isiX K T (.ref a) H Q := by
  unfold isiX
  exact ⟨.tuple, .base (.tup h), q⟩
theorem isi_d {kvs : List (Key × V)} (h : H a = some (.dK kvs)) (q : Q (.bl (T.any fun u => Ty.dict.is u)) H) : isiX K T (.ref a) H Q := by
  unfold isiX
  exact ⟨.dict, .base (.dK h), q⟩
end
section
variable {X : Cx} {e c : Expr} {te : TE} {pos p p2 p3 p4 : Pos} {tn tn2 : Str}
/-- isinstance(x, T) -/
def cIsi (K : PySem.W.Frag) (T : Ty) : List V → Hp → VK → Prop := fun xs H Q => match xs with
  | [x, c] => c = .ty T.nm ∧ isiV K [T] x H Q
  | _ => False
theorem k_isi {T : Ty} (hT : T ≠ .none) : CallR X (.builtin "isinstance") (cIsi X.K T) := call_imp call_isi fun xs H Q q => by
  unfold cIsi at q
  split at q
  · rename_i x c
    obtain ⟨e, q⟩ := q
    subst e
    have q := isiV_x q
    unfold isiX at q
    obtain ⟨t, h, q⟩ := q
    refine ⟨x, .ty T.nm, .type t.nm, .type T.nm, t.is T, rfl, .ty _, h, Ty.kit X.K t T hT, ?_⟩
    simpa using q
  · exact q.elim
/-- isinstance(x, (T1, T2)), the tuple just laid at p -/
def cIsiT (K : PySem.W.Frag) (T : List Ty) : List V → Hp → VK → Prop := fun xs H Q => match xs with
  | [x, .ref p] => H p = some (.tup (T.map fun t => .ty t.nm)) ∧ isiV K T x H Q
  | _ => False
theorem kits (K : PySem.W.Frag) (t : Ty) : ∀ {T : List Ty}, (∀ u ∈ T, u ≠ .none) → PySem.W.kitAny K (.type t.nm) (T.map fun u => Value.type u.nm) = some (T.any fun u => t.is u)
  | [], _ => kitAny_nil
  | u :: T, h => by
    refine kitAny_cons (Ty.kit K t u (h u List.mem_cons_self)) (fun e => ?_) fun e => ?_
    · rw [List.any_cons, e, Bool.false_or]
      exact kits K t fun v hv => h v (List.mem_cons_of_mem _ hv)
    · rw [List.any_cons, e, Bool.true_or]
theorem tyVs : ∀ T : List Ty, Paired ClsV (T.map fun t => V.ty t.nm) (T.map fun t => Value.type t.nm)
  | [] => .nil
  | t :: T => .cons (.ty _) (tyVs T)
theorem k_isiT {T : List Ty} (hT : ∀ u ∈ T, u ≠ .none) : CallR X (.builtin "isinstance") (cIsiT X.K T) := call_imp call_isiT fun xs H Q q => by
  unfold cIsiT at q
  split at q
  · rename_i x p
    obtain ⟨hp, q⟩ := q
    have q := isiV_x q
    unfold isiX at q
    obtain ⟨t, h, q⟩ := q
    exact ⟨x, p, _, .type t.nm, _, _, rfl, hp, tyVs T, h, kits X.K t hT, q⟩
  · exact q.elim
end
end MK

namespace MK
open PySem PySem.Spec PyProof.Rows L2
/-- the script: a list of ints that no one changes -/
def KL (K : PySem.W.Frag) (a : Addr) (xs : List V) : Prop := ∃ (o : Obj) (its : Array Value) (n : Nat), K.lookup a = some o ∧ o.cls = .type "list" ∧ o.dict = none ∧ o.data = .seq its n ∧ its.size ≤ sizeLine ∧ Vals xs its.toList
def scr (K : PySem.W.Frag) (a : Addr) (xs : List V) : SP where
  P := fun H A => A = [] ∧ ((∃ o, H a = some (.frz o (.lst xs))) ∨ KL K a xs)
  dom := fun H A h b hb => by
    rw [h.1] at hb
    cases hb
  st := fun H H' A h _ k => ⟨h.1, h.2.imp (fun ⟨o, z⟩ => ⟨o, by rw [k a (by rw [z]; exact True.intro), z]⟩) fun z => z⟩
theorem Star.getS {K : PySem.W.Frag} {H : Hp} {a : Addr} {xs : List V} {ps : List SP} (S : Star H (scr K a xs :: ps)) : SqL K H a xs := by
  obtain ⟨A1, A2, _, ⟨_, h⟩, _⟩ := Star.split.mp S
  rcases h with ⟨o, z⟩ | z
  · exact .inl (.inr ⟨o, z⟩)
  · exact .inr z
theorem ix_q {K : PySem.W.Frag} {H : Hp} {Q : VK} {a : Addr} {xs : List V} {v : V} {i : Int} (h : SqL K H a xs) (e : atI xs i = some v) (q : Q v H) : ixX K (.ref a) (.int i) H Q := by
  unfold ixX
  exact .inl (.inl ⟨a, xs, i, v, rfl, rfl, h, e, q⟩)
theorem len_q {K : PySem.W.Frag} {H : Hp} {Q : VK} {a : Addr} {xs : List V} (h : SqL K H a xs) (q : Q (.int (xs.length : Int)) H) : lenX K (.ref a) H Q := by
  unfold lenX
  exact .inl ⟨xs.length, .inl ⟨xs, h, rfl⟩, q⟩
section
variable {P : Program} {w : World} {K : PySem.W.Frag} {mg mb : Str → Option Value} {k : Nat} {fa a : Addr} {fd : FuncData} {x : Str} {sp : Sp} {s1 : Shared} {vs : List Value} {ns : List Int}
/-- the law's def is called, the script told by H -/
theorem law_core {H : Hp} (KX : K.In s1.heap) (hns : s1.heap.Ns mainGlobals mg) (hb : s1.heap.Ns builtinsNs mb) (hbb : ∀ x : Str, x ≠ "__name__" → mb x = bootBuiltins x) (hlim : s1.heap.NoLimit) (hg : s1.gens = #[]) (hr : Room k callerA)
    (F : ∀ base : Heap, K.In base → base.Ns mainGlobals mg → FnG P w K mg base k fa fd [x] sp) (hbind : ∀ (s : Shared) (u : Value), BindsTo s fd ⟨[u], []⟩ [(x, u)])
    (hsp : sp [.ref a] H (fun v _ => v = .bl true) (fun _ _ _ => False)) (hok : HOk P w H s1.heap) (only : ∀ b, H b ≠ none → b = a ∧ K.lookup a = none ∧ ∃ o xs, H a = some (.frz o (.lst xs))) :
    codeAny (model P w) callerA (.call (.ref fa) ⟨[.ref a], []⟩) (fun r s' => r = .ok (.ret (.bool true)) ∧ OldK s1.heap s'.heap ∧ s'.os = s1.os ∧ AllBare s'.gens) s1 := by
  have free : ∀ {b : Addr} {o : Obj}, s1.heap.get? b = some o → (∀ xs n, o.data ≠ .seq xs n) → H b = none := by
    intro b o e d
    cases q : H b with
    | none => rfl
    | some u =>
      obtain ⟨eb, _, ob, xs, z⟩ := only b (by rw [q]; simp)
      subst eb
      obtain ⟨h1, h2⟩ := hok _ _ z
      obtain ⟨_, its, n, _, h3⟩ := h2
      rw [e] at h3
      cases h3
      exact absurd rfl (d _ _)
  have inB : ∀ {b : Addr} {o : Obj}, s1.heap.get? b = some o → H b = none → (hidT s1.heap H).get? b = some o := fun e n => hidT_get e n
  have nsB : ∀ {b : Addr} {m : Str → Option Value}, s1.heap.Ns b m → (hidT s1.heap H).Ns b m := by
    rintro b m ⟨o, es, ep, e, d, r⟩
    exact ⟨o, es, ep, inB e (free e fun xs n z => by rw [d] at z; cases z), d, r⟩
  have kB : K.In (hidT s1.heap H) := fun b o e => inB (KX b o e) (by
    cases q : H b with
    | none => rfl
    | some u =>
      obtain ⟨eb, hk, _⟩ := only b (by rw [q]; simp)
      subst eb
      rw [hk] at e
      cases e)
  have M : Mod K mg (hidT s1.heap H) := by
    obtain ⟨mc, h1, h2⟩ := hlim
    exact ⟨kB, nsB hns, ⟨mb, nsB hb, hbb⟩, ⟨mc, nsB h1, h2⟩⟩
  have e0 : Env0 P w K mg (hidT s1.heap H) callerA [] s1 H :=
    ⟨rfl, M, fun b o e => of_hidT e, Nat.le_of_eq (hidT_size _ _), trivial, fun b z => absurd (show b ∈ ([] : List Addr) from z) (by simp), hok, .of_eq hg⟩
  have run := (F _ kB (nsB hns)).run callerA [] s1 H ⟨[.ref a], []⟩ [.ref a] [.ref a] _ _ hr rfl e0 (hbind s1 (.ref a)) (.cons rfl .nil) hsp
  refine codeAny_mono run ?_
  intro r s' h
  rcases r with e | (_ | _ | _ | u)
  · obtain ⟨_, _, _, _, _, _, _, _, _, _, _, _, z⟩ := h
    exact z.elim
  · exact h.elim
  · exact h.elim
  · exact h.elim
  · obtain ⟨v, H', os, bare, un, hok', r', q⟩ := h
    have q' : v = .bl true := q
    subst q'
    cases (show u = Value.bool true from r')
    refine ⟨rfl, OldK.of_keep ?_, os, bare⟩
    intro b o e
    cases q : H b with
    | none => exact un.keep b o e q (fun z => absurd (show b ∈ ([] : List Addr) from z) (by simp)) (by simp)
    | some u =>
      obtain ⟨eb, _, ob, xs, z⟩ := only b (by rw [q]; simp)
      subst eb
      obtain ⟨e1, _⟩ := hok _ _ z
      obtain ⟨e2, _⟩ := hok' _ _ (un.frzs _ ob _ z)
      rw [e] at e1
      cases e1
      exact e2
theorem law_end (KX : K.In s1.heap) (hns : s1.heap.Ns mainGlobals mg) (hb : s1.heap.Ns builtinsNs mb) (hbb : ∀ x : Str, x ≠ "__name__" → mb x = bootBuiltins x) (hlim : s1.heap.NoLimit) (hg : s1.gens = #[])
    (ha : s1.heap.get? a = some { cls := .type "list", data := .seq vs.toArray }) (hi : IntsAre vs ns) (hl : ns.length ≤ sizeLine) (hr : Room k callerA)
    (F : ∀ base : Heap, K.In base → base.Ns mainGlobals mg → FnG P w K mg base k fa fd [x] sp) (hbind : ∀ (s : Shared) (u : Value), BindsTo s fd ⟨[u], []⟩ [(x, u)])
    (hsp : ∀ H : Hp, Star H [scr K a (ns.map V.int)] → sp [.ref a] H (fun v _ => v = .bl true) (fun _ _ _ => False)) :
    codeAny (model P w) callerA (.call (.ref fa) ⟨[.ref a], []⟩) (fun r s' => r = .ok (.ret (.bool true)) ∧ OldK s1.heap s'.heap ∧ s'.os = s1.os ∧ AllBare s'.gens) s1 := by
  have rv := vals_ints hi
  have lenV := hi.length
  cases hk : K.lookup a with
  | some o =>
    have e := KX a o hk
    rw [ha] at e
    cases e
    have kl : KL K a (ns.map V.int) := ⟨_, vs.toArray, _, hk, rfl, rfl, rfl, by rw [List.size_toArray, lenV]; exact hl, by simpa using rv⟩
    refine law_core (H := fun _ => none) KX hns hb hbb hlim hg hr F hbind (hsp _ ⟨[], List.nodup_nil, [], [], rfl, ⟨rfl, .inr kl⟩, rfl⟩) ?_ ?_
    · intro b u z
      have z' : (none : Option HO) = some u := z
      cases z'
    · intro b z
      exact absurd rfl z
  | none =>
    obtain ⟨H, eH⟩ : ∃ H : Hp, H = fun b => if b = a then some (.frz { cls := .type "list", data := .seq vs.toArray } (.lst (ns.map V.int))) else none := ⟨_, rfl⟩
    have Ha : H a = some (.frz { cls := .type "list", data := .seq vs.toArray } (.lst (ns.map V.int))) := by rw [eH]; exact if_pos rfl
    have Hn : ∀ b, b ≠ a → H b = none := fun b z => by rw [eH]; exact if_neg z
    refine law_core (H := H) KX hns hb hbb hlim hg hr F hbind (hsp _ ⟨[], List.nodup_nil, [], [], rfl, ⟨rfl, .inl ⟨_, Ha⟩⟩, rfl⟩) ?_ ?_
    · intro b u z
      by_cases e : b = a
      · subst e
        rw [Ha] at z
        cases z
        have hz : (ns.map V.int).length ≤ sizeLine := by rw [List.length_map]; exact hl
        exact ⟨ha, hz, vs, _, rv, ha⟩
      · rw [Hn b e] at z
        cases z
    · intro b z
      by_cases e : b = a
      · exact ⟨e, hk, _, _, Ha⟩
      · exact absurd (Hn b e) z
end
/-- the goal that the head leaves, from the law's promise -/
theorem walk_end {l : PySem.W.OpenLaw} {n k : Nat} {q : Program} {loose : List Str} {XP : (Str → Option Value) → Heap → Prop} {YP : World → Heap → Prop} {d : DefRec} {x : Str}
    (hn : l.most = some n) (hn2 : n ≤ sizeLine) (hdf : d.params.defaults = []) (hr : Room k callerA)
    (F : ∀ (w : World) (mg : Str → Option Value) (fa : Addr) (h : Heap), YP w h → h.Ns mainGlobals mg → mg d.name = some (.ref fa) →
      ∃ (K : PySem.W.Frag) (fd : FuncData) (sp : Sp), K.In h ∧ (∀ (s : Shared) (u : Value), BindsTo s fd ⟨[u], []⟩ [(x, u)]) ∧
        (∀ (H : Hp) (a : Addr) (ns : List Int), ns.length ≤ n → Star H [scr K a (ns.map V.int)] → sp [.ref a] H (fun v _ => v = .bl true) fun _ _ _ => False) ∧
        ∀ base : Heap, K.In base → base.Ns mainGlobals mg → FnG l.prog w K mg base k fa fd [x] sp) :
    PySem.W.WalkO q loose XP YP l.row.toRowW d [] (fun f vs => PySem.call f vs) := by
  refine Att.attach_call hn hdf fun w s₀ s₁ mg mb fa o pm cd doc a vs ns G Y ho hd hcd hmg hobj hints hlen hg => ?_
  obtain ⟨K, fd, sp, KX, hb, hsp, hF⟩ := F w mg fa _ Y G.T.g hmg
  exact law_end KX G.T.g G.T.b G.T.builtins G.T.nolimit hg hobj hints (Nat.le_trans hlen hn2) hr hF hb fun H S => hsp H a ns hlen S
end MK

namespace MK
open PySem PySem.Spec PyProof.Rows L2
abbrev noW : WX := fun _ _ _ _ => False
abbrev wE (E : XK) : WX := fun c d _ H => E c d H
abbrev endOf (Q : VK) : Ends := ⟨fun _ H' => Q .non H', Q, fun _ _ => False, fun _ _ => False⟩
def st0 (vs : List V) (m : Nat) : L2.St := vs.map some ++ List.replicate m none
theorem st0_eq {N : List Str} {vs : List V} {n m : Nat} (h : vs.length = n) (hN : N.length = n + m) : L2.start N vs = st0 vs m := by
  unfold L2.start st0
  rw [h, hN, Nat.add_sub_cancel_left]
section
variable {P : Program} {w : World} {K : PySem.W.Frag} {mg : Str → Option Value} {base : Heap} {N ps : List Str} {qual x : Str} {scope : Scope} {f : Addr} {cd : Value} {A : Around} {outer : List Env} {s : Shared} {H : Hp} {E : XK}
theorem tk_of : Takes (cxOf (L2.CX P w) P w K mg base N qual scope f cd A outer s H E) (wE E) := takes_of rfl rfl rfl rfl
theorem hp_of : PassesOwn (model P w) (A.deeper (envOfC qual scope s.heap.objs.size f cd)) (envOfC qual scope s.heap.objs.size f cd) (cxOf (L2.CX P w) P w K mg base N qual scope f cd A outer s H E).xe := passes_of (X := cxOf (L2.CX P w) P w K mg base N qual scope f cd A outer s H E) rfl
theorem tk0 {X : Cx} : Takes X noW := fun _ _ ⟨_, _, _, _, _, _, _, _, _, _, _, _, _, _, _, _, z⟩ => z.elim
/-- a def of the text keeps its promise -/
structure OkG (P : Program) (w : World) (K : PySem.W.Frag) (mg : Str → Option Value) (base : Heap) (k : Nat) (f : Addr) (ps : List Str) (sp : Sp) : Prop where
  ex : ∃ fd, FnG P w K mg base k f fd ps sp ∧ L2.Binds K fd ps []
theorem OkG.cal {X : Cx} {j k : Nat} {f : Addr} {ps : List Str} {sp : Sp} (o : OkG X.prog X.w X.K X.mg X.base j f ps sp) (hr : Room k X.A) (hk : j ≤ k) (hg : X.A.guards = some []) : Cal X f sp := by
  obtain ⟨fd, F, b⟩ := o.ex
  exact ⟨j, fd, ps, hr.mono hk, hg, b, F⟩
theorem OkG.calM {X : Cx} {j k : Nat} {f : Addr} {ps : List Str} {sp : Sp} (o : OkG X.prog X.w X.K X.mg X.base j f ps sp) (hr : Room k X.A) (hk : j + 1 ≤ k) (hg : X.A.guards = some []) : CalM X f sp := by
  obtain ⟨fd, F, b⟩ := o.ex
  exact ⟨j, fd, ps, hr.mono hk, hg, b, F⟩
theorem OkG.of {k : Nat} {sp : Sp} {params : Arguments} {body : List Stmt} {t : WX → TS} {n m : Nat} (F : ∃ fd, FunD K x qual params body scope [] [] f fd) (S : FnScope N ps scope)
    (b : ∀ (kV doc pm : Value) (an : Option Addr) (cdv ct : Value) (us : List Value), us.length = ps.length → bindArgs (PySem.W.fnOf x qual params body scope .none kV doc pm an cdv ct) ⟨us, []⟩ = pure (ps.zip us))
    (hn : ps.length = n) (hN : N.length = n + m) (hs : ∀ vs H Q E, sp vs H Q E → vs.length = n ∧ t (wE E) (endOf Q) (st0 vs m) H)
    (hb : ∀ (cdv : Value) (A : Around) (outer : List Env) (s : Shared) (H : Hp) (E : XK), Room k (A.deeper (envOfC qual scope s.heap.objs.size f cdv)) → A.guards = some [] →
      PSs (cxOf (L2.CX P w) P w K mg base N qual scope f cdv A outer s H E) body (t (wE E))) : OkG P w K mg base (k + 1) f ps sp := by
  obtain ⟨fd, F⟩ := F
  refine ⟨fd, FnG.of F S (fun vs H Q E z => by rw [(hs vs H Q E z).1, hn]) ?_, F.bindsN b⟩
  intro cdv A outer s H vs Q E hr hg z
  obtain ⟨z1, z2⟩ := hs vs H Q E z
  exact ⟨t (wE E), hb cdv A outer s H E hr hg, by rw [st0_eq z1 hN]; exact z2⟩
end
/-- {} -/
def eD0 : TE := fun _ H Q => nwO (.dK []) H Q
theorem md0 {X : Cx} {pos : Pos} : PE X (.Dict [] [] pos) eD0 := by
  have e : eD0 = fun _ H Q => ∀ d, H d = none → Q (.ref d) (upd H d (.dK [])) := by
    unfold eD0 nwO
    rfl
  rw [e]
  exact pe_dnewK
end MK

namespace MK
open PySem PySem.Spec PyProof.Rows L2

/-! ### side conditions -/
theorem mul1 {i j : Int} (h : -18446744073709551616 < i ∧ i < 18446744073709551616) : mulOk i j := .inl h
theorem mul2 {i j : Int} (h : -18446744073709551616 < j ∧ j < 18446744073709551616) : mulOk i j := .inr (.inl h)
theorem div1 {j : Int} (h : 0 < j ∧ j < 18446744073709551616) : divOk j := h
theorem pow1 {i j : Int} (h : (0 ≤ j ∧ j ≤ 1000000) ∧ -18446744073709551616 < i ∧ i < 18446744073709551616) : powOk i j := h
theorem rng1 {i : Int} (h : -4611686018427387904 ≤ i ∧ i < 4611686018427387904) : rngOk i := h
theorem sz1 {n : Nat} (h : n ≤ 16777216) : szOk n := h

/-! ### steps that change the heap, by the assertions -/
section
variable {K : PySem.W.Frag} {H : Hp} {ps : List SP} {Q : VK} {a b : Addr} {xs ys : List V} {v : V} {i : Int} {j : Nat}
theorem al_l (S : Star H ps) (q : ∀ p H', Star H' (pt p (.lst xs) :: ps) → Q (.ref p) H') : nwO (.lst xs) H Q := nwO_i fun p hp => q p _ (S.newL hp)
theorem al_t (S : Star H ps) (q : ∀ p H', Star H' (fx p (.tup xs) :: ps) → Q (.ref p) H') : nwO (.tup xs) H Q := nwO_i fun p hp => q p _ (S.newT hp)
theorem al_d (S : Star H ps) (q : ∀ p H', Star H' (pt p (.dK []) :: ps) → Q (.ref p) H') : nwO (.dK []) H Q := nwO_i fun p hp => q p _ (S.new' hp id)
theorem set_S {Q : Hp → Prop} (S : Star H (pt a (.lst xs) :: ps)) (e : ixN xs.length i = some j) (q : ∀ H', Star H' (pt a (.lst (xs.set j v)) :: ps) → Q H') : setX (.ref a) (.int i) v H Q := set_l S.get e (q _ S.updL)
theorem add_S (S : Star H ps) (h : H a = some (.lst xs)) (h2 : H b = some (.lst ys)) (z : xs.length + ys.length ≤ 16777216) (q : ∀ p H', Star H' (pt p (.lst (xs ++ ys)) :: ps) → Q (.ref p) H') : addX K (.ref a) (.ref b) H Q :=
  add_l h h2 (szOk.w z) (nwO_e (al_l S q))
theorem tup_S (S : Star H ps) (h : H a = some (.lst xs)) (q : ∀ p H', Star H' (fx p (.tup xs) :: ps) → Q (.ref p) H') : tupX K (.ref a) H Q := tup_l h (nwO_e (al_t S q))
theorem list_S (S : Star H ps) (h : H a = some (.lst xs)) (q : ∀ p H', Star H' (pt p (.lst xs) :: ps) → Q (.ref p) H') : listX K (.ref a) H Q := list_l h (nwO_e (al_l S q))
theorem br {c : Bool} {A B : Prop} (h1 : c = true → A) (h2 : c = false → B) : cond c A B := by
  cases c with
  | true => exact h1 rfl
  | false => exact h2 rfl
end
end MK

namespace MK
open PySem PySem.Spec PyProof.Rows L2

theorem brd {p A B : Prop} [Decidable p] (h1 : p → A) (h2 : ¬ p → B) : cond (decide p) A B := br (fun h => h1 (of_decide_eq_true h)) (fun h => h2 (of_decide_eq_false h))
theorem brn {p A B : Prop} [Decidable p] (h1 : ¬ p → A) (h2 : p → B) : cond (!decide p) A B := br (fun h => h1 (fun z => by simp [z] at h)) (fun h => h2 (by simpa using h))

theorem brn' {A B : Prop} {b : Bool} (h1 : b = false → A) (h2 : b = true → B) : cond (!b) A B := by
  cases b with
  | true => exact h2 rfl
  | false => exact h1 rfl

/-! ### data: lists are held, tuples are known -/
mutual
def datP (H : Hp) : V → PyData → List Addr → Prop
  | v, .none, A => A = [] ∧ v = .non
  | v, .bool c, A => A = [] ∧ v = .bl c
  | v, .int i, A => A = [] ∧ v = .int i
  | v, .str x, A => A = [] ∧ v = .str x
  | v, .list ds, A => ∃ a xs A', v = .ref a ∧ A = a :: A' ∧ H a = some (.lst xs) ∧ datA H xs ds A'
  | v, .tuple ds, A => ∃ a xs, v = .ref a ∧ H a = some (.tup xs) ∧ datA H xs ds A
  | v, .dict kvs, A => ∃ a ks A', v = .ref a ∧ A = a :: A' ∧ H a = some (.dK ks) ∧ datK H ks kvs A'
def datA (H : Hp) : List V → List PyData → List Addr → Prop
  | vs, [], A => A = [] ∧ vs = []
  | vs, d :: ds, A => ∃ v r A1 A2, vs = v :: r ∧ A = A1 ++ A2 ∧ datP H v d A1 ∧ datA H r ds A2
def datK (H : Hp) : List (Key × V) → List (PyData × PyData) → List Addr → Prop
  | ks, [], A => A = [] ∧ ks = []
  | ks, p :: r, A => ∃ k v t A1 A2, ks = (k, v) :: t ∧ p.1 = kD k ∧ A = A1 ++ A2 ∧ datP H v p.2 A1 ∧ datK H t r A2
end
mutual
theorem datP_dom {H : Hp} : ∀ (d : PyData) {v : V} {A : List Addr}, datP H v d A → ∀ a ∈ A, H a ≠ none ∧ ¬ isFix (H a)
  | .none, _, _, h, a, ha => by rw [h.1] at ha; cases ha
  | .bool _, _, _, h, a, ha => by rw [h.1] at ha; cases ha
  | .int _, _, _, h, a, ha => by rw [h.1] at ha; cases ha
  | .str _, _, _, h, a, ha => by rw [h.1] at ha; cases ha
  | .list ds, _, _, ⟨b, xs, A', _, e, hb, hs⟩, a, ha => by
    rw [e] at ha
    rcases List.mem_cons.mp ha with z | z
    · rw [z, hb]
      exact ⟨(fun y => by cases y), fun y => y⟩
    · exact datA_dom ds hs a z
  | .tuple ds, _, _, ⟨b, xs, _, hb, hs⟩, a, ha => datA_dom ds hs a ha
  | .dict kvs, _, _, ⟨b, ks, A', _, e, hb, hs⟩, a, ha => by
    rw [e] at ha
    rcases List.mem_cons.mp ha with z | z
    · rw [z, hb]
      exact ⟨(fun y => by cases y), fun y => y⟩
    · exact datK_dom kvs hs a z
theorem datA_dom {H : Hp} : ∀ (ds : List PyData) {vs : List V} {A : List Addr}, datA H vs ds A → ∀ a ∈ A, H a ≠ none ∧ ¬ isFix (H a)
  | [], _, _, h, a, ha => by rw [h.1] at ha; cases ha
  | d :: ds, _, _, ⟨v, r, A1, A2, _, e, h1, h2⟩, a, ha => by
    rw [e] at ha
    rcases List.mem_append.mp ha with z | z
    · exact datP_dom d h1 a z
    · exact datA_dom ds h2 a z
theorem datK_dom {H : Hp} : ∀ (kvs : List (PyData × PyData)) {ks : List (Key × V)} {A : List Addr}, datK H ks kvs A → ∀ a ∈ A, H a ≠ none ∧ ¬ isFix (H a)
  | [], _, _, h, a, ha => by rw [h.1] at ha; cases ha
  | p :: r, _, _, ⟨k, v, t, A1, A2, _, _, e, h1, h2⟩, a, ha => by
    rw [e] at ha
    rcases List.mem_append.mp ha with z | z
    · exact datP_dom p.2 h1 a z
    · exact datK_dom r h2 a z
end
mutual
theorem datP_st {H H' : Hp} (k : Keep H H') : ∀ (d : PyData) {v : V} {A : List Addr}, datP H v d A → (∀ a ∈ A, H' a = H a) → datP H' v d A
  | .none, _, _, h, _ => h
  | .bool _, _, _, h, _ => h
  | .int _, _, _, h, _ => h
  | .str _, _, _, h, _ => h
  | .list ds, _, _, ⟨b, xs, A', e1, e, hb, hs⟩, ha => ⟨b, xs, A', e1, e, by rw [ha b (by simp [e]), hb], datA_st k ds hs fun a z => ha a (by simp [e, z])⟩
  | .tuple ds, _, _, ⟨b, xs, e1, hb, hs⟩, ha => ⟨b, xs, e1, by rw [k b (by rw [hb]; exact True.intro), hb], datA_st k ds hs ha⟩
  | .dict kvs, _, _, ⟨b, ks, A', e1, e, hb, hs⟩, ha => ⟨b, ks, A', e1, e, by rw [ha b (by simp [e]), hb], datK_st k kvs hs fun a z => ha a (by simp [e, z])⟩
theorem datA_st {H H' : Hp} (k : Keep H H') : ∀ (ds : List PyData) {vs : List V} {A : List Addr}, datA H vs ds A → (∀ a ∈ A, H' a = H a) → datA H' vs ds A
  | [], _, _, h, _ => h
  | d :: ds, _, _, ⟨v, r, A1, A2, e1, e, h1, h2⟩, ha => ⟨v, r, A1, A2, e1, e, datP_st k d h1 fun a z => ha a (by simp [e, z]), datA_st k ds h2 fun a z => ha a (by simp [e, z])⟩
theorem datK_st {H H' : Hp} (k : Keep H H') : ∀ (kvs : List (PyData × PyData)) {ks : List (Key × V)} {A : List Addr}, datK H ks kvs A → (∀ a ∈ A, H' a = H a) → datK H' ks kvs A
  | [], _, _, h, _ => h
  | p :: r, _, _, ⟨x, v, t, A1, A2, e1, e2, e, h1, h2⟩, ha => ⟨x, v, t, A1, A2, e1, e2, e, datP_st k p.2 h1 fun a z => ha a (by simp [e, z]), datK_st k r h2 fun a z => ha a (by simp [e, z])⟩
end
def dat (v : V) (d : PyData) : SP where
  P := fun H A => datP H v d A
  dom := fun H A h => datP_dom d h
  st := fun H H' A h e k => datP_st k d h e
def dats (vs : List V) (ds : List PyData) : SP where
  P := fun H A => datA H vs ds A
  dom := fun H A h => datA_dom ds h
  st := fun H H' A h e k => datA_st k ds h e
def datk (ks : List (Key × V)) (kvs : List (PyData × PyData)) : SP where
  P := fun H A => datK H ks kvs A
  dom := fun H A h => datK_dom kvs h
  st := fun H H' A h e k => datK_st k kvs h e

section
variable {H : Hp} {F : List SP} {v : V} {vs : List V} {d : PyData} {ds : List PyData} {a : Addr}
theorem dat_of {φ : Prop} {p : SP} (h : ∀ A, p.P H A ↔ A = [] ∧ φ) : Star H (p :: F) ↔ φ ∧ Star H F :=
  ⟨fun S => by
    obtain ⟨A1, A2, n, h1, h2⟩ := Star.split.mp S
    exact ⟨((h A1).mp h1).2, S.tail⟩, fun ⟨hp, A, n, hA⟩ => Star.split.mpr ⟨[], A, n, (h []).mpr ⟨rfl, hp⟩, hA⟩⟩
theorem dat_n : Star H (dat v .none :: F) ↔ v = .non ∧ Star H F := dat_of fun A => by show datP H v .none A ↔ _; unfold datP; exact Iff.rfl
theorem dat_b {b : Bool} : Star H (dat v (.bool b) :: F) ↔ v = .bl b ∧ Star H F := dat_of fun A => by show datP H v (.bool b) A ↔ _; unfold datP; exact Iff.rfl
theorem dat_i {i : Int} : Star H (dat v (.int i) :: F) ↔ v = .int i ∧ Star H F := dat_of fun A => by show datP H v (.int i) A ↔ _; unfold datP; exact Iff.rfl
theorem dat_s {x : Str} : Star H (dat v (.str x) :: F) ↔ v = .str x ∧ Star H F := dat_of fun A => by show datP H v (.str x) A ↔ _; unfold datP; exact Iff.rfl
theorem dat_l : Star H (dat v (.list ds) :: F) ↔ ∃ a xs, v = .ref a ∧ Star H (pt a (.lst xs) :: dats xs ds :: F) := by
  constructor
  · intro S
    obtain ⟨A1, A2, n, h1, h2⟩ := Star.split.mp S
    have h1 : datP H v (.list ds) A1 := h1
    unfold datP at h1
    obtain ⟨a, xs, A', e1, e, ha, hs⟩ := h1
    subst e
    exact ⟨a, xs, e1, _, n, [a], A' ++ A2, rfl, ⟨rfl, ha, id⟩, A', A2, rfl, hs, h2⟩
  · rintro ⟨a, xs, e1, _, n, _, _, rfl, ⟨rfl, ha, _⟩, A', A2, rfl, hs, h2⟩
    refine Star.split.mpr ⟨a :: A', A2, n, ?_, h2⟩
    show datP H v (.list ds) (a :: A')
    unfold datP
    exact ⟨a, xs, A', e1, rfl, ha, hs⟩
theorem dat_t : Star H (dat v (.tuple ds) :: F) ↔ ∃ a xs, v = .ref a ∧ Star H (fx a (.tup xs) :: dats xs ds :: F) := by
  constructor
  · intro S
    obtain ⟨A1, A2, n, h1, h2⟩ := Star.split.mp S
    have h1 : datP H v (.tuple ds) A1 := h1
    unfold datP at h1
    obtain ⟨a, xs, e1, ha, hs⟩ := h1
    exact ⟨a, xs, e1, _, n, [], A1 ++ A2, rfl, ⟨rfl, ha, True.intro⟩, A1, A2, rfl, hs, h2⟩
  · rintro ⟨a, xs, e1, _, n, _, _, rfl, ⟨rfl, ha, _⟩, A', A2, rfl, hs, h2⟩
    refine Star.split.mpr ⟨A', A2, n, ?_, h2⟩
    show datP H v (.tuple ds) A'
    unfold datP
    exact ⟨a, xs, e1, ha, hs⟩
theorem dat_k {kvs : List (PyData × PyData)} : Star H (dat v (.dict kvs) :: F) ↔ ∃ a ks, v = .ref a ∧ Star H (pt a (.dK ks) :: datk ks kvs :: F) := by
  constructor
  · intro S
    obtain ⟨A1, A2, n, h1, h2⟩ := Star.split.mp S
    have h1 : datP H v (.dict kvs) A1 := h1
    unfold datP at h1
    obtain ⟨a, ks, A', e1, e, ha, hs⟩ := h1
    subst e
    exact ⟨a, ks, e1, _, n, [a], A' ++ A2, rfl, ⟨rfl, ha, id⟩, A', A2, rfl, hs, h2⟩
  · rintro ⟨a, ks, e1, _, n, _, _, rfl, ⟨rfl, ha, _⟩, A', A2, rfl, hs, h2⟩
    refine Star.split.mpr ⟨a :: A', A2, n, ?_, h2⟩
    show datP H v (.dict kvs) (a :: A')
    unfold datP
    exact ⟨a, ks, A', e1, rfl, ha, hs⟩
theorem datk_n {ks : List (Key × V)} : Star H (datk ks [] :: F) ↔ ks = [] ∧ Star H F := dat_of fun A => by show datK H ks [] A ↔ _; unfold datK; exact Iff.rfl
theorem datk_c {ks : List (Key × V)} {p : PyData × PyData} {r : List (PyData × PyData)} : Star H (datk ks (p :: r) :: F) ↔ ∃ k v t, ks = (k, v) :: t ∧ p.1 = kD k ∧ Star H (dat v p.2 :: datk t r :: F) := by
  constructor
  · intro S
    obtain ⟨A1, A2, n, h1, h2⟩ := Star.split.mp S
    have h1 : datK H ks (p :: r) A1 := h1
    unfold datK at h1
    obtain ⟨k, v, t, B1, B2, e1, e2, e, hv, hr⟩ := h1
    subst e
    exact ⟨k, v, t, e1, e2, _, n, B1, B2 ++ A2, by simp, hv, B2, A2, rfl, hr, h2⟩
  · rintro ⟨k, v, t, e1, e2, _, n, B1, _, rfl, hv, B2, A2, rfl, hr, h2⟩
    refine Star.split.mpr ⟨B1 ++ B2, A2, by simpa using n, ?_, h2⟩
    show datK H ks (p :: r) (B1 ++ B2)
    unfold datK
    exact ⟨k, v, t, B1, B2, e1, e2, rfl, hv, hr⟩
theorem dat_d : Star H (dat v (.dict []) :: F) ↔ ∃ a, v = .ref a ∧ Star H (pt a (.dK []) :: F) := by
  rw [dat_k]
  constructor
  · rintro ⟨a, ks, e, S⟩
    obtain ⟨e2, S2⟩ := datk_n.mp S.p1
    subst e2
    exact ⟨a, e, S2⟩
  · rintro ⟨a, e, S⟩
    have T : Star H (datk [] [] :: pt a (.dK []) :: F) := datk_n.mpr ⟨rfl, S⟩
    exact ⟨a, [], e, T.p1⟩
theorem dat_d0 (S : Star H (dat (.ref a) (.dict []) :: F)) : Star H (pt a (.dK []) :: F) := by
  obtain ⟨a', e, S2⟩ := dat_d.mp S
  cases e
  exact S2
theorem dats_n : Star H (dats vs [] :: F) ↔ vs = [] ∧ Star H F := dat_of fun A => by show datA H vs [] A ↔ _; unfold datA; exact Iff.rfl
theorem dats_c : Star H (dats vs (d :: ds) :: F) ↔ ∃ v r, vs = v :: r ∧ Star H (dat v d :: dats r ds :: F) := by
  constructor
  · intro S
    obtain ⟨A1, A2, n, h1, h2⟩ := Star.split.mp S
    have h1 : datA H vs (d :: ds) A1 := h1
    unfold datA at h1
    obtain ⟨v, r, B1, B2, e1, e, hv, hr⟩ := h1
    subst e
    exact ⟨v, r, e1, _, n, B1, B2 ++ A2, by simp, hv, B2, A2, rfl, hr, h2⟩
  · rintro ⟨v, r, e1, _, n, B1, _, rfl, hv, B2, A2, rfl, hr, h2⟩
    refine Star.split.mpr ⟨B1 ++ B2, A2, by simpa using n, ?_, h2⟩
    show datA H vs (d :: ds) (B1 ++ B2)
    unfold datA
    exact ⟨v, r, B1, B2, e1, rfl, hv, hr⟩
theorem dats_len : ∀ {ds : List PyData} {vs : List V} {A : List Addr}, datA H vs ds A → vs.length = ds.length
  | [], vs, A, h => by
    unfold datA at h
    rw [h.2]
    rfl
  | d :: ds, vs, A, h => by
    unfold datA at h
    obtain ⟨v, r, A1, A2, e, _, _, h2⟩ := h
    rw [e, List.length_cons, List.length_cons, dats_len h2]
theorem Star.dlen (S : Star H (dats vs ds :: F)) : vs.length = ds.length := by
  obtain ⟨A1, A2, n, h1, h2⟩ := Star.split.mp S
  exact dats_len h1
/-- the i-th item taken out, put back -/
theorem datA_at {H H' : Hp} : ∀ (i : Nat) {ds : List PyData} {vs : List V} {A : List Addr} {d : PyData}, datA H vs ds A → ds[i]? = some d →
    ∃ v A1 A2 A3, vs[i]? = some v ∧ A = A1 ++ A2 ++ A3 ∧ datP H v d A2 ∧ ∀ H' v' d' B, datP H' v' d' B → Keep H H' → (∀ a ∈ A1 ++ A3, H' a = H a) → datA H' (vs.set i v') (ds.set i d') (A1 ++ B ++ A3)
  | i, [], vs, A, d, h, e => by cases i <;> cases e
  | 0, d0 :: ds, vs, A, d, h, e => by
    cases e
    unfold datA at h
    obtain ⟨v, r, A1, A2, e1, e2, h1, h2⟩ := h
    subst e1 e2
    refine ⟨v, [], A1, A2, rfl, by simp, h1, fun H' v' d' B hB k ha => ?_⟩
    show datA H' (v' :: r) (d' :: ds) ([] ++ B ++ A2)
    unfold datA
    exact ⟨v', r, B, A2, rfl, by simp, hB, datA_st k ds h2 fun a z => ha a (by simp [z])⟩
  | i + 1, d0 :: ds, vs, A, d, h, e => by
    unfold datA at h
    obtain ⟨v, r, A1, A2, e1, e2, h1, h2⟩ := h
    subst e1 e2
    have e' : ds[i]? = some d := by simpa using e
    obtain ⟨w, B1, B2, B3, f1, f2, f3, f4⟩ := datA_at (H' := H') i h2 e'
    subst f2
    refine ⟨w, A1 ++ B1, B2, B3, by simpa using f1, by simp, f3, fun H' v' d' B hB k ha => ?_⟩
    show datA H' (v :: r.set i v') (d0 :: ds.set i d') (A1 ++ B1 ++ B ++ B3)
    unfold datA
    exact ⟨v, _, A1, B1 ++ B ++ B3, rfl, by simp, datP_st k d0 h1 fun a z => ha a (by simp [z]), f4 H' v' d' B hB k fun a z => ha a (by
      rcases List.mem_append.mp z with y | y
      · simp [y]
      · simp [y])⟩
/-- the rest, with a hole at i -/
def hole (vs : List V) (ds : List PyData) (i : Nat) : SP where
  P := fun H A => ∃ A1 A3, A = A1 ++ A3 ∧ (∀ a ∈ A, H a ≠ none ∧ ¬ isFix (H a)) ∧ ∀ H' v' d' B, datP H' v' d' B → Keep H H' → (∀ a ∈ A, H' a = H a) → datA H' (vs.set i v') (ds.set i d') (A1 ++ B ++ A3)
  dom := fun H A ⟨_, _, _, h, _⟩ => h
  st := fun H H' A ⟨A1, A3, e, h, f⟩ k q => ⟨A1, A3, e, fun a ha => by rw [k a ha]; exact h a ha, fun H2 v' d' B hB k2 h2 => f H2 v' d' B hB (q.trans k2) fun a ha => (h2 a ha).trans (k a ha)⟩
theorem Star.take (S : Star H (dats vs ds :: F)) {i : Nat} (e : ds[i]? = some d) : ∃ v, vs[i]? = some v ∧ Star H (dat v d :: hole vs ds i :: F) := by
  obtain ⟨A, A', n, h1, h2⟩ := Star.split.mp S
  obtain ⟨v, A1, A2, A3, e1, e2, h3, h4⟩ := datA_at (H' := H) i h1 e
  subst e2
  have dm : ∀ a ∈ A1 ++ A3, H a ≠ none ∧ ¬ isFix (H a) := fun a ha => datA_dom ds h1 a (by
    rcases List.mem_append.mp ha with y | y
    · simp [y]
    · simp [y])
  have pm : (A1 ++ A2 ++ A3 ++ A').Perm (A2 ++ (A1 ++ A3 ++ A')) := by
    have p1 : (A1 ++ A2).Perm (A2 ++ A1) := List.perm_append_comm
    have p2 := (p1.append_right A3).append_right A'
    simpa [List.append_assoc] using p2
  exact ⟨v, e1, _, pm.nodup_iff.mp n, A2, A1 ++ A3 ++ A', rfl, h3, A1 ++ A3, A', rfl, ⟨A1, A3, rfl, dm, fun H' v' d' B hB k ha => h4 H' v' d' B hB k ha⟩, h2⟩
theorem Star.back {i : Nat} {v' : V} {d' : PyData} (S : Star H (dat v' d' :: hole vs ds i :: F)) : Star H (dats (vs.set i v') (ds.set i d') :: F) := by
  obtain ⟨_, n, A2, _, rfl, h3, _, A', rfl, ⟨A1, A3, rfl, dm, f⟩, h2⟩ := S
  have h := f H v' d' A2 h3 (Keep.refl H) fun _ _ => rfl
  have pm : (A2 ++ (A1 ++ A3 ++ A')).Perm (A1 ++ A2 ++ A3 ++ A') := by
    have p1 : (A2 ++ A1).Perm (A1 ++ A2) := List.perm_append_comm
    have p2 := (p1.append_right A3).append_right A'
    simpa [List.append_assoc] using p2
  exact Star.split.mpr ⟨A1 ++ A2 ++ A3, A', pm.nodup_iff.mp n, h, h2⟩
theorem set_same {α : Type} : ∀ {l : List α} {i : Nat} {x : α}, l[i]? = some x → l.set i x = l
  | [], _, _, h => by simp at h
  | y :: l, 0, x, h => by
    have e : y = x := by simpa using h
    rw [e]
    rfl
  | y :: l, i + 1, x, h => by
    have e : l[i]? = some x := by simpa using h
    show y :: l.set i x = y :: l
    rw [set_same e]
/-- put back as it was -/
theorem Star.back0 {i : Nat} (e1 : vs[i]? = some v) (e2 : ds[i]? = some d) (S : Star H (dat v d :: hole vs ds i :: F)) : Star H (dats vs ds :: F) := by
  have h := S.back
  rw [set_same e1, set_same e2] at h
  exact h
end
mutual
theorem datP_dp {K : PySem.W.Frag} {H : Hp} : ∀ (d : PyData) {v : V} {A : List Addr}, datP H v d A → d.hasDict = false → Dp K H v d
  | .none, _, _, h, _ => by rw [h.2]; exact .non
  | .bool _, _, _, h, _ => by rw [h.2]; exact .bl _
  | .int _, _, _, h, _ => by rw [h.2]; exact .int _
  | .str _, _, _, h, _ => by rw [h.2]; exact .str _
  | .list ds, _, _, ⟨b, xs, A', e1, e, hb, hs⟩, hd => by
    rw [e1]
    exact .lst (SqL.of hb) (datA_dp ds hs (by simpa only [PyData.hasDict] using hd))
  | .tuple ds, _, _, ⟨b, xs, e1, hb, hs⟩, hd => by
    rw [e1]
    exact .tup (SqT.of hb) (datA_dp ds hs (by simpa only [PyData.hasDict] using hd))
  | .dict _, _, _, _, hd => by simp only [PyData.hasDict] at hd; cases hd
theorem datA_dp {K : PySem.W.Frag} {H : Hp} : ∀ (ds : List PyData) {vs : List V} {A : List Addr}, datA H vs ds A → PyData.hasDictAll ds = false → DpAll K H vs ds
  | [], _, _, h, _ => by rw [h.2]; exact .nil
  | d :: ds, _, _, ⟨v, r, A1, A2, e1, e, h1, h2⟩, hd => by
    rw [e1]
    simp only [PyData.hasDictAll, Bool.or_eq_false_iff] at hd
    exact .cons (datP_dp d h1 hd.1) (datA_dp ds h2 hd.2)
end
mutual
theorem datP_rp {K : PySem.W.Frag} {H : Hp} : ∀ (d : PyData) {v : V} {A : List Addr}, datP H v d A → Rp K H v d
  | .none, _, _, h => h.2
  | .bool _, _, _, h => h.2
  | .int _, _, _, h => h.2
  | .str _, _, _, h => h.2
  | .list ds, _, _, ⟨b, xs, A', e1, e, hb, hs⟩ => ⟨b, xs, e1, SqL.of hb, datA_rp ds hs⟩
  | .tuple ds, _, _, ⟨b, xs, e1, hb, hs⟩ => ⟨b, xs, e1, SqT.of hb, datA_rp ds hs⟩
  | .dict kvs, _, _, ⟨b, ks, A', e1, e, hb, hs⟩ => ⟨b, ks, e1, hb, datK_rp kvs hs⟩
theorem datA_rp {K : PySem.W.Frag} {H : Hp} : ∀ (ds : List PyData) {vs : List V} {A : List Addr}, datA H vs ds A → RpA K H vs ds
  | [], _, _, h => h.2
  | d :: ds, _, _, ⟨v, r, A1, A2, e1, e, h1, h2⟩ => ⟨v, r, e1, datP_rp d h1, datA_rp ds h2⟩
theorem datK_rp {K : PySem.W.Frag} {H : Hp} : ∀ (kvs : List (PyData × PyData)) {ks : List (Key × V)} {A : List Addr}, datK H ks kvs A → RpK K H ks kvs
  | [], _, _, h => h.2
  | p :: r, _, _, ⟨k, v, t, A1, A2, e1, e2, e, h1, h2⟩ => ⟨k, v, t, e1, e2, datP_rp p.2 h1, datK_rp r h2⟩
end
section
variable {K : PySem.W.Frag} {H : Hp} {F : List SP} {v u : V} {d e : PyData} {Q : VK}
theorem Star.dp (S : Star H (dat v d :: F)) (h : d.hasDict = false) : Dp K H v d := by
  obtain ⟨A1, A2, n, h1, h2⟩ := Star.split.mp S
  exact datP_dp d h1 h
/-- repr of data -/
theorem repr_D (S : Star H (dat v d :: F)) (ok : RepOk d) (q : Q (.str d.shown) H) : reprX K v H Q := by
  obtain ⟨A1, A2, n, h1, h2⟩ := Star.split.mp S
  exact repr_d (datP_rp d h1) ok q
end
end MK

namespace MK
open PySem PySem.Spec PyProof.Rows L2

/-! ### comprehensions whose element and test leave all as it is -/
section
variable {K : PySem.W.Frag} {H : Hp} {J : It} {G : Hp → Prop} {xs : List V} {te : TE} {tt : TT} {vs : List Nat} {σ : L2.St} {D : Addr} {Q : VK} {ps : List SP} {f : Nat → V} {p : Nat → Bool}
theorem ranges_succ (i : Nat) : List.range (i + 1) = List.range i ++ [i] := List.range_succ
theorem fm_len (f : Nat → V) (p : Nat → Bool) (i : Nat) : (((List.range i).filter p).map f).length ≤ i := by
  rw [List.length_map]
  exact Nat.le_trans (List.length_filter_le _ _) (by rw [List.length_range]; exact Nat.le_refl _)
theorem lc_filter {g : TG} (gx : V → L2.St) (hg : ∀ x H Q, Q (gx x) H → g x (wipe σ vs) H Q) (w : Walk J xs.length G (YAt xs)) (hz : xs.length ≤ 16777216) (hn : H D = none) (S : Star H ps) (hG : ∀ H1 acc, Star H1 (pt D (.lst acc) :: ps) → G H1) (hw : ∀ x, wipe (gx x) vs = wipe σ vs)
    (ht : ∀ i x H1 acc (R : Bool → Hp → Prop), xs[i]? = some x → Star H1 (pt D (.lst acc) :: ps) → (∀ H2, Star H2 (pt D (.lst acc) :: ps) → R (p i) H2) → tt (gx x) H1 R)
    (he : ∀ i x H1 acc (R : VK), xs[i]? = some x → p i = true → Star H1 (pt D (.lst acc) :: ps) → (∀ H2, Star H2 (pt D (.lst acc) :: ps) → R (f i) H2) → te (gx x) H1 R)
    (q : ∀ H1, Star H1 (pt D (.lst (((List.range xs.length).filter p).map f)) :: ps) → Q (.ref D) H1) : LoopC J g tt te vs σ D H Q := by
  refine LoopC.it w (fun i H1 => Star H1 (pt D (.lst (((List.range i).filter p).map f)) :: ps)) (S.newL hn) (fun i H1 _ S1 => hG _ _ S1) ?_ (fun H1 S1 => q H1 S1)
  rintro i x H1 H2 hi S1 ⟨rfl, hx⟩
  refine hg _ _ _ ⟨hw x, ht i x _ _ _ hx S1 fun H3 S3 => ?_⟩
  cases hp : p i with
  | false =>
    rw [if_neg Bool.false_ne_true, ranges_succ, List.filter_append, List.filter_cons_of_neg (by simp [hp]), List.filter_nil, List.append_nil]
    exact S3
  | true =>
    rw [if_pos rfl]
    refine he i x _ _ _ hx hp S3 fun H4 S4 => ⟨_, S4.get, ?_, ?_⟩
    · have h1 := fm_len f p i
      rw [sizeLine_eq]
      omega
    · rw [ranges_succ, List.filter_append, List.filter_cons_of_pos hp, List.filter_nil, List.map_append, List.map_cons, List.map_nil]
      exact S4.updL
theorem filt_true {α : Type} (l : List α) : l.filter (fun _ => true) = l := List.filter_eq_self.mpr fun _ _ => rfl
theorem lc_map {g : TG} (gx : V → L2.St) (hg : ∀ x H Q, Q (gx x) H → g x (wipe σ vs) H Q) (w : Walk J xs.length G (YAt xs)) (hz : xs.length ≤ 16777216) (hn : H D = none) (S : Star H ps) (hG : ∀ H1 acc, Star H1 (pt D (.lst acc) :: ps) → G H1) (hw : ∀ x, wipe (gx x) vs = wipe σ vs)
    (he : ∀ i x H1 acc (R : VK), xs[i]? = some x → Star H1 (pt D (.lst acc) :: ps) → (∀ H2, Star H2 (pt D (.lst acc) :: ps) → R (f i) H2) → te (gx x) H1 R)
    (q : ∀ H1, Star H1 (pt D (.lst ((List.range xs.length).map f)) :: ps) → Q (.ref D) H1) : LoopC J g tYes te vs σ D H Q :=
  lc_filter (p := fun _ => true) gx hg w hz hn S hG hw (fun i x H1 acc R _ S1 k => k H1 S1) (fun i x H1 acc R hx _ S1 k => he i x H1 acc R hx S1 k) (by rw [filt_true]; exact q)
theorem walk_rng {lo : Int} {n : Nat} : Walk (Itr lo n) ((List.range n).map fun i => V.int (lo + (i : Nat))).length (fun _ => True) (YAt ((List.range n).map fun i => V.int (lo + (i : Nat)))) := by
  rw [List.length_map, List.length_range]
  refine walk_range.mono (fun _ h => h) ?_
  rintro i H x H' hi _ ⟨e1, e2⟩
  refine ⟨e1, ?_⟩
  rw [List.getElem?_map, List.getElem?_range hi]
  exact congrArg some e2.symm
/-- a comprehension whose turns change what holds, told by the turn and the list so far -/
theorem lc_turns {g : TG} (gx : V → L2.St) (hg : ∀ x H Q, Q (gx x) H → g x (wipe σ vs) H Q) (w : Walk J xs.length G (YAt xs)) (hz : xs.length ≤ 16777216) (hn : H D = none) (ps : Nat → List V → List SP) (S : Star H (ps 0 []))
    (hG : ∀ i acc H1, Star H1 (pt D (.lst acc) :: ps i acc) → G H1) (hw : ∀ x, wipe (gx x) vs = wipe σ vs)
    (he : ∀ i x H1 acc (R : VK), xs[i]? = some x → acc.length = i → Star H1 (pt D (.lst acc) :: ps i acc) → (∀ y H2, Star H2 (pt D (.lst acc) :: ps (i + 1) (acc ++ [y])) → R y H2) → te (gx x) H1 R)
    (q : ∀ H1 acc, acc.length = xs.length → Star H1 (pt D (.lst acc) :: ps xs.length acc) → Q (.ref D) H1) : LoopC J g tYes te vs σ D H Q := by
  refine LoopC.it w (fun i H1 => ∃ acc, acc.length = i ∧ Star H1 (pt D (.lst acc) :: ps i acc)) ⟨[], rfl, S.newL hn⟩ (fun i H1 _ ⟨acc, _, h⟩ => hG _ _ _ h) ?_ (fun H1 ⟨acc, h1, h2⟩ => q H1 acc h1 h2)
  rintro i x H1 H2 hi ⟨acc, ha, h1⟩ ⟨rfl, hx⟩
  refine hg _ _ _ ⟨hw x, ?_⟩
  unfold tYes
  show (if true = true then te (gx x) _ _ else _)
  rw [if_pos rfl]
  refine he i x _ acc _ hx ha h1 fun y H4 S4 => ⟨acc, S4.get, ?_, acc ++ [y], by simp [ha], S4.updL⟩
  rw [sizeLine_eq]
  omega
end
theorem all_no {α : Type} {ds : List α} {i : Nat} {e : α} {f : α → Bool} (he : ds[i]? = some e) (h : f e = false) : ds.all f = false := by
  cases z : ds.all f with
  | false => rfl
  | true =>
    have := List.all_eq_true.mp z e (List.mem_of_getElem? he)
    rw [h] at this
    cases this
theorem all_yes {α : Type} {ds : List α} {f : α → Bool} (h : ∀ (i : Nat) (x : α), ds[i]? = some x → f x = true) : ds.all f = true := by
  refine List.all_eq_true.mpr fun x hx => ?_
  obtain ⟨i, hi, e⟩ := List.mem_iff_getElem.mp hx
  exact h i x (by rw [List.getElem?_eq_getElem hi, e])
theorem all_map {n : Nat} (f : Nat → Bool) : (((List.range n).map f).map V.bl) = (List.range n).map fun i => V.bl (f i) := by rw [List.map_map]; rfl
theorem all_range {α : Type} (xs : List α) (f : Nat → Bool) (g : α → Bool) (h : ∀ i x, xs[i]? = some x → f i = g x) : ((List.range xs.length).map f).all id = xs.all g := by
  rw [List.all_map]
  rw [Bool.eq_iff_iff, List.all_eq_true, List.all_eq_true]
  constructor
  · intro z x hx
    obtain ⟨i, hi, e⟩ := List.mem_iff_getElem.mp hx
    have := z i (List.mem_range.mpr hi)
    rw [← h i x (by rw [List.getElem?_eq_getElem hi, e])]
    exact this
  · intro z i hi
    have hi' := List.mem_range.mp hi
    show id (f i) = true
    rw [h i _ (List.getElem?_eq_getElem hi')]
    exact z _ (List.getElem_mem hi')
end MK

namespace MK
open PySem PySem.Spec PyProof.Rows L2

/-! ### data whose text is short -/
structure Ni (n m : Nat) (d : PyData) : Prop where
  sh : d.showable = true
  dp : d.depth ≤ n
  sm : d.leavesShort 64 = true
  bk : d.bulk ≤ m
theorem Ni.mono {n m n' m' : Nat} {d : PyData} (h : Ni n m d) (a : n ≤ n') (b : m ≤ m') : Ni n' m' d := ⟨h.sh, Nat.le_trans h.dp a, h.sm, Nat.le_trans h.bk b⟩
theorem Ni.rep {n m : Nat} {d : PyData} (h : Ni n m d) (a : n ≤ 60 := by decide) (b : m ≤ 200000 := by decide) : RepOk d := ⟨h.sh, Nat.le_trans h.dp a, h.sm, Nat.le_trans h.bk b⟩
/-- data without dicts, which == goes over -/
def Pl (d : PyData) : Prop := d.canLay0 = true
theorem Pl.nd {d : PyData} (h : Pl d) : d.hasDict = false := PyData.hasDict_of_canLay d h
theorem Ni.shd {n m : Nat} {d : PyData} (h : Ni n m d) (p : Pl d) (a : n ≤ 64 := by decide) : SeqAt.shaped d = true := by
  have z : (d.canLay0 && decide (d.depth ≤ 64)) = true := by rw [show d.canLay0 = true from p, Bool.true_and, decide_eq_true_eq]; exact Nat.le_trans h.dp a
  exact z
theorem pl_all : ∀ {ds : List PyData}, (∀ d ∈ ds, Pl d) → PyData.canLayAll0 ds = true
  | [], _ => rfl
  | d :: ds, h => by
    have a : d.canLay0 = true := h d List.mem_cons_self
    simp only [PyData.canLayAll0, a, pl_all (ds := ds) fun x hx => h x (List.mem_cons_of_mem _ hx), Bool.and_self]
theorem pl_l {ds : List PyData} (h : ∀ d ∈ ds, Pl d) : Pl (.list ds) := by
  show PyData.canLay0 (.list ds) = true
  simp only [PyData.canLay0, pl_all h]
theorem pl_t {ds : List PyData} (h : ∀ d ∈ ds, Pl d) : Pl (.tuple ds) := by
  show PyData.canLay0 (.tuple ds) = true
  simp only [PyData.canLay0, pl_all h]
theorem ni_n {n m : Nat} : Ni n m .none := ⟨rfl, Nat.zero_le _, rfl, Nat.zero_le _⟩
theorem ni_b {n m : Nat} (b : Bool) : Ni n m (.bool b) := ⟨rfl, Nat.zero_le _, rfl, Nat.zero_le _⟩
theorem ten60 : (10 : Nat) ^ 60 < 2 ^ 1920 := by
  have h : (10 : Nat) ^ 60 < 2 ^ 200 := by decide
  exact Nat.lt_of_lt_of_le h (Nat.pow_le_pow_right (by decide) (by decide))
theorem ni_i {n m : Nat} {i : Int} (h : -1000000000000000000000000000000000000000000000000000000000000 < i ∧ i < 1000000000000000000000000000000000000000000000000000000000000) : Ni n m (.int i) := by
  have e : i.natAbs < 10 ^ 60 := by
    have e60 : (10 : Nat) ^ 60 = 1000000000000000000000000000000000000000000000000000000000000 := by decide
    rw [e60]
    omega
  refine ⟨?_, Nat.zero_le _, ?_, Nat.zero_le _⟩
  · simp only [PyData.showable, decide_eq_true_eq]
    by_cases z : i.natAbs = 0
    · rw [z]
      decide
    · exact (Nat.log2_lt z).mpr (Nat.lt_trans e ten60)
  · simp only [PyData.leavesShort, decide_eq_true_eq]
    have e2 := int_text_length_le10 (k := 60) (by decide) e
    show (Str.ofString (toString i)).length ≤ 64
    rw [PySem.ofString_length]
    omega
theorem ni_s {n m : Nat} {x : Str} (h : PyData.canLay0 (.str x) = true) (h2 : x.cps.size ≤ m) : Ni n m (.str x) :=
  ⟨rfl, Nat.zero_le _, PyData.leavesShort_of_canLay0 64 _ h rfl, by simpa only [PyData.bulk] using h2⟩
theorem ni_all {n m : Nat} : ∀ {ds : List PyData}, (∀ d ∈ ds, Ni n m d) → PyData.showableAll ds = true ∧ PyData.depthAll ds ≤ n ∧ PyData.leavesShortAll 64 ds = true ∧ PyData.bulkAll ds ≤ ds.length * (m + 1)
  | [], _ => ⟨rfl, Nat.zero_le _, rfl, Nat.zero_le _⟩
  | d :: ds, h => by
    obtain ⟨a1, a3, a4, a5⟩ := ni_all (ds := ds) fun x hx => h x (List.mem_cons_of_mem _ hx)
    have z := h d List.mem_cons_self
    refine ⟨?_, ?_, ?_, ?_⟩
    · simp only [PyData.showableAll, z.sh, a1, Bool.and_self]
    · simp only [PyData.depthAll]
      exact Nat.max_le.mpr ⟨z.dp, a3⟩
    · simp only [PyData.leavesShortAll, z.sm, a4, Bool.and_self]
    · simp only [PyData.bulkAll, List.length_cons, Nat.add_mul]
      have := z.bk
      omega
theorem ni_l {n m n' m' : Nat} {ds : List PyData} (h : ∀ d ∈ ds, Ni n m d) (e : n + 1 ≤ n') (z : ds.length * (m + 1) ≤ m') : Ni n' m' (.list ds) := by
  obtain ⟨a1, a3, a4, a5⟩ := ni_all h
  exact ⟨by simpa only [PyData.showable] using a1, by simp only [PyData.depth]; omega, by simpa only [PyData.leavesShort] using a4, by simp only [PyData.bulk]; omega⟩
theorem ni_t {n m n' m' : Nat} {ds : List PyData} (h : ∀ d ∈ ds, Ni n m d) (e : n + 1 ≤ n') (z : ds.length * (m + 1) ≤ m') : Ni n' m' (.tuple ds) := by
  obtain ⟨a1, a3, a4, a5⟩ := ni_all h
  exact ⟨by simpa only [PyData.showable] using a1, by simp only [PyData.depth]; omega, by simpa only [PyData.leavesShort] using a4, by simp only [PyData.bulk]; omega⟩
theorem fa0 {P : PyData → Prop} : ∀ d ∈ ([] : List PyData), P d := fun d h => by cases h
theorem fa1 {P : PyData → Prop} {x : PyData} {xs : List PyData} (h : P x) (t : ∀ d ∈ xs, P d) : ∀ d ∈ x :: xs, P d := fun d hd => by
  rcases List.mem_cons.mp hd with e | e
  · rw [e]
    exact h
  · exact t d e
/-- one of the items, which we are not told -/
theorem ix_m {K : PySem.W.Frag} {H : Hp} {Q : VK} {a : Addr} {xs : List V} {i : Int} (h : H a = some (.lst xs)) (h0 : 0 ≤ i) (h1 : i < (xs.length : Nat)) (q : ∀ v, v ∈ xs → Q v H) : ixX K (.ref a) (.int i) H Q := by
  obtain ⟨j, rfl⟩ := Int.eq_ofNat_of_zero_le h0
  have hj : j < xs.length := by omega
  exact ix_l h (atI_nat (List.getElem?_eq_getElem hj)) (q _ (List.getElem_mem hj))
theorem ix_n {K : PySem.W.Frag} {H : Hp} {Q : VK} {a : Addr} {xs : List V} {i : Int} (h : H a = some (.lst xs)) (h0 : 0 ≤ i) (h1 : i < (xs.length : Nat)) (q : ∀ (j : Nat) v, i = j → xs[j]? = some v → Q v H) : ixX K (.ref a) (.int i) H Q := by
  obtain ⟨j, rfl⟩ := Int.eq_ofNat_of_zero_le h0
  have hj : j < xs.length := by omega
  exact ix_l h (atI_nat (List.getElem?_eq_getElem hj)) (q j _ rfl (List.getElem?_eq_getElem hj))
end MK

namespace MK
open PySem PySem.Spec PyProof.Rows L2

/-! ### what is held, in another order, some of it let go -/
def Fr (ps qs : List SP) : Prop := ∀ H, Star H ps → Star H qs
section
variable {H : Hp} {ps qs : List SP} {a b c d e f g h i j k p q : SP}
theorem Star.fr (S : Star H ps) (h : Fr ps qs) : Star H qs := h H S
theorem Fr.refl (ps : List SP) : Fr ps ps := fun _ S => S
theorem Fr.nil (ps : List SP) : Fr ps [] := fun H _ => Star.nil H
theorem Fr.drop (h : Fr ps qs) : Fr (p :: ps) qs := fun H S => h H S.tail
theorem Fr.c0 (h : Fr ps qs) : Fr (q :: ps) (q :: qs) := fun H S => by
  classical
  obtain ⟨A1, A2, n, h1, h2⟩ := Star.split.mp S
  obtain ⟨B, nb, hb⟩ := h H ⟨A2, (List.nodup_append.mp n).2.1, h2⟩
  -- the rest may let go of some: what stays is told by the heap cut to A2
  let H' : Hp := fun x => if x ∈ A1 ∧ ¬ isFix (H x) then none else H x
  have keep : Keep H H' := fun x hx => if_neg fun z => z.2 hx
  have h2' : SL H' ps A2 := h2.st keep fun x hx => if_neg fun z => (List.nodup_append.mp n).2.2 x z.1 x hx rfl
  obtain ⟨C, nc, hc⟩ := h H' ⟨A2, (List.nodup_append.mp n).2.1, h2'⟩
  have dis : ∀ x ∈ A1, x ∉ C := fun x hx hC => (hc.dom x hC).1 (if_pos ⟨hx, (q.dom _ _ h1 x hx).2⟩)
  have back : Keep H' H := fun x hx => by
    by_cases z : x ∈ A1 ∧ ¬ isFix (H x)
    · have e : H' x = none := if_pos z
      rw [e] at hx
      exact hx.elim
    · exact (if_neg z).symm
  have hc2 : SL H qs C := hc.st back fun x hx => by
    have : ¬ (x ∈ A1 ∧ ¬ isFix (H x)) := fun z => dis x z.1 hx
    exact (if_neg this).symm
  exact Star.split.mpr ⟨A1, C, List.nodup_append.mpr ⟨(List.nodup_append.mp n).1, nc, fun x hx y hy e => dis x hx (e ▸ hy)⟩, h1, hc2⟩
theorem Fr.c1 (h : Fr (a :: ps) qs) : Fr (a :: q :: ps) (q :: qs) := fun H S => Fr.c0 h H S.p1
theorem Fr.c2 (h : Fr (a :: b :: ps) qs) : Fr (a :: b :: q :: ps) (q :: qs) := fun H S => Fr.c0 h H S.p2
theorem Fr.c3 (h : Fr (a :: b :: c :: ps) qs) : Fr (a :: b :: c :: q :: ps) (q :: qs) := fun H S => Fr.c0 h H S.p3
theorem Fr.c4 (h : Fr (a :: b :: c :: d :: ps) qs) : Fr (a :: b :: c :: d :: q :: ps) (q :: qs) := fun H S => Fr.c0 h H S.p4
theorem Fr.c5 (h : Fr (a :: b :: c :: d :: e :: ps) qs) : Fr (a :: b :: c :: d :: e :: q :: ps) (q :: qs) := fun H S => Fr.c0 h H S.p5
theorem Fr.c6 (h : Fr (a :: b :: c :: d :: e :: f :: ps) qs) : Fr (a :: b :: c :: d :: e :: f :: q :: ps) (q :: qs) := fun H S => Fr.c0 h H S.p6
theorem Fr.c7 (h : Fr (a :: b :: c :: d :: e :: f :: g :: ps) qs) : Fr (a :: b :: c :: d :: e :: f :: g :: q :: ps) (q :: qs) := fun H S => Fr.c0 h H S.p7
theorem Fr.c8 (w : Fr (a :: b :: c :: d :: e :: f :: g :: h :: ps) qs) : Fr (a :: b :: c :: d :: e :: f :: g :: h :: q :: ps) (q :: qs) := fun H S => Fr.c0 w H S.p8
theorem Fr.c9 (w : Fr (a :: b :: c :: d :: e :: f :: g :: h :: i :: ps) qs) : Fr (a :: b :: c :: d :: e :: f :: g :: h :: i :: q :: ps) (q :: qs) := fun H S => Fr.c0 w H S.p9
theorem Fr.ca (w : Fr (a :: b :: c :: d :: e :: f :: g :: h :: i :: j :: ps) qs) : Fr (a :: b :: c :: d :: e :: f :: g :: h :: i :: j :: q :: ps) (q :: qs) := fun H S => Fr.c0 w H (Star.up (n := [a, b, c, d, e, f, g, h, i, j]) S)
theorem Fr.cb (w : Fr (a :: b :: c :: d :: e :: f :: g :: h :: i :: j :: k :: ps) qs) : Fr (a :: b :: c :: d :: e :: f :: g :: h :: i :: j :: k :: q :: ps) (q :: qs) := fun H S => Fr.c0 w H (Star.up (n := [a, b, c, d, e, f, g, h, i, j, k]) S)
end
/-- what holds between two statements -/
theorem seq_cut {a r : TS} {D : Ends} {σ : L2.St} {H : Hp} (P : L2.St → Hp → Prop) (ha : (∀ σ H, P σ H → r D σ H) → a { D with nx := r D } σ H) (hr : ∀ σ H, P σ H → r D σ H) : tSeq a r D σ H := ha hr
/-! data put together -/
section
variable {H : Hp} {ps qs F : List SP} {xs : List V} {ds : List PyData} {v : V} {d : PyData} {i : Int} {t : Addr} {b : Bool} {s : Str} {r : SP}
theorem Fr.trans {a b c : List SP} (h : Fr a b) (h2 : Fr b c) : Fr a c := fun H S => h2 H (h H S)
theorem Fr.tup (h : Fr ps (fx t (.tup xs) :: dats xs ds :: qs)) : Fr ps (dat (.ref t) (.tuple ds) :: qs) := fun H S => dat_t.mpr ⟨t, xs, rfl, h H S⟩
theorem Fr.lst (h : Fr ps (pt t (.lst xs) :: dats xs ds :: qs)) : Fr ps (dat (.ref t) (.list ds) :: qs) := fun H S => dat_l.mpr ⟨t, xs, rfl, h H S⟩
theorem Fr.dct (h : Fr ps (pt t (.dK []) :: qs)) : Fr ps (dat (.ref t) (.dict []) :: qs) := fun H S => dat_d.mpr ⟨t, rfl, h H S⟩
theorem Fr.dk {ks : List (Key × V)} {kvs : List (PyData × PyData)} (h : Fr ps (pt t (.dK ks) :: datk ks kvs :: qs)) : Fr ps (dat (.ref t) (.dict kvs) :: qs) := fun H S => dat_k.mpr ⟨t, ks, rfl, h H S⟩
theorem Fr.dk0 (h : Fr ps qs) : Fr ps (datk [] [] :: qs) := fun H S => datk_n.mpr ⟨rfl, h H S⟩
theorem Fr.dkc {k : Key} {ks : List (Key × V)} {kvs : List (PyData × PyData)} (h : Fr ps (dat v d :: datk ks kvs :: qs)) : Fr ps (datk ((k, v) :: ks) ((kD k, d) :: kvs) :: qs) := fun H S => datk_c.mpr ⟨k, v, ks, rfl, rfl, h H S⟩
theorem Fr.int (h : Fr ps qs) : Fr ps (dat (.int i) (.int i) :: qs) := fun H S => dat_i.mpr ⟨rfl, h H S⟩
theorem Fr.bl (h : Fr ps qs) : Fr ps (dat (.bl b) (.bool b) :: qs) := fun H S => dat_b.mpr ⟨rfl, h H S⟩
theorem Fr.non (h : Fr ps qs) : Fr ps (dat .non .none :: qs) := fun H S => dat_n.mpr ⟨rfl, h H S⟩
theorem Fr.str (h : Fr ps qs) : Fr ps (dat (.str s) (.str s) :: qs) := fun H S => dat_s.mpr ⟨rfl, h H S⟩
theorem Fr.ds0 (h : Fr ps qs) : Fr ps (dats [] [] :: qs) := fun H S => dats_n.mpr ⟨rfl, h H S⟩
theorem Fr.dsc (h : Fr ps (dat v d :: dats xs ds :: qs)) : Fr ps (dats (v :: xs) (d :: ds) :: qs) := fun H S => dats_c.mpr ⟨v, xs, rfl, h H S⟩
theorem Star.snoc : ∀ {ds : List PyData} {xs : List V} {F : List SP}, Star H (dats xs ds :: dat v d :: F) → Star H (dats (xs ++ [v]) (ds ++ [d]) :: F)
  | [], xs, F, S => by
    obtain ⟨e, S1⟩ := dats_n.mp S
    subst e
    exact dats_c.mpr ⟨v, [], rfl, Star.fr S1 (Fr.c0 (Fr.ds0 (Fr.refl _)))⟩
  | e :: ds, xs, F, S => by
    obtain ⟨x, r, q, S1⟩ := dats_c.mp S
    subst q
    have T : Star H (dats r ds :: dat v d :: dat x e :: F) := S1.fr (Fr.c1 (Fr.c1 (Fr.refl _)))
    exact dats_c.mpr ⟨x, r ++ [v], rfl, (Star.snoc T).p1⟩
theorem ixN_n {n j : Nat} (hj : j < n) : ixN n (j : Int) = some j := by
  unfold ixN
  rw [if_pos (by omega), if_pos (by omega)]
  rfl
/-- is it one of the items: whatever holds of all holds of it -/
theorem mem_get {α : Type} {xs : List α} {i : Nat} {x : α} (h : xs[i]? = some x) : x ∈ xs := List.mem_of_getElem? h
theorem mem_set {α : Type} {xs : List α} {i : Nat} {x y : α} (h : y ∈ xs.set i x) : y ∈ xs ∨ y = x := List.mem_or_eq_of_mem_set h
end
end MK

namespace MK
open PySem PySem.Spec PyProof.Rows L2

/-! ### a list or a tuple -/
def sq : Bool → Addr → List V → SP
  | true, a, xs => pt a (.lst xs)
  | false, a, xs => fx a (.tup xs)
def mkd : Bool → List PyData → PyData
  | true, ds => .list ds
  | false, ds => .tuple ds
def SqB (K : PySem.W.Frag) : Bool → Hp → Addr → List V → Prop
  | true, H, a, xs => SqL K H a xs
  | false, H, a, xs => SqT K H a xs
section
variable {K : PySem.W.Frag} {H : Hp} {F ps : List SP} {v : V} {b : Bool} {a : Addr} {xs : List V} {ds : List PyData} {Q : VK} {i : Int} {R : It → Hp → Prop}
theorem dat_sq : Star H (dat v (mkd b ds) :: F) ↔ ∃ a xs, v = .ref a ∧ Star H (sq b a xs :: dats xs ds :: F) := by
  cases b with
  | true => exact dat_l
  | false => exact dat_t
theorem Star.sqb (S : Star H (sq b a xs :: F)) : SqB K b H a xs := by
  cases b with
  | true => exact .of S.get
  | false => exact .of S.getF
theorem Star.len_sq (S : Star H (sq b a xs :: F)) (q : Q (.int (xs.length : Int)) H) : lenX K (.ref a) H Q := by
  cases b with
  | true => exact len_l S.get q
  | false => exact len_t S.getF q
theorem Star.ix_sq (S : Star H (sq b a xs :: F)) (e : atI xs i = some v) (q : Q v H) : ixX K (.ref a) (.int i) H Q := by
  cases b with
  | true => exact ix_l S.get e q
  | false => exact ix_t S.getF e q
def tyB (b : Bool) : Ty := cond b .list .tuple
theorem Star.isi_sq {T : List Ty} (S : Star H (sq b a xs :: F)) (q : Q (.bl (T.any fun u => (tyB b).is u)) H) : isiX K T (.ref a) H Q := by
  cases b with
  | true => exact isi_l S.get q
  | false => exact isi_t S.getF q
theorem Star.isi_sq2 (S : Star H (sq b a xs :: F)) (q : Q (.bl true) H) : isiX K [.list, .tuple] (.ref a) H Q := by
  cases b with
  | true => exact isi_l S.get q
  | false => exact isi_t S.getF q
theorem walk_sq : ∀ b : Bool, ∃ J, Walk J xs.length (fun H => SqB K b H a xs) (YAt xs) ∧ ∀ H R ps, Star H (sq b a xs :: ps) → R J H → iterX K (.ref a) H R
  | true => ⟨Itl K a, walk_list, fun H R ps S q => it_l S.get q⟩
  | false => ⟨Itt K a, walk_tup, fun H R ps S q => it_t S.getF q⟩
theorem Star.it_sq (S : Star H (sq b a xs :: F)) (q : ∀ J, Walk J xs.length (fun H => SqB K b H a xs) (YAt xs) → R J H) : iterX K (.ref a) H R := by
  obtain ⟨J, w, h⟩ := walk_sq (K := K) (a := a) (xs := xs) b
  exact h _ _ _ S (q J w)
theorem get_of {i : Nat} (h : i < ds.length) : ∃ d, ds[i]? = some d := ⟨_, List.getElem?_eq_getElem h⟩
theorem Fr.sqt {qs : List SP} {t : Addr} (h : Fr ps (fx t (.tup xs) :: qs)) : Fr ps (sq false t xs :: qs) := h
theorem Fr.sql {qs : List SP} {t : Addr} (h : Fr ps (pt t (.lst xs) :: qs)) : Fr ps (sq true t xs :: qs) := h
/-- [f(x) for x in xs], f a truth that leaves all as it is -/
theorem lc_bools {g : TG} {te : TE} {vs : List Nat} {σ : L2.St} (gx : V → L2.St) (f : PyData → Bool) (hg : ∀ x H Q, Q (gx x) H → g x (wipe σ vs) H Q) (hz : ds.length ≤ 16777216) (S : Star H (sq b a xs :: dats xs ds :: F)) (hw : ∀ x, wipe (gx x) vs = wipe σ vs)
    (he : ∀ (i : Nat) x d H1 D acc (R : VK), ds[i]? = some d → Star H1 (dat x d :: hole xs ds i :: pt D (.lst acc) :: sq b a xs :: F) → R (.bl (f d)) H1 → te (gx x) H1 R)
    (q : ∀ D H1, Star H1 (pt D (.lst ((ds.map f).map V.bl)) :: sq b a xs :: dats xs ds :: F) → Q (.ref D) H1) :
    iterX K (.ref a) H fun J H1 => ∀ D, H1 D = none → LoopC J g tYes te vs σ D H1 Q := by
  refine S.it_sq fun J w => ?_
  intro D hD
  have hl : xs.length = ds.length := S.p1.dlen
  refine lc_map (f := fun i => .bl (ds[i]?.elim false f)) gx hg w (by omega) hD S (fun H1 acc T => T.p1.sqb) hw ?_ ?_
  · intro i x H1 acc R hx T r
    obtain ⟨d, hd⟩ := get_of (i := i) (ds := ds) (by have := (List.getElem?_eq_some_iff.mp hx).1; omega)
    obtain ⟨v', hv, T2⟩ := T.p2.take hd
    have e2 : v' = x := by rw [hx] at hv; cases hv; rfl
    subst e2
    refine he i v' d H1 D acc R hd T2 ?_
    have r2 := r _ T
    rw [hd] at r2
    exact r2
  · intro H1 T
    refine q D H1 ?_
    have e : (List.range xs.length).map (fun i => V.bl (ds[i]?.elim false f)) = (ds.map f).map V.bl := by
      rw [hl, List.map_map]
      refine List.ext_getElem? fun j => ?_
      rw [List.getElem?_map, List.getElem?_map]
      by_cases hj : j < ds.length
      · rw [List.getElem?_range hj, List.getElem?_eq_getElem hj]
        show some (V.bl (ds[j]?.elim false f)) = _
        rw [List.getElem?_eq_getElem hj]
        rfl
      · rw [List.getElem?_eq_none (by rw [List.length_range]; omega), List.getElem?_eq_none (by omega)]
        rfl
    rw [e] at T
    exact T
/-- a list under way: so many items, each so -/
def plist (P : PyData → Prop) (acc : List V) (i : Nat) : SP := ex fun ds : List PyData => sep [pr (ds.length = i ∧ ∀ d ∈ ds, P d), dats acc ds]
theorem plist_iff {P : PyData → Prop} {acc : List V} {i : Nat} : Star H (plist P acc i :: F) ↔ ∃ ds : List PyData, (ds.length = i ∧ ∀ d ∈ ds, P d) ∧ Star H (dats acc ds :: F) := by
  unfold plist
  simp only [Star.ex_iff, Star.sep_iff, List.cons_append, List.nil_append, Star.pr_iff]
theorem plist0 {P : PyData → Prop} (S : Star H F) : Star H (plist P [] 0 :: F) := plist_iff.mpr ⟨[], ⟨rfl, fun d h => absurd h List.not_mem_nil⟩, dats_n.mpr ⟨rfl, S⟩⟩
theorem Star.psnoc {P : PyData → Prop} {acc : List V} {n : Nat} {d : PyData} (S : Star H (plist P acc n :: dat v d :: F)) (hd : P d) : Star H (plist P (acc ++ [v]) (n + 1) :: F) := by
  obtain ⟨ds, ⟨g1, g2⟩, S⟩ := plist_iff.mp S
  refine plist_iff.mpr ⟨ds ++ [d], ⟨by simp [g1], fun e he => ?_⟩, S.snoc⟩
  rcases List.mem_append.mp he with z | z
  · exact g2 e z
  · rw [List.mem_singleton.mp z]
    exact hd
theorem Star.pint {P : PyData → Prop} {acc : List V} {n : Nat} {i : Int} (S : Star H (plist P acc n :: F)) (hd : P (.int i)) : Star H (plist P (acc ++ [.int i]) (n + 1) :: F) :=
  Star.psnoc (S.fr (Fr.c0 (Fr.int (Fr.refl _)))) hd
theorem ni_d {n m : Nat} : Ni (n + 1) m (.dict []) := ⟨rfl, by show 0 + 1 ≤ n + 1; omega, rfl, Nat.zero_le _⟩
/-- a whole number whose text is short -/
def smallI (d : PyData) : Prop := ∃ i : Int, d = .int i ∧ (-1000000000000000000000000000000000000000000000000000 < i ∧ i < 1000000000000000000000000000000000000000000000000000)
theorem smallI.ni {d : PyData} {n m : Nat} (h : smallI d) : Ni n m d := by
  obtain ⟨i, rfl, hi⟩ := h
  exact ni_i (by omega)
theorem smallI.pl {d : PyData} (h : smallI d) : Pl d := by
  obtain ⟨i, rfl, hi⟩ := h
  rfl
theorem all_map_id {α : Type} (l : List α) (f : α → Bool) : (l.map f).all id = l.all f := by
  rw [List.all_map]
  rfl
end
end MK

namespace MK
open PySem PySem.Spec PyProof.Rows L2

/-! ### further facts that the head tells -/
/-- a def that is read off its class -/
structure CFn (K : PySem.W.Frag) (C : Addr) (m : Str) (f : Addr) : Prop where
  sp : PySem.W.specialIn K (.ref C) "__getattribute__" = some (some (.builtin "type.__getattribute__"))
  rd : PySem.W.readsIn K C (.type "type") = true
  fc : PySem.W.findCls K (.ref C) (.type "type") m = some (.val (.ref f))
  kp : PySem.W.keepIn K (.ref f) = true
/-- instances of the class at C are asked by isinstance as they are -/
structure IsC (K : PySem.W.Frag) (C : Addr) : Prop where
  ha : PySem.W.findIn K (.ref C) "__class__" = some (some (.builtin "object.__class__"))
  hn : PySem.W.specialIn K (.builtin "object.__class__") "__get__" = some (some (.builtin "getset_descriptor.__get__"))
  ht : PySem.W.takesIn K (.builtin "object.__class__") = some true
  hm : PySem.W.mroIn K C (.type "object") = some true
inductive Xa where
  | cfn (x m : Str)
  | isc (x : Str)
  | kit (x y : Str) (b : Bool)
  | oex (x : Str)
  | xfc (x : Str)
  | init (x : Str)
  | veb
  | exk (x : Str)
  | mki (x b : Str)
def isFoundVal (r : Option PySem.W.CFound) (v : Value) : Bool := match r with
  | some (.val u) => decide (u = v)
  | _ => false
theorem isFoundVal_ok {r : Option PySem.W.CFound} {v : Value} (h : isFoundVal r v = true) : r = some (.val v) := by
  unfold isFoundVal at h
  split at h
  · rw [of_decide_eq_true h]
  · cases h
def oexB (K : PySem.W.Frag) (C : Addr) : Bool := match K.lookup C with
  | some ⟨.type t, _, .cls cd, sl⟩ => decide (t = "type") && (match cd.mro, sl.toList with
    | .ref C' :: bm, [_, _, _, _, some (.builtin n), _] => decide (C' = C) && (decide (n = "ValueError.__new__") && (!cd.hasDel && (cd.hasDict && PySem.HandSPX.refsVE bm)))
    | _, _ => false)
  | _ => false
def exkB (K : PySem.W.Frag) (D : Addr) : Bool := decide (PySem.W.findIn K (.ref D) "__getattribute__" = some (some (.builtin "BaseException.__getattribute__"))) && (decide (PySem.W.findIn K (.ref D) "__getattr__" = some none) &&
  (decide (PySem.W.subIn K (.ref D) (.type "BaseException") = some true) && (PySem.W.hasDictIn K D && (decide (PySem.W.findIn K (.ref D) "__class__" = some (some (.builtin "object.__class__"))) &&
    (decide (PySem.W.specialIn K (.builtin "object.__class__") "__get__" = some (some (.builtin "getset_descriptor.__get__"))) && (decide (PySem.W.takesIn K (.builtin "object.__class__") = some true) && decide (PySem.W.mroIn K D (.type "object") = some true)))))))
def Xa.ok (K : PySem.W.Frag) : Xa → Bool
  | .cfn x m => decide (PySem.W.specialIn K (.ref (He.ga K x)) "__getattribute__" = some (some (.builtin "type.__getattribute__"))) && (PySem.W.readsIn K (He.ga K x) (.type "type") &&
      (isFoundVal (PySem.W.findCls K (.ref (He.ga K x)) (.type "type") m) (.ref (He.ma K (He.ga K x) m)) && PySem.W.keepIn K (.ref (He.ma K (He.ga K x) m))))
  | .isc x => decide (PySem.W.findIn K (.ref (He.ga K x)) "__class__" = some (some (.builtin "object.__class__"))) && (decide (PySem.W.specialIn K (.builtin "object.__class__") "__get__" = some (some (.builtin "getset_descriptor.__get__"))) &&
      (decide (PySem.W.takesIn K (.builtin "object.__class__") = some true) && decide (PySem.W.mroIn K (He.ga K x) (.type "object") = some true)))
  | .kit x y b => decide (PySem.W.kitOne K (.ref (He.ga K x)) (.ref (He.ga K y)) = some b)
  | .oex x => oexB K (He.ga K x) && (decide (PySem.W.findIn K (.ref (He.ga K x)) "__setattr__" = some (some (.builtin "object.__setattr__"))) && (decide (PySem.W.subIn K (.ref (He.ga K x)) (.type "BaseException") = some true) &&
      (decide (PySem.W.typeIn K (.ref (He.ga K x)) = some (.type "type")) && PySem.W.keepIn K (.ref (He.ga K x)))))
  | .xfc x => xfB K (He.ga K x)
  | .init x => decide (PySem.W.findIn K (.ref (He.ga K x)) "__init__" = some (some (.ref (He.ma K (He.ga K x) "__init__")))) && decide (PySem.W.typeIn K (.ref (He.ma K (He.ga K x) "__init__")) = some (.type "function"))
  | .exk x => exkB K (He.ga K x)
  | .mki x b => PySem.W.makesIn K (He.ga K x) && (decide (PySem.W.findIn K (.ref (He.ga K x)) "__init__" = some (some (.ref (He.ma K (He.ga K b) "__init__")))) && (PySem.W.isFn K (.ref (He.ma K (He.ga K b) "__init__")) && PySem.W.keepIn K (.ref (He.ga K x))))
  | .veb => isFoundVal (PySem.W.findCls K (.type "ValueError") (.type "type") "__init__") (.builtin "ValueError.__init__")
section
variable {K : PySem.W.Frag}
theorem ba2 {a b : Bool} (h : (a && b) = true) : a = true ∧ b = true := Bool.and_eq_true_iff.mp h
theorem exkB_ok {D : Addr} (h : exkB K D = true) : ExcC K D := by
  obtain ⟨h1, h⟩ := ba2 h
  obtain ⟨h2, h⟩ := ba2 h
  obtain ⟨h3, h⟩ := ba2 h
  obtain ⟨h4, h⟩ := ba2 h
  obtain ⟨h5, h⟩ := ba2 h
  obtain ⟨h6, h⟩ := ba2 h
  obtain ⟨h7, h8⟩ := ba2 h
  exact ⟨of_decide_eq_true h1, of_decide_eq_true h2, of_decide_eq_true h3, h4, of_decide_eq_true h5, of_decide_eq_true h6, of_decide_eq_true h7, of_decide_eq_true h8⟩
theorem mki_ok {x b : Str} (c : (Xa.mki x b).ok K = true) : Mk K (He.ga K x) (He.ma K (He.ga K b) "__init__") := by
  obtain ⟨c1, c⟩ := ba2 c
  obtain ⟨c2, c⟩ := ba2 c
  obtain ⟨c3, c4⟩ := ba2 c
  exact ⟨c1, of_decide_eq_true c2, c3, c4⟩
theorem exk_ok {x : Str} (c : (Xa.exk x).ok K = true) : ExcC K (He.ga K x) := exkB_ok c
theorem cfn_ok {x m : Str} (c : (Xa.cfn x m).ok K = true) : CFn K (He.ga K x) m (He.ma K (He.ga K x) m) := by
  obtain ⟨c1, c⟩ := ba2 c
  obtain ⟨c2, c⟩ := ba2 c
  obtain ⟨c3, c4⟩ := ba2 c
  exact ⟨of_decide_eq_true c1, c2, isFoundVal_ok c3, c4⟩
theorem isc_ok {x : Str} (c : (Xa.isc x).ok K = true) : IsC K (He.ga K x) := by
  obtain ⟨c1, c⟩ := ba2 c
  obtain ⟨c2, c⟩ := ba2 c
  obtain ⟨c3, c4⟩ := ba2 c
  exact ⟨of_decide_eq_true c1, of_decide_eq_true c2, of_decide_eq_true c3, of_decide_eq_true c4⟩
theorem kit_ok {x y : Str} {b : Bool} (c : (Xa.kit x y b).ok K = true) : PySem.W.kitOne K (.ref (He.ga K x)) (.ref (He.ga K y)) = some b := of_decide_eq_true c
theorem oexB_ok {C : Addr} (h : oexB K C = true) : ∃ nm q N bs bm sn sub ab col dd k0 k1 k2 k3 k5, K.lookup C = some (excClassObj nm q C N bs bm true sn sub ab col dd k0 k1 k2 k3 k5 "ValueError.__new__") ∧ PySem.HandSPX.refsVE bm = true := by
  unfold oexB at h
  split at h
  · rename_i t dd cd sl ho
    obtain ⟨ht, h⟩ := ba2 h
    split at h
    · rename_i C' bm k0 k1 k2 k3 n k5 hm hs
      obtain ⟨h1, h⟩ := ba2 h
      obtain ⟨h2, h⟩ := ba2 h
      obtain ⟨h3, h⟩ := ba2 h
      obtain ⟨h4, h5⟩ := ba2 h
      have e1 := of_decide_eq_true h1
      have e2 := of_decide_eq_true h2
      have e3 : cd.hasDel = false := by simpa using h3
      have e0 := of_decide_eq_true ht
      obtain ⟨nm, bs, mro, ns, qn, hd, sn, sub, ab, col, del⟩ := cd
      dsimp only at hm e3 h4
      subst hm e3 h4 e1 e2 e0
      have hsl : sl = #[k0, k1, k2, k3, some (.builtin "ValueError.__new__"), k5] := by
        obtain ⟨l⟩ := sl
        simp only at hs
        rw [hs]
      subst hsl
      exact ⟨nm, qn, ns, bs, bm, sn, sub, ab, col, dd, k0, k1, k2, k3, k5, ho, h5⟩
    · cases h
  · cases h
theorem oex_ok {x : Str} (c : (Xa.oex x).ok K = true) : OexC K (He.ga K x) := by
  obtain ⟨c1, c⟩ := ba2 c
  obtain ⟨c2, c⟩ := ba2 c
  obtain ⟨c3, c⟩ := ba2 c
  obtain ⟨c4, c5⟩ := ba2 c
  exact ⟨oexB_ok c1, of_decide_eq_true c2, of_decide_eq_true c3, of_decide_eq_true c4, c5⟩
theorem xfc_ok {x : Str} (c : (Xa.xfc x).ok K = true) : XfC K (He.ga K x) := xfB_ok c
theorem init_ok {x : Str} (c : (Xa.init x).ok K = true) : PySem.W.findIn K (.ref (He.ga K x)) "__init__" = some (some (.ref (He.ma K (He.ga K x) "__init__"))) ∧ PySem.W.typeIn K (.ref (He.ma K (He.ga K x) "__init__")) = some (.type "function") := by
  obtain ⟨c1, c2⟩ := ba2 c
  exact ⟨of_decide_eq_true c1, of_decide_eq_true c2⟩
theorem veb_ok (c : Xa.veb.ok K = true) : PySem.W.findCls K (.type "ValueError") (.type "type") "__init__" = some (.val (.builtin "ValueError.__init__")) := isFoundVal_ok c
end
/-! the hook -/
structure SaysM (fa : List He.Fa) (fn : List He.DefD) (xa : List Xa) (K : PySem.W.Frag) : Prop where
  d : He.SaysD fa fn K
  x : (xa.all fun f => f.ok K) = true
/-- what the module's names reach, and the interpreter's own statics -/
def refsN (o : Obj) : List Addr := match o.data with
  | .cls cd => [cd.ns]
  | _ => He.refsO o
def lvN (g : Addr → Option Obj) : Nat → List Addr → List Addr
  | 0, _ => []
  | n + 1, fr => fr ++ lvN g n (fr.flatMap fun a => match g a with
    | some o => refsN o
    | none => [])
/-- level by level, no search for doubles (a class's mro is left out: its classes are the module's) -/
def asM (g : Addr → Option Obj) (n : Nat) : List Addr := PySem.cStatics :: lvN g (n + 1) [mainGlobals]
abbrev AlM : Type := He.AlD × Bool
def obsM (n : Nat) (fa : List He.Fa) (fn : List He.DefD) (xa : List Xa) (g : Addr → Option Obj) : AlM := (He.obsD fa fn (He.frG g (asM g n)), xa.all fun f => f.ok (He.frG g (asM g n)))
def hookM (n : Nat) (fa : List He.Fa) (fn : List He.DefD) (xa : List Xa) : PySem.W.Hook where
  α := AlM
  obs := fun s => obsM n fa fn xa s.heap.get?
  val := fun _ => (He.valD fn, true)
  says := fun _ h => ∃ K : PySem.W.Frag, K.In h ∧ SaysM fa fn xa K
  of := fun _ h e => ⟨_, He.frG_in, ⟨congrArg (fun z : AlM => z.1) e, congrArg (fun z : AlM => z.2) e⟩⟩
  keeps := fun _ _ _ ⟨K, hK, c⟩ k => ⟨K, PySem.W.Frag.In.keeps hK k, c⟩
theorem obsM_eq {n : Nat} {fa : List He.Fa} {fn : List He.DefD} {xa : List Xa} {g : Addr → Option Obj} {s : Shared} (h : ∀ a, g a = s.heap.get? a) : obsM n fa fn xa g = (hookM n fa fn xa).obs s := by
  have e : g = s.heap.get? := funext h
  rw [e] <;> rfl
section
variable {fa : List He.Fa} {fn : List He.DefD} {xa : List Xa} {K : PySem.W.Frag}
theorem SaysM.fact (c : SaysM fa fn xa K) (i : Nat) {f : He.Fa} (h : fa[i]? = some f := by rfl) : f.ok K = true := c.d.fact i h
theorem SaysM.def_ (c : SaysM fa fn xa K) (i : Nat) {d : He.DefD} (h : fn[i]? = some d := by rfl) : ∃ fd, FunD K d.name d.qual d.params d.body d.scope (d.dvs K) (d.kws K) (He.fAd K d.at_) fd := c.d.def_ i h
theorem SaysM.xact (c : SaysM fa fn xa K) (i : Nat) {f : Xa} (h : xa[i]? = some f := by rfl) : f.ok K = true := List.all_eq_true.mp c.x f (List.mem_of_getElem? h)
end

/-! ### fields -/
@[irreducible] def fldX (cs : List Addr) (f : Str) (x : V) (H : Hp) (Q : VK) : Prop := ∃ a C dx fs v, x = .ref a ∧ C ∈ cs ∧ H a = some (.ins C dx fs) ∧ fs.lookup f = some v ∧ Q v H
def eFld (cs : List Addr) (f : Str) (te : TE) : TE := fun σ H Q => te σ H fun x H1 => fldX cs f x H1 Q
theorem fld_i {cs : List Addr} {f : Str} {H : Hp} {Q : VK} {a C dx : Addr} {fs : List (Str × V)} {v : V} (h : H a = some (.ins C dx fs)) (hc : C ∈ cs) (hl : fs.lookup f = some v) (q : Q v H) : fldX cs f (.ref a) H Q := by
  unfold fldX
  exact ⟨a, C, dx, fs, v, rfl, hc, h, hl, q⟩
@[irreducible] def stfX (cs : List Addr) (f : Str) (y x : V) (H : Hp) (Q : Hp → Prop) : Prop := ∃ a C dx fs, x = .ref a ∧ C ∈ cs ∧ H a = some (.ins C dx fs) ∧ fs.length < 1000 ∧ Q (upd H a (.ins C dx (putF f y fs)))
def sStF (cs : List Addr) (f : Str) (tv to : TE) : TS := fun D σ H => tv σ H fun y H1 => to σ H1 fun x H2 => stfX cs f y x H2 (D.nx σ)
section
variable {X : Cx} {o e value : Expr} {es : List Expr} {f m : Str} {pos pos' apos p : Pos} {te to tv : TE} {t : TA} {cs : List Addr}
theorem mfld (he : PE X e te) (hc : ∀ C ∈ cs, Cls X.K C ∧ NoAttr X.K C f) (hb : attributeBase e f X.env (eval e X.env) = eval e X.env := by rfl) : PE X (.Attribute e f pos) (eFld cs f te) := by
  constructor
  intro pins s σ H Q I h
  refine attr_of hb (thn (he.run pins s σ H _ I h) ?_)
  rintro u s1 ⟨x, H1, I1, rx, q⟩
  unfold fldX at q
  obtain ⟨a, C, dx, fs, v, ex, hC, ea, l, q⟩ := q
  subst ex
  cases (show u = Value.ref a from rx)
  exact getattr_ok I1 ea (hc C hC).1 (hc C hC).2 l fun u' s2 I2 ru => ⟨v, H1, I2, ru, q⟩
theorem mstf (hv : PE X value tv) (ho : PE X o to) (hc : ∀ C ∈ cs, Cls X.K C ∧ NoAttr X.K C f) (hs : swapsWith value (some (.Attribute o f pos')) pos.line X.env = pure false := by rfl) :
    PS X (.Assign [.Attribute o f pos'] value pos) (sStF cs f tv to) := by
  constructor
  intro pins s σ H D I h
  refine plainObj_wpAny_Assign_Attribute (thn (hv.run pins s σ H _ I h) ?_) hs
  rintro u s1 ⟨y, H1, I1, ry, q⟩
  refine thn (ho.run pins s1 σ H1 _ I1 q) ?_
  rintro ov s2 ⟨x, H2, I2, rx, q2⟩
  unfold stfX at q2
  obtain ⟨a, C, dx, fs, ex, hC, ea, l, q2⟩ := q2
  subst ex
  cases (show ov = Value.ref a from rx)
  exact setattr_ok I2 ea (hc C hC).1 (hc C hC).2 l ry fun s3 I3 => ⟨σ, _, I3, q2⟩
theorem cl1 {P : Addr → Prop} {C : Addr} (h : P C) : ∀ D ∈ [C], P D := fun D hD => by
  rw [List.mem_singleton.mp hD]
  exact h
theorem clc {P : Addr → Prop} {C : Addr} {cs : List Addr} (h : P C) (t : ∀ D ∈ cs, P D) : ∀ D ∈ C :: cs, P D := fun D hD => by
  rcases List.mem_cons.mp hD with e | e
  · rw [e]
    exact h
  · exact t D e

/-! ### methods, by the instance's class -/
@[irreducible] def dspX (tbl : List (Addr × Sp)) (m : Str) (x : V) (H : Hp) (R : Sp → Prop) : Prop := ∃ C sp, (C, sp) ∈ tbl ∧ isIns C m x H ∧ R sp
def eMethD (tbl : List (Addr × Sp)) (m : Str) (W : WX) (to : TE) (t : TA) : TE := fun σ H Q => to σ H fun x H1 => dspX tbl m x H1 fun sp => t σ H1 fun vs H2 => sp (x :: vs) H2 Q (fun cls d H3 => W cls d σ H3)
theorem dsp_i {tbl : List (Addr × Sp)} {H : Hp} {R : Sp → Prop} {a C dx : Addr} {fs : List (Str × V)} {sp : Sp} (h : H a = some (.ins C dx fs)) (hm : (C, sp) ∈ tbl) (hl : fs.lookup m = none) (q : R sp) : dspX tbl m (.ref a) H R := by
  unfold dspX
  exact ⟨C, sp, hm, ⟨a, dx, fs, rfl, h, hl⟩, q⟩
/-- what is asked of each class of the table -/
def DspOk (X : Cx) (m : Str) (tbl : List (Addr × Sp)) : Prop := ∀ C sp, (C, sp) ∈ tbl → ∃ f, Cls X.K C ∧ Meth X.K C m f ∧ Cal X f sp
theorem dsp0 : DspOk X m [] := fun C sp h => absurd h List.not_mem_nil
theorem dsp1 {C f : Addr} {sp : Sp} {tbl : List (Addr × Sp)} (c : Cls X.K C) (h : Meth X.K C m f) (k : Cal X f sp) (t : DspOk X m tbl) : DspOk X m ((C, sp) :: tbl) := fun D sp' hD => by
  rcases List.mem_cons.mp hD with e | e
  · cases e
    exact ⟨f, c, h, k⟩
  · exact t D sp' e
theorem mmeth {pl : Sem Bool} {W : WX} {tbl : List (Addr × Sp)} (ho : PE X o to) (d : DspOk X m tbl) (tk : Takes X W) (ha : PA X (e :: es) t)
    (hst : starEach (e :: es) X.env = (false, eval e X.env) :: starEach es X.env := by rfl) (hpl : (backTo pos (starEach es X.env)).any (·.1) = false := by rfl)
    (ht : eval (.Call (.Attribute o m apos) (e :: es) [] pos) X.env = (do
      let ov ← eval o X.env
      standAt apos.atName
      let (f, first) ← holding [ov] (getMethod ov m pl)
      callWith pos f first (backTo pos (starEach (e :: es) X.env)) (backToKw pos (keywordEach [] X.env))) := by rfl) :
    PE X (.Call (.Attribute o m apos) (e :: es) [] pos) (eMethD tbl m W to t) := by
  constructor
  intro pins s σ H Q I h
  refine PySem.W.methodCall_KW (pl := pl) (thn (ho.run pins s σ H _ I h) ?_) ht
  rintro u s1 ⟨x, H1, I1, rx, q⟩
  unfold dspX at q
  obtain ⟨C, sp, hm, ⟨a, dx, fs, ex, ea, l⟩, q⟩ := q
  obtain ⟨f, cl, hf, c⟩ := d C sp hm
  subst ex
  cases (show u = Value.ref a from rx)
  refine getmeth_ok I1 ea cl hf l (PySem.W.callWith_K (first := [.ref a]) (h₀ := X.base) I.ok.mod.kin hf.kp (thn (ha.run pos pins s1 σ H1 _ I1 q) ?_) hst hpl)
  rintro us s2 ⟨vs, H2, I2, r, q2⟩
  exact ⟨I2.kIn, c.run (us := .ref a :: us) (vs := .ref a :: vs) tk I2 (.cons rfl r) q2⟩
theorem mmeth0 {pl : Sem Bool} {W : WX} {tbl : List (Addr × Sp)} (ho : PE X o to) (d : DspOk X m tbl) (tk : Takes X W)
    (ht : eval (.Call (.Attribute o m apos) [] [] pos) X.env = (do
      let ov ← eval o X.env
      standAt apos.atName
      let (f, first) ← holding [ov] (getMethod ov m pl)
      callWith pos f first (backTo pos (starEach [] X.env)) (backToKw pos (keywordEach [] X.env))) := by rfl) :
    PE X (.Call (.Attribute o m apos) [] [] pos) (eMethD tbl m W to tNil) := by
  constructor
  intro pins s σ H Q I h
  refine PySem.W.methodCall_KW (pl := pl) (thn (ho.run pins s σ H _ I h) ?_) ht
  rintro u s1 ⟨x, H1, I1, rx, q⟩
  unfold dspX at q
  obtain ⟨C, sp, hm, ⟨a, dx, fs, ex, ea, l⟩, q⟩ := q
  obtain ⟨f, cl, hf, c⟩ := d C sp hm
  subst ex
  cases (show u = Value.ref a from rx)
  exact getmeth_ok I1 ea cl hf l (PySem.W.callWith_K0 (first := [.ref a]) I1.kIn hf.kp (c.run (us := [.ref a]) (vs := [.ref a]) tk I1 (.cons rfl .nil) q))
/-- C.m(self, ..): the def, read off its class -/
theorem mcfn {pl : Sem Bool} {W : WX} {x : Str} {np : Pos} {C g : Addr} {sp : Sp} (gl : Gl X x) (hm : X.mg x = some (.ref C)) (F : CFn X.K C m g) (c : Cal X g sp) (tk : Takes X W) (ha : PA X (e :: es) t)
    (hdb : (x == ("__debug__" : Str)) = false := by decide +kernel) (hst : starEach (e :: es) X.env = (false, eval e X.env) :: starEach es X.env := by rfl) (hpl : (backTo pos (starEach es X.env)).any (·.1) = false := by rfl)
    (ht : eval (.Call (.Attribute (.Name x np) m apos) (e :: es) [] pos) X.env = (do
      let ov ← eval (.Name x np) X.env
      standAt apos.atName
      let (f, first) ← holding [ov] (getMethod ov m pl)
      callWith pos f first (backTo pos (starEach (e :: es) X.env)) (backToKw pos (keywordEach [] X.env))) := by rfl) :
    PE X (.Call (.Attribute (.Name x np) m apos) (e :: es) [] pos) (eCall sp W t) := by
  constructor
  intro pins s σ H Q I h
  refine PySem.W.methodCall_KW (pl := pl) (ld_glob I gl hm ?_ hdb) ht
  refine PySem.W.method_cls I.kIn F.sp (PySem.W.cls_value I.kIn F.rd F.fc rfl ?_)
  have I' := I.tok (s.toks + 1)
  refine PySem.W.callWith_K (first := []) (h₀ := X.base) I.ok.mod.kin F.kp (thn (ha.run pos pins _ σ H _ I' h) ?_) hst hpl
  rintro us s2 ⟨vs, H2, I2, r, q2⟩
  exact ⟨I2.kIn, c.run tk I2 r q2⟩
/-! ### isinstance(x, C), x an instance of an own class -/
@[irreducible] def isoX (tbl : List (Addr × Bool)) (x : V) (H : Hp) (Q : VK) : Prop := ∃ a C dx fs b, x = .ref a ∧ (C, b) ∈ tbl ∧ H a = some (.ins C dx fs) ∧ Q (.bl b) H
theorem iso_i {tbl : List (Addr × Bool)} {H : Hp} {Q : VK} {a C dx : Addr} {fs : List (Str × V)} {b : Bool} (h : H a = some (.ins C dx fs)) (hm : (C, b) ∈ tbl) (q : Q (.bl b) H) : isoX tbl (.ref a) H Q := by
  unfold isoX
  exact ⟨a, C, dx, fs, b, rfl, hm, h, q⟩
def cIso (D : Addr) (tbl : List (Addr × Bool)) : List V → Hp → VK → Prop := fun xs H Q => match xs with
  | [x, .ref E] => E = D ∧ isoX tbl x H Q
  | _ => False
theorem k_iso {D : Addr} {tbl : List (Addr × Bool)} (h : ∀ C b, (C, b) ∈ tbl → Cls X.K C ∧ IsC X.K C ∧ PySem.W.kitOne X.K (.ref C) (.ref D) = some b) : CallR X (.builtin "isinstance") (cIso D tbl) := call_imp call_isi fun xs H Q q => by
  unfold cIso at q
  split at q
  · rename_i x E
    obtain ⟨e, q⟩ := q
    subst e
    unfold isoX at q
    obtain ⟨a, C, dx, fs, b, ex, hm, ea, q⟩ := q
    subst ex
    obtain ⟨c, i, k⟩ := h C b hm
    exact ⟨.ref a, .ref E, .ref C, .ref E, b, rfl, .own E, .base (.ins ea c i.ha i.hn i.ht i.hm), k, q⟩
  · exact q.elim
end
end MK

namespace MK
open PySem PySem.Spec PyProof.Rows L2

/-! ### an own exception, made by its own __init__ -/
/-- C(..), told by its fields; the exception itself is no one's -/
@[irreducible] def nwX (C : Addr) (fs : List (Str × V)) (H : Hp) (Q : XK) : Prop := ∀ d, H d = none → Q (.ref C) (some d) (upd H d (.xd fs))
def excX (C : Addr) (fl : List Str) (vs : List V) (H : Hp) (Q : XK) : Prop := vs.length = fl.length ∧ nwX C ((fl.zip vs).reverse) H Q
theorem nwx_S {C : Addr} {fs fs' : List (Str × V)} {H : Hp} {Q : XK} {ps : List SP} (S : Star H ps) (q : ∀ d H', Star H' (pt d (.xd fs') :: ps) → Q (.ref C) (some d) H') (e : fs = fs' := by rfl) : nwX C fs H Q := by
  subst e
  unfold nwX
  exact fun d hd => q d _ (S.new' hd id)
/-- what the making asks of the __init__ -/
def mkO (C : Addr) (sp : Sp) (vs : List V) (H1 : Hp) (Q : XK) : Prop := vs.length ≤ 1000 ∧ ∀ a, H1 a = none → sp (.ref a :: vs) (upd H1 a (exo a C none))
  (fun v H2 => v = .non ∧ ∃ (d : Addr) (fs : List (Str × V)), H2 a = some (exo a C (some d)) ∧ H2 d = some (exd d fs) ∧ H1 d = none ∧ Q (.ref C) (some d) (upd (del H2 a) d (.xd fs))) (fun _ _ _ => False)
section
variable {X : Cx} {x : Str} {C fI : Addr} {sp : Sp} {e : Expr} {es : List Expr} {ta : TA} {p pos : Pos} {fl : List Str}
theorem pmk_exc (T : OexC X.K C) (iC : PySem.W.findIn X.K (.ref C) "__init__" = some (some (.ref fI)) ∧ PySem.W.typeIn X.K (.ref fI) = some (.type "function")) (c : CalM X fI sp)
    (hsp : ∀ vs H Q, excX C fl vs H Q → mkO C sp vs H Q) (gl : Gl X x) (hm : X.mg x = some (.ref C)) (ha : PA X (e :: es) ta)
    (hdb : (x == ("__debug__" : Str)) = false := by decide +kernel) (he : starEach (e :: es) X.env = (false, eval e X.env) :: starEach es X.env := by rfl) (hpl : (backTo pos (starEach es X.env)).any (·.1) = false := by rfl) :
    PMk X (.Call (.Name x p) (e :: es) [] pos) (fun σ H Q => ta σ H fun vs H1 => excX C fl vs H1 Q) := by
  intro pins s σ H Q I h
  obtain ⟨nm, q, N, bs, bm, sn, sub, ab, col, dd, k0, k1, k2, k3, k5, hC, hbm⟩ := T.cls
  obtain ⟨k, fd, ps, hr, hg, hb, Fg⟩ := c.ex
  refine wpAny_Call_Name_kw (ld_glob I gl hm ?_ hdb)
  refine PySem.W.callWith_K (h₀ := X.base) I.ok.mod.kin T.kC (thn (ha.run pos pins s σ H _ I h) ?_) he hpl
  rintro us s1 ⟨vs, H1, I1, r1, q0⟩
  obtain ⟨hz, q1⟩ := hsp vs H1 Q q0
  refine ⟨I1.kIn, ?_⟩
  show wpAny _ _ (call (.ref C) us) _ _ _
  obtain ⟨hp, g, dr, tk, os⟩ := s1
  obtain ⟨n, en⟩ : ∃ n, n = hp.objs.size + 1 := ⟨_, rfl⟩
  have hsz : hp.objs.size ≤ n := by omega
  have hn : H1 n = none := I1.hok.fresh hsz
  have hq := q1 n hn
  have kk : ∀ b o, hp.get? b = some o → ((hp.push (PySem.W.kdv_tup us)).push (PySem.HandSPX.excO C hp.objs.size)).get? b = some o := fun b o z => Heap.get?_push_of_some _ (Heap.get?_push_of_some _ z)
  have hget : ((hp.push (PySem.W.kdv_tup us)).push (PySem.HandSPX.excO C hp.objs.size)).get? n = some (PySem.HandSPX.excO C hp.objs.size) := by
    rw [en]
    heap_get
  have I2 : Inv X pins σ (upd H1 n (exo n C none)) ⟨(hp.push (PySem.W.kdv_tup us)).push (PySem.HandSPX.excO C hp.objs.size), g, dr, tk, os⟩ := I1.laid (t' := tk) kk hsz (exo_ok hget)
  have r2 : Vals (V.ref n :: vs) (Value.ref n :: us) := .cons rfl r1
  have hl : (Value.ref n :: us).length = ps.length := by
    rw [← r2.length]
    exact Fg.len _ _ _ _ hq
  have b := hb _ (Value.ref n :: us) I2.kIn (by rw [List.append_nil]; exact hl)
  rw [List.append_nil] at b
  have hus : us.length ≤ sizeLine := by
    rw [← Paired.length r1, sizeLine_eq]
    omega
  have run := Fg.run (X.A.under (.builtin "type.__call__" ⟨.ref C :: us, []⟩)) X.stack _ _ ⟨Value.ref n :: us, []⟩ (Value.ref n :: us) _ _ _ (hr.make C us []) (by rw [make_guards]; exact hg) (I2.env0.make C us []) b r2 hq
  subst en
  refine wpAny_call (PySem.HandSPX.call_own F.excBase_ValueError (fun Y => PySem.HandSPX.refsVE_contains Y bm hbm) (I1.kIn _ _ hC) (PySem.W.looks_findIn I1.kIn iC.1) (fun self => PySem.W.bind_fn I1.kIn self iC.2) hus (codeAny_mono run ?_))
  intro r s' z
  rcases r with er | (u | _ | _ | _)
  · obtain ⟨_, _, _, _, _, _, _, _, _, _, _, _, y⟩ := z
    exact y.elim
  · exact z.elim
  · exact z.elim
  · exact z.elim
  · obtain ⟨v, H2, os2, bare2, un2, hok2, rv, ev, d, fs, ea, ed, hd1, q2⟩ := z
    subst ev
    obtain ⟨h2, g2, d2, t2, os'⟩ := s'
    exact ⟨rv, mk_end (raises_own T.exC T.tyC) I1 hsz kk un2 hok2 os2 bare2 ea ed hd1 q2⟩
end
/-- the base class's __init__ leaves the exception that is being made as it is -/
def KeepsM (K : PySem.W.Frag) (spM : Sp) : Prop := ∀ (a C : Addr) (t : Str) (H : Hp) (Q : VK) (E : XK), OexC K C → H a = some (exo a C none) → Q .non H → spM [.ref a, .str t] H Q E
theorem keepsM {K : PySem.W.Frag} {sp : Sp} (hi : ∀ a0 a1 H Q E, sDrop (tVeI K (aC (eV 0) (aC (eV 1) aN))) (endOf Q) [some a0, some a1] H → sp [a0, a1] H Q E) : KeepsM K sp := fun a C t H Q E T e q => by
  refine hi _ _ _ _ _ ?_
  show ∃ (a' C' : Addr) (ws : List V), _
  exact ⟨a, C, [.str t], rfl, by show 1 ≤ 1000; decide, T, e, q⟩
section
variable {K : PySem.W.Frag} {C : Addr} {sp spM : Sp} {f g txt : Str}
theorem upd_back {H : Hp} {a d : Addr} {fs : List (Str × V)} {o1 o2 o3 : HO} (ha : H a = none) (hne : d ≠ a) : upd (del (upd (upd (upd H a o1) d o2) a o3) a) d (.xd fs) = upd H d (.xd fs) := by
  funext b
  by_cases hd : b = d
  · subst hd
    rw [upd_same, upd_same]
  · rw [upd_ne hd, upd_ne hd]
    by_cases hb : b = a
    · subst hb
      rw [del_same, ha]
    · rw [del_ne hb, upd_ne hb, upd_ne hd, upd_ne hb]
theorem exc_one (T : OexC K C) (hno : PySem.W.findIn K (.ref C) f = some none) (hM : KeepsM K spM)
    (hi : ∀ a0 a1 H Q E, tSeq (sDrop (eCall spM (wE E) (aC (eV 0) (aC (eC (.str txt)) aN)))) (tOst K f (eV 0) (eV 1)) (endOf Q) [some a0, some a1] H → sp [a0, a1] H Q E) :
    ∀ vs H Q, excX C [f] vs H Q → mkO C sp vs H Q := by
  intro vs H Q h
  obtain ⟨hl, q⟩ := h
  match vs, hl with
  | [v], _ =>
    refine ⟨by show 1 ≤ 1000; decide, fun a ha => hi _ _ _ _ _ ?_⟩
    refine hM a C txt _ _ _ T upd_same ?_
    show ∃ a' C' : Addr, _
    refine ⟨a, C, rfl, T, hno, .inl ⟨upd_same, fun dx hdx hne => ?_⟩⟩
    rw [upd_ne hne] at hdx
    unfold nwX at q
    refine ⟨rfl, dx, [(f, v)], upd_same, by rw [upd_ne hne, upd_same], hdx, ?_⟩
    rw [upd_back ha hne]
    exact q dx hdx
theorem exc_two (T : OexC K C) (hno : PySem.W.findIn K (.ref C) f = some none) (hno2 : PySem.W.findIn K (.ref C) g = some none) (hM : KeepsM K spM)
    (hi : ∀ a0 a1 a2 H Q E, tSeq (sDrop (eCall spM (wE E) (aC (eV 0) (aC (eC (.str txt)) aN)))) (tSeq (tOst K f (eV 0) (eV 1)) (tOst K g (eV 0) (eV 2))) (endOf Q) [some a0, some a1, some a2] H → sp [a0, a1, a2] H Q E) :
    ∀ vs H Q, excX C [f, g] vs H Q → mkO C sp vs H Q := by
  intro vs H Q h
  obtain ⟨hl, q⟩ := h
  match vs, hl with
  | [v, u], _ =>
    refine ⟨by show 2 ≤ 1000; decide, fun a ha => hi _ _ _ _ _ _ ?_⟩
    refine hM a C txt _ _ _ T upd_same ?_
    show ∃ a' C' : Addr, _
    refine ⟨a, C, rfl, T, hno, .inl ⟨upd_same, fun dx hdx hne => ?_⟩⟩
    rw [upd_ne hne] at hdx
    unfold nwX at q
    show ∃ a' C' : Addr, _
    refine ⟨a, C, rfl, T, hno2, .inr ⟨dx, [(f, v)], upd_same, by rw [upd_ne hne, upd_same], by show 1 ≤ 900; decide, ?_⟩⟩
    refine ⟨rfl, dx, [(g, u), (f, v)], by rw [upd_ne (Ne.symm hne), upd_same], upd_same, hdx, ?_⟩
    have e : upd (del (upd (upd (upd (upd H a (exo a C none)) dx (exd dx [(f, v)])) a (exo a C (some dx))) dx (exd dx [(g, u), (f, v)])) a) dx (.xd [(g, u), (f, v)]) = upd H dx (.xd [(g, u), (f, v)]) := by
      funext b
      by_cases hd : b = dx
      · subst hd
        rw [upd_same, upd_same]
      · rw [upd_ne hd, upd_ne hd]
        by_cases hb : b = a
        · subst hb
          rw [del_same, ha]
        · rw [del_ne hb, upd_ne hd, upd_ne hb, upd_ne hd, upd_ne hb]
    rw [e]
    exact q dx hdx
end
/-- raise C(..) -/
def sRaise (C : Addr) (fl : List Str) (W : WX) (ta : TA) : TS := fun _ σ H => ta σ H fun vs H1 => excX C fl vs H1 fun cls d H' => W cls d σ H'
theorem mraise {X : Cx} {W : WX} {e : Expr} {C : Addr} {fl : List Str} {ta : TA} {pos : Pos} (tk : Takes X W) (he : PMk X e (fun σ H Q => ta σ H fun vs H1 => excX C fl vs H1 Q)) (hc : X.calm = true := by rfl) : PS X (.Raise (some e) none pos) (sRaise C fl W ta) := ps_raise hc tk he

/-! ### try .. except C as e -/
@[irreducible] def wAsM (tbl : List (Value × Bool)) (i : Nat) (ts : Addr → Value → Option Addr → TS) (Wout : WX) (D : Ends) : WX := fun cls d σ H =>
  ((cls, true) ∈ tbl ∧ ∀ a, H a = none → ts a cls d { nx := fun σ' H' => D.nx (σ'.set i none) H', rt := D.rt, bk := fun σ' H' => D.bk (σ'.set i none) H', ct := fun σ' H' => D.ct (σ'.set i none) H' } (σ.set i (some (.ref a))) H) ∨
    ((cls, false) ∈ tbl ∧ Wout cls d σ H)
def sTryAs (tbl : List (Value × Bool)) (i : Nat) (W : WX) (tb : WX → TS) (ts : Addr → Value → Option Addr → TS) : TS := fun D σ H => tb (wAsM tbl i ts W D) D σ H
section
variable {tbl : List (Value × Bool)} {i : Nat} {ts : Addr → Value → Option Addr → TS} {Wout : WX} {D : Ends} {cls : Value} {d : Option Addr} {σ : L2.St} {H : Hp}
theorem was_y (h : (cls, true) ∈ tbl) (q : ∀ a, H a = none → ts a cls d { nx := fun σ' H' => D.nx (σ'.set i none) H', rt := D.rt, bk := fun σ' H' => D.bk (σ'.set i none) H', ct := fun σ' H' => D.ct (σ'.set i none) H' } (σ.set i (some (.ref a))) H) :
    wAsM tbl i ts Wout D cls d σ H := by
  unfold wAsM
  exact .inl ⟨h, q⟩
theorem was_n (h : (cls, false) ∈ tbl) (q : Wout cls d σ H) : wAsM tbl i ts Wout D cls d σ H := by
  unfold wAsM
  exact .inr ⟨h, q⟩
end
section
variable {X : Cx} {x n : Str} {c : Value} {i : Nat} {body suite : List Stmt} {b₀ : Stmt} {np pos pos' : Pos} {tb : WX → TS} {ts : Addr → Value → Option Addr → TS} {Wout : WX} {tbl : List (Value × Bool)}
theorem mtry_as (hs : X.stack = X.env :: X.outer) (hf : X.env.frame = some X.env.locals) (hN : X.N.Nodup) (hi : X.N[i]? = some n) (hln : X.env.kindOf n = some .local) (hc : Names X x c) (tk : Takes X Wout)
    (ht : ∀ cls b, (cls, b) ∈ tbl → PySem.W.exmOne X.K cls c = some b)
    (hb : ∀ (W : WX) (pn : List (Addr × Obj)) (xe : Value → Shared → Prop), Takes (X.tr pn xe) W → PassesOwn (model X.prog X.w) X.A X.env xe → PSs (X.tr pn xe) body (tb W))
    (hsu : ∀ (a : Addr) (oe : Obj) (cls : Value) (d : Option Addr) (pn : List (Addr × Obj)), Zc cls d oe → (∃ vs, oe.data = .fields vs) → PSs (X.suite a ((a, oe) :: pn)) (b₀ :: suite) (ts a cls d)) :
    PS X (.Try body [.ExceptHandler (some (.Name x np)) (some n) (b₀ :: suite) pos'] [] [] pos) (sTryAs tbl i Wout tb ts) := by
  have R := ps_try_as (pos := pos) (np := np) (pos' := pos') (tb := fun W D σ H => ∃ W' : WX, (∀ c d σ H, W' c d σ H → W c d σ H) ∧ tb W' D σ H) hs hf hN hi hln hc tk (fun W pn xe t po => ⟨fun pins s σ H D I h => by
    obtain ⟨W', hw, h⟩ := h
    exact (hb W' pn xe (t.imp hw) po).run pins s σ H D I h⟩) hsu
  refine ⟨fun pins s σ H D I h => R.run pins s σ H D I ⟨_, ?_, h⟩⟩
  intro cls d σ' H' q
  unfold wAsM at q
  rcases q with ⟨hm, q⟩ | ⟨hm, q⟩
  · exact ⟨true, ht _ _ hm, fun _ => q, fun z => by cases z⟩
  · exact ⟨false, ht _ _ hm, (fun z => by cases z), fun _ => q⟩
end
/-! e.f in the suite -/
@[irreducible] def exfX (cls : Value) (d : Option Addr) (cs : List Addr) (f : Str) (H : Hp) (Q : VK) : Prop := ∃ (C dd : Addr) (fs : List (Str × V)) (v : V), cls = .ref C ∧ C ∈ cs ∧ d = some dd ∧ H dd = some (.xd fs) ∧ fs.lookup f = some v ∧ Q v H
theorem exf_i {C dd : Addr} {cs : List Addr} {f : Str} {H : Hp} {Q : VK} {fs : List (Str × V)} {v : V} (h : H dd = some (.xd fs)) (hc : C ∈ cs) (hl : fs.lookup f = some v) (q : Q v H) : exfX (.ref C) (some dd) cs f H Q := by
  unfold exfX
  exact ⟨C, dd, fs, v, rfl, hc, rfl, h, hl, q⟩
def eXf (a : Addr) (cls : Value) (d : Option Addr) (cs : List Addr) (f : Str) (te : TE) : TE := fun σ H Q => te σ H fun x H1 => x = .ref a ∧ exfX cls d cs f H1 Q
theorem mxf {X : Cx} {a : Addr} {oe : Obj} {cls : Value} {d : Option Addr} {pn : List (Addr × Obj)} {e : Expr} {te : TE} {pos : Pos} {n : Str} {cs : List Addr} (hcs : ∀ C ∈ cs, XfC X.K C ∧ PySem.W.findIn X.K (.ref C) n = some none)
    (hz : Zc cls d oe) (hf : ∃ vs, oe.data = .fields vs) (he : PE (X.suite a ((a, oe) :: pn)) e te) (hb : attributeBase e n X.env (eval e X.env) = eval e X.env := by rfl) :
    PE (X.suite a ((a, oe) :: pn)) (.Attribute e n pos) (eXf a cls d cs n te) := by
  constructor
  intro pins s σ H Q I h
  refine attr_of hb (thn (he.run pins s σ H _ I h) ?_)
  rintro u s1 ⟨x, H1, I1, rx, ex, q⟩
  subst ex
  cases (show u = Value.ref a from rx)
  unfold exfX at q
  obtain ⟨C, dd, fs, v, ec, hC, ed, ea, l, q⟩ := q
  subst ec ed
  obtain ⟨T, hno⟩ := hcs C hC
  obtain ⟨ha, _⟩ := I1.pin (a, oe) (List.mem_append_left _ List.mem_cons_self)
  obtain ⟨vs, hd⟩ := hf
  obtain ⟨mA, hns, hr⟩ : ObjOk X.prog X.w H1 s1.heap dd (.xd fs) := I1.hok dd _ ea
  obtain ⟨od, ho, hl⟩ := lookIn_ns hns
  obtain ⟨u, hu, ru⟩ := RelO.some_of (v := v) (o := mA n) (by rw [← l]; exact hr n)
  have J : PySem.W.InstAt s1.heap a oe C (some od) := ⟨ha, hz.1, by unfold PySem.W.notCls; rw [hd] <;> rfl, by rw [hz.2]; exact ho⟩
  exact PySem.HandSPX.exc_get I1.kIn J T.ga T.gg T.exC (PySem.W.findObj_own T.hdC hno rfl (by rw [hl, hu])) (handed_of ru) ⟨v, H1, I1.tok _, ru, q⟩
end MK

namespace MK
open PySem PySem.Spec PyProof.Rows L2

/-! ### methods of lists -/
theorem tyv_l {K : PySem.W.Frag} {H : Hp} {a : Addr} {xs : List V} (h : H a = some (.lst xs)) : tyV K "list" (.ref a) H := .inl ⟨rfl, xs, .of h⟩
@[irreducible] def opApp : V → List V → Hp → VK → Prop := rAppend
theorem t_app {X : Cx} : MtM X "list.append" opApp := by
  unfold opApp
  exact mt_append
section
variable {K : PySem.W.Frag} {H : Hp} {Q : VK} {ps : List SP} {a : Addr} {xs : List V} {y : V}
theorem app_S (S : Star H (pt a (.lst xs) :: ps)) (z : xs.length < 16777216) (q : ∀ H', Star H' (pt a (.lst (xs ++ [y])) :: ps) → Q .non H') : opApp (.ref a) [y] H Q := by
  unfold opApp
  exact ⟨a, xs, y, rfl, rfl, S.get, by rw [sizeLine_eq]; exact z, q _ S.updL⟩
@[irreducible] def enX (K : PySem.W.Frag) (vs : List V) (H : Hp) (R : It → Hp → Prop) : Prop := ∃ a xs, vs = [.ref a] ∧ SqL K H a xs ∧ R (Ite K a) H
def iEn (K : PySem.W.Frag) (ta : TA) : TI := fun σ H R => ta σ H fun vs H1 => enX K vs H1 R
theorem menu {X : Cx} {e : Expr} {ta : TA} {p pos tpos : Pos} {elts : List Expr} {kk : Nat} (hg : Gl X "enumerate") (hm : X.mg "enumerate" = none) (ha : PA X [e] ta) (hs : starEach [e] X.env = [(false, eval e X.env)] := by rfl) :
    PI X (.Tuple elts kk tpos) (.Call (.Name "enumerate" p) [e] [] pos) (iEn X.K ta) := by
  have e : iEn X.K ta = iEnum X.K ta := by
    unfold iEn iEnum enX
    rfl
  rw [e]
  exact pi_enum hg hm ha hs
theorem en_l {R : It → Hp → Prop} (h : H a = some (.lst xs)) (q : R (Ite K a) H) : enX K [.ref a] H R := by
  unfold enX
  exact ⟨a, xs, rfl, .of h, q⟩
theorem pair_S {i : Nat} {v : V} {fi fx' : Nat → Option V} {H' : Hp} (S : Star H ps) (y : YPair fi fx' i H v H') : ∃ T x z, v = .ref T ∧ fi i = some x ∧ fx' i = some z ∧ Star H' (fx T (.tup [x, z]) :: ps) := by
  obtain ⟨T, x, z, h1, h2, h3, h4, h5⟩ := y
  subst h1 h3
  exact ⟨T, x, z, rfl, h4, h5, S.newT h2⟩
/-- [.. for i, x in enumerate(xs) if ..] -/
theorem lc_en {is vs : List Nat} {tt : TT} {te : TE} {σ : L2.St} (p : Nat → Bool) (f : Nat → V) (hz : xs.length ≤ 16777216) (S : Star H (pt a (.lst xs) :: ps)) (hi : is.length = 2)
    (hw : ∀ (i : Nat) x, wipe (sputs (wipe σ vs) is [.int i, x]) vs = wipe σ vs)
    (ht : ∀ (i : Nat) x H1 D acc (R : Bool → Hp → Prop), xs[i]? = some x → Star H1 (pt D (.lst acc) :: pt a (.lst xs) :: ps) → (∀ H2, Star H2 (pt D (.lst acc) :: pt a (.lst xs) :: ps) → R (p i) H2) → tt (sputs (wipe σ vs) is [.int i, x]) H1 R)
    (he : ∀ (i : Nat) x H1 D acc (R : VK), xs[i]? = some x → p i = true → Star H1 (pt D (.lst acc) :: pt a (.lst xs) :: ps) → (∀ H2, Star H2 (pt D (.lst acc) :: pt a (.lst xs) :: ps) → R (f i) H2) → te (sputs (wipe σ vs) is [.int i, x]) H1 R)
    (q : ∀ D H1, Star H1 (pt D (.lst (((List.range xs.length).filter p).map f)) :: pt a (.lst xs) :: ps) → Q (.ref D) H1) :
    ∀ D, H D = none → LoopC (Ite K a) (gU K is) tt te vs σ D H Q := by
  intro D hD
  refine LoopC.it walk_enum (fun i H1 => Star H1 (pt D (.lst (((List.range i).filter p).map f)) :: pt a (.lst xs) :: ps)) (S.newL hD) (fun i H1 _ S1 => .of S1.p1.get) ?_ (fun H1 S1 => q D H1 S1)
  rintro i v H1 H2 hi' S1 y
  obtain ⟨T, x, z, rfl, e1, e2, S2⟩ := pair_S S1 y
  cases e1
  unfold gU
  refine unp_t S2.getF hi ⟨hw i z, ht i z _ D _ _ e2 S2.tail fun H3 S3 => ?_⟩
  cases hp : p i with
  | false =>
    rw [if_neg Bool.false_ne_true, ranges_succ, List.filter_append, List.filter_cons_of_neg (by simp [hp]), List.filter_nil, List.append_nil]
    exact S3
  | true =>
    rw [if_pos rfl]
    refine he i z _ D _ _ e2 hp S3 fun H4 S4 => ⟨_, S4.get, ?_, ?_⟩
    · have h1 := fm_len f p i
      rw [sizeLine_eq]
      omega
    · rw [ranges_succ, List.filter_append, List.filter_cons_of_pos hp, List.filter_nil, List.map_append, List.map_cons, List.map_nil]
      exact S4.updL
end
theorem atI_last {α : Type} {xs : List α} {x : α} (h : xs.getLast? = some x) : atI xs (-1) = some x := by
  have hne : xs ≠ [] := fun z => by
    rw [z] at h
    cases h
  have hl : 0 < xs.length := List.length_pos_iff.mpr hne
  have e : ixN xs.length (-1) = some (xs.length - 1) := by
    unfold ixN
    rw [if_neg (by omega), if_pos (by omega)]
    congr 1
    omega
  unfold atI
  rw [e]
  show xs[xs.length - 1]? = some x
  rw [← List.getLast?_eq_getElem?]
  exact h
theorem stf_S {cs : List Addr} {f : Str} {y : V} {H : Hp} {ps : List SP} {Q : Hp → Prop} {a C dx : Addr} {fs : List (Str × V)} (S : Star H (pt a (.ins C dx fs) :: ps)) (hc : C ∈ cs) (z : fs.length < 1000) (q : ∀ H', Star H' (pt a (.ins C dx (putF f y fs)) :: ps) → Q H') : stfX cs f y (.ref a) H Q := by
  unfold stfX
  exact ⟨a, C, dx, fs, rfl, hc, S.get, z, q _ (S.upd' id)⟩
theorem Star.ints {H : Hp} {F : List SP} : ∀ {xs : List Nat}, Star H F → Star H (dats (xs.map fun k => V.int (k : Nat)) (xs.map fun k => PyData.int (k : Nat)) :: F)
  | [], S => dats_n.mpr ⟨rfl, S⟩
  | x :: xs, S => dats_c.mpr ⟨_, _, rfl, dat_i.mpr ⟨rfl, Star.ints (xs := xs) S⟩⟩
theorem Fr.ints {ps qs : List SP} {xs : List Nat} (h : Fr ps qs) : Fr ps (dats (xs.map fun k => V.int (k : Nat)) (xs.map fun k => PyData.int (k : Nat)) :: qs) := fun H S => Star.ints (h H S)
theorem ints_of {H : Hp} {F : List SP} : ∀ {xs : List Nat} {vs : List V}, Star H (dats vs (xs.map fun k => PyData.int (k : Nat)) :: F) → vs = xs.map (fun k => V.int (k : Nat)) ∧ Star H F
  | [], vs, S => by
    obtain ⟨e, S1⟩ := dats_n.mp S
    exact ⟨e, S1⟩
  | x :: xs, vs, S => by
    obtain ⟨v, r, e, S1⟩ := dats_c.mp S
    obtain ⟨e2, S2⟩ := dat_i.mp S1
    obtain ⟨e3, S3⟩ := ints_of (xs := xs) S2
    exact ⟨by rw [e, e2, e3]; rfl, S3⟩
/-- a new instance -/
theorem mk_S {C : Addr} {H : Hp} {ps : List SP} {R : Addr → Hp → Prop} (S : Star H ps) (q : ∀ x dx H', Star H' (pt x (.ins C dx []) :: ps) → R x H') : ∀ x dx, H x = none → H dx = none → dx ≠ x → R x (upd (upd H dx (.own x)) x (.ins C dx [])) := fun x dx hx hd hne => by
  have S1 : Star (upd H dx (.own x)) (pt dx (.own x) :: ps) := S.new' hd id
  have S2 := S1.new' (a := x) (o := .ins C dx []) (by rw [upd_ne (Ne.symm hne)]; exact hx) id
  exact q x dx _ S2.p1.tail
theorem Star.mkI {C x dx : Addr} {H : Hp} {ps : List SP} (S : Star H ps) (hx : H x = none) (hd : H dx = none) (hne : dx ≠ x) : Star (upd (upd H dx (.own x)) x (.ins C dx [])) (pt x (.ins C dx []) :: ps) := by
  have S1 : Star (upd H dx (.own x)) (pt dx (.own x) :: ps) := S.new' hd id
  have S2 := S1.new' (a := x) (o := .ins C dx []) (by rw [upd_ne (Ne.symm hne)]; exact hx) id
  exact S2.p1.tail
/-- the j-th statement of a class's body -/
def clsAt (s : Stmt) (j : Nat) : Stmt := match s with
  | .ClassDef _ _ _ b _ _ _ _ _ _ _ => b.getD j (.Pass ⟨0, 0, 0, 0⟩)
  | _ => .Pass ⟨0, 0, 0, 0⟩
theorem cl0 {P : Addr → Prop} : ∀ D ∈ ([] : List Addr), P D := fun D hD => absurd hD List.not_mem_nil
section
variable {X : Cx} {D C : Addr} {b : Bool} {tbl : List (Addr × Bool)} {xt : List (Value × Bool)} {cls c : Value}
theorem is0 : ∀ C b, (C, b) ∈ ([] : List (Addr × Bool)) → Cls X.K C ∧ IsC X.K C ∧ PySem.W.kitOne X.K (.ref C) (.ref D) = some b := fun C b h => absurd h List.not_mem_nil
theorem is1 (h : Cls X.K C ∧ IsC X.K C ∧ PySem.W.kitOne X.K (.ref C) (.ref D) = some b) (t : ∀ C b, (C, b) ∈ tbl → Cls X.K C ∧ IsC X.K C ∧ PySem.W.kitOne X.K (.ref C) (.ref D) = some b) :
    ∀ C' b', (C', b') ∈ (C, b) :: tbl → Cls X.K C' ∧ IsC X.K C' ∧ PySem.W.kitOne X.K (.ref C') (.ref D) = some b' := fun C' b' hm => by
  rcases List.mem_cons.mp hm with e | e
  · cases e
    exact h
  · exact t C' b' e
theorem xt0 : ∀ cls b, (cls, b) ∈ ([] : List (Value × Bool)) → PySem.W.exmOne X.K cls c = some b := fun C b h => absurd h List.not_mem_nil
theorem xt1 (h : PySem.W.exmOne X.K cls c = some b) (t : ∀ cls b, (cls, b) ∈ xt → PySem.W.exmOne X.K cls c = some b) : ∀ cls' b', (cls', b') ∈ (cls, b) :: xt → PySem.W.exmOne X.K cls' c = some b' := fun C' b' hm => by
  rcases List.mem_cons.mp hm with e | e
  · cases e
    exact h
  · exact t C' b' e
/-- a class, read -/
theorem mcls {x : Str} {p : Pos} (gl : Gl X x) (hm : X.mg x = some (.ref C)) (hdb : (x == ("__debug__" : Str)) = false := by decide +kernel) : PE X (.Name x p) (eC (.ref C)) := by
  constructor
  intro pins s σ H Q I h
  exact ld_glob I gl hm ⟨.ref C, H, I.tok _, rfl, h⟩ hdb
end
end MK

/-! isinstance of a caught error that has fields -/
namespace PySem.W
open PySem PySem.Spec PySem.Calls PyProof.Rows
section
variable {prog : Program} {w : World} {A : Around} {E : Value → Shared → Prop} {s : Shared} {K : Frag} {x D : Addr} {ox : Obj} {od : Option Obj}
theorem mk_findData {C : Addr} {name : Str} {a g : Value} (hc : (clsIn K C).isSome = true) (ha : findIn K (.ref C) name = some (some a)) (hg : specialIn K a "__get__" = some (some g)) (ht : takesIn K a = some true) : findObj K C od name = some (.bind g a) := by
  cases hcd : clsIn K C with
  | none =>
    rw [hcd] at hc
    cases hc
  | some cd =>
    unfold findObj
    rw [hcd, Option.bind_some, ha, Option.bind_some]
    simp [hg, ht]
theorem mk_kinE {Q : Option Value → Shared → Prop} (e : L2.ExcC K D) (X : K.In s.heap) (I : InstAt s.heap x ox D od) (h : Q (some (.ref D)) { s with toks := s.toks + 1 }) : wpAny (model prog w) A (getAttr? (.ref x) "__class__") Q E s := by
  have hf : findObj K D od "__class__" = some (.bind (.builtin "getset_descriptor.__get__") (.builtin "object.__class__")) := mk_findData (by obtain ⟨cd, hc, _⟩ := any_some e.hd; rw [hc]; rfl) e.ha e.hn e.ht
  obtain ⟨hp, g, d, t, os⟩ := s
  have y0 := I.type (M := model prog w)
  have y1 := looks_findIn (M := model prog w) X e.hg
  have y2 := looks_findIn (M := model prog w) X e.hk
  have y3 := looks_find (M := model prog w) X I hf
  have sub : Looks (model prog w) hp (isInstance (.ref x) (.type "BaseException")) true := y0.andThen (looks_subIn X e.hs)
  have z0 : (false && onTheHeap (Value.builtin "BaseException.__getattribute__")) = false := rfl
  have z2 : (Value.builtin "BaseException.__getattribute__" == Value.builtin "object.__getattribute__") = false := by decide +kernel
  have z1 : (onTheHeap (Value.ref D) && Value.builtin "BaseException.__getattribute__" == Value.builtin "object.__getattribute__") = false := by rw [z2]; rfl
  unfold getAttr? getAttrBy? getAttrBy
  refine wpAny_bind (wpAny_mkText (wpAny_bind (wpAny_attempt (wpAny_holding (wpAny_bind (y0.at (wpAny_bind (y1.at ?_))))))))
  show wpAny _ _ (if (onTheHeap (Value.ref D) && Value.builtin "BaseException.__getattribute__" == Value.builtin "object.__getattribute__") = true then _ else _) _ _ _
  rw [z1, if_neg Bool.false_ne_true]
  unfold getAttrByItsOwn hookBefore
  refine wpAny_bind ?_
  rw [if_pos (show onTheHeap (Value.ref D) = true from rfl)]
  refine y2.at ?_
  refine wpAny_bind (wpAny_attempt (wpAny_holding ?_))
  unfold callGetattribute
  rw [z0, if_neg Bool.false_ne_true]
  unfold boundAndCalled
  rw [PySem.F.excAttr_ValueError.ga.bind (.ref x)]
  refine wpAny_bind (wpAny_pure ?_)
  show wpAny _ _ (call (.builtin "BaseException.__getattribute__") [.ref x, .str "__class__" t]) _ _ _
  refine wpAny_call (codeAny_call_builtin PySem.F.excAttr_ValueError.ga.plain PySem.F.entry_bexc_ga ?_)
  refine @check_slot (model prog w) _ _ ⟨hp, g, d, t + 1, os⟩ "BaseException.__getattribute__" "BaseException" "__getattribute__" (.ref x) [.str "__class__" t] [] _ (by decide +kernel) (by decide +kernel) sub (PySem.F.args_bexc_ga (.ref x) (.str "__class__" t)) ?_
  unfold Builtin.«object.__getattribute__»
  refine wpAny_bind (wpAny_of_eq (a := ((Value.ref x : Value), [Value.str "__class__" t])) (by first | rfl | (simp only [slotArgs]; rfl)) ?_)
  refine wpAny_bind (wpAny_pure (wpAny_bind (y0.at (wpAny_bind (y3.at ?_)))))
  show wpAny _ _ (holding [Value.builtin "object.__class__"] (call (.builtin "getset_descriptor.__get__") [.builtin "object.__class__", .ref x, .ref D]) >>= ret) _ _ _
  refine wpAny_bind (wpAny_holding (wpAny_call (class_get (s := ⟨hp, g, d, t + 1, os⟩) (ox := ox) (od := od) X I e.hm ?_)))
  refine wpAny_pure ?_
  show wpAny _ _ (handedOut (.ref D)) _ _ _
  rw [handedOut_of (v := .ref D) rfl]
  first
    | exact wpAny_pure (wpAny_pure h)
    | exact wpAny_pure h
    | exact wpAny_pure (wpAny_bind (wpAny_pure (wpAny_pure h)))
theorem mk_kitE (e : L2.ExcC K D) : KitX K (.ref x) (.ref D) (fun h => InstAt h x ox D od) where
  ty := fun _ _ _ I => I.type
  it := fun _ _ X _ => by
    obtain ⟨cdD, hcD, _⟩ := any_some e.hd
    unfold clsIn at hcD
    split at hcD
    · rename_i c' d' cd' sl' ho
      intro A' Q' E' s' k q
      unfold isType loadHead
      exact wpAny_bind (wpAny_loadPart (k _ _ (X _ _ ho)) (wpAny_pure q))
    · cases hcD
  ne := fun h tp dd its n sl X htp => by
    obtain ⟨cdD, hcD, _⟩ := any_some e.hd
    refine Bool.eq_false_iff.mpr fun q => ?_
    have e : D = tp := Value.ref.inj (beq_iff_eq.mp q)
    subst e
    unfold clsIn at hcD
    split at hcD
    · rename_i c' d' cd' sl' ho
      have z := (X _ _ ho).symm.trans htp
      cases z
    · cases hcD
  ca := fun X I k => mk_kinE e X I k
end
end PySem.W
namespace MK
open PySem PySem.Spec PyProof.Rows L2
@[irreducible] def exiX (cls : Value) (d : Option Addr) (tbl : List (Addr × Bool)) (H : Hp) (Q : VK) : Prop := ∃ (C dd : Addr) (b : Bool) (fs : List (Str × V)), cls = .ref C ∧ (C, b) ∈ tbl ∧ d = some dd ∧ H dd = some (.xd fs) ∧ Q (.bl b) H
theorem exi_i {C dd : Addr} {b : Bool} {tbl : List (Addr × Bool)} {H : Hp} {Q : VK} {fs : List (Str × V)} (h : H dd = some (.xd fs)) (hm : (C, b) ∈ tbl) (q : Q (.bl b) H) : exiX (.ref C) (some dd) tbl H Q := by
  unfold exiX
  exact ⟨C, dd, b, fs, rfl, hm, rfl, h, q⟩
def cIsE (a : Addr) (cls : Value) (d : Option Addr) (D : Addr) (tbl : List (Addr × Bool)) : List V → Hp → VK → Prop := fun xs H Q => match xs with
  | [x, .ref E] => (x = .ref a ∧ E = D) ∧ exiX cls d tbl H Q
  | _ => False
theorem k_isE {X : Cx} {a D : Addr} {oe : Obj} {cls : Value} {d : Option Addr} {pn : List (Addr × Obj)} {tbl : List (Addr × Bool)} (ht : ∀ C b, (C, b) ∈ tbl → ExcC X.K C ∧ PySem.W.kitOne X.K (.ref C) (.ref D) = some b) (hz : Zc cls d oe) (hf : ∃ vs, oe.data = .fields vs) :
    CallR (X.suite a ((a, oe) :: pn)) (.builtin "isinstance") (cIsE a cls d D tbl) := by
  intro pins s σ H xs us Q I r h
  unfold cIsE at h
  split at h
  · rename_i x E
    obtain ⟨⟨e1, e2⟩, q⟩ := h
    subst e1 e2
    unfold exiX at q
    obtain ⟨C, dd, b, fs, ec, hm, ed, ea, q⟩ := q
    subst ec ed
    obtain ⟨hC, hk⟩ := ht C b hm
    obtain ⟨u1, u2, rfl, r1, r2⟩ := vals2 r
    cases (show u1 = Value.ref a from r1)
    cases (show u2 = Value.ref E from r2)
    obtain ⟨hget, _⟩ := I.pin (a, oe) (List.mem_append.mpr (.inl List.mem_cons_self))
    obtain ⟨vs, hv⟩ := hf
    obtain ⟨mA, hns, hr⟩ : ObjOk X.prog X.w H s.heap dd (.xd fs) := I.hok dd _ ea
    obtain ⟨od, ho, hl⟩ := lookIn_ns hns
    have J : PySem.W.InstAt s.heap a oe C (some od) := ⟨hget, hz.1, by unfold PySem.W.notCls; rw [hv] <;> rfl, by rw [hz.2]; exact ho⟩
    exact PySem.W.kia_one (PySem.W.mk_kitE hC) I.kIn J hk (fun z => nomatch z) fun tk => ⟨.bl b, H, I.kept (t' := tk) fun _ _ z => z, rfl, q⟩
  · exact h.elim
section
variable {X : Cx} {D C : Addr} {b : Bool} {tbl : List (Addr × Bool)}
theorem ie0 : ∀ C b, (C, b) ∈ ([] : List (Addr × Bool)) → ExcC X.K C ∧ PySem.W.kitOne X.K (.ref C) (.ref D) = some b := fun C b h => absurd h List.not_mem_nil
theorem ie1 (h : ExcC X.K C ∧ PySem.W.kitOne X.K (.ref C) (.ref D) = some b) (t : ∀ C b, (C, b) ∈ tbl → ExcC X.K C ∧ PySem.W.kitOne X.K (.ref C) (.ref D) = some b) :
    ∀ C' b', (C', b') ∈ (C, b) :: tbl → ExcC X.K C' ∧ PySem.W.kitOne X.K (.ref C') (.ref D) = some b' := fun C' b' hm => by
  rcases List.mem_cons.mp hm with e | e
  · cases e
    exact h
  · exact t C' b' e
end
end MK

namespace MK
open PySem PySem.Spec PyProof.Rows L2

/-! ### further methods of lists -/
@[irreducible] def opPop : V → List V → Hp → VK → Prop := fun x vs H Q => rPop x vs H Q ∨ rPopAt x vs H Q
@[irreducible] def opRev : V → List V → Hp → VK → Prop := rReverse
@[irreducible] def opClr : V → List V → Hp → VK → Prop := rClear
@[irreducible] def opExt : V → List V → Hp → VK → Prop := rExtend
@[irreducible] def opRem : V → List V → Hp → VK → Prop := rRemI
@[irreducible] def opIns : V → List V → Hp → VK → Prop := fun x vs H Q => ∃ (l : Addr) (xs : List V) (i : Int) (y : V), x = .ref l ∧ vs = [.int i, y] ∧ H l = some (.lst xs) ∧ xs.length < sizeLine ∧ 0 ≤ i ∧ i < 2 ^ 63 ∧
    Q .non (upd H l (.lst (xs.take i.toNat ++ [y] ++ xs.drop i.toNat)))
@[irreducible] def opIdx (K : PySem.W.Frag) : V → List V → Hp → VK → Prop := rIndex K
section
variable {X : Cx}
theorem t_pop : MtM X "list.pop" opPop := by
  unfold opPop
  exact MtR.or mt_pop mt_popAt
theorem t_rev : MtM X "list.reverse" opRev := by
  unfold opRev
  exact mt_reverse
theorem t_clr : MtM X "list.clear" opClr := by
  unfold opClr
  exact mt_clear
theorem t_ext : MtM X "list.extend" opExt := by
  unfold opExt
  exact mt_extend
theorem t_rem : MtM X "list.remove" opRem := by
  unfold opRem
  exact mt_remove
theorem t_ins : MtM X "list.insert" opIns := by
  unfold opIns
  exact mt_insert
theorem t_idx : MtM X "list.index" (opIdx X.K) := by
  unfold opIdx
  exact mt_index
end
section
variable {K : PySem.W.Frag} {H : Hp} {Q : VK} {ps : List SP} {a b : Addr} {xs ys : List V} {y : V}
theorem rev_S (S : Star H (pt a (.lst xs) :: ps)) (q : ∀ H', Star H' (pt a (.lst xs.reverse) :: ps) → Q .non H') : opRev (.ref a) [] H Q := by
  unfold opRev
  exact ⟨a, xs, rfl, rfl, S.get, q _ S.updL⟩
theorem clr_S (S : Star H (pt a (.lst xs) :: ps)) (q : ∀ H', Star H' (pt a (.lst []) :: ps) → Q .non H') : opClr (.ref a) [] H Q := by
  unfold opClr
  exact ⟨a, xs, rfl, rfl, S.get, q _ S.updL⟩
theorem pop_S (S : Star H (pt a (.lst (xs ++ [y])) :: ps)) (q : ∀ H', Star H' (pt a (.lst xs) :: ps) → Q y H') : opPop (.ref a) [] H Q := by
  unfold opPop
  refine .inl ⟨a, xs ++ [y], y, rfl, rfl, S.get, ?_, ?_⟩
  · rw [List.length_append, List.length_singleton, Nat.add_sub_cancel]
    exact List.getElem?_concat_length
  · rw [List.dropLast_concat]
    exact q _ S.updL
theorem popAt_S {k : Nat} (S : Star H (pt a (.lst xs) :: ps)) (hk : xs[k]? = some y) (hz : xs.length < 16777216) (q : ∀ H', Star H' (pt a (.lst (xs.eraseIdx k)) :: ps) → Q y H') : opPop (.ref a) [.int (k : Int)] H Q := by
  unfold opPop
  have h1 := (List.getElem?_eq_some_iff.mp hk).1
  have e63 : (2 : Int) ^ 63 = 9223372036854775808 := by decide
  refine .inr ⟨a, xs, (k : Int), k, y, rfl, rfl, S.get, by rw [e63]; omega, by rw [e63]; omega, ?_, hk, q _ S.updL⟩
  unfold seqIndex?
  simp
  omega
theorem ext_S (S : Star H (pt a (.lst xs) :: ps)) (hb : H b = some (.lst ys)) (hz : xs.length + ys.length ≤ 16777216) (q : ∀ H', Star H' (pt a (.lst (xs ++ ys)) :: ps) → Q .non H') : opExt (.ref a) [.ref b] H Q := by
  unfold opExt
  exact ⟨a, b, xs, ys, rfl, rfl, S.get, hb, by rw [sizeLine_eq]; exact hz, q _ S.updL⟩
theorem ins_S {k : Nat} (S : Star H (pt a (.lst xs) :: ps)) (hz : xs.length < 16777216) (hk : k ≤ xs.length) (q : ∀ H', Star H' (pt a (.lst (xs.take k ++ [y] ++ xs.drop k)) :: ps) → Q .non H') : opIns (.ref a) [.int (k : Int), y] H Q := by
  unfold opIns
  have e63 : (2 : Int) ^ 63 = 9223372036854775808 := by decide
  exact ⟨a, xs, (k : Int), y, rfl, rfl, S.get, by rw [sizeLine_eq]; exact hz, by omega, by rw [e63]; omega, q _ S.updL⟩
theorem rem_S {ns : List Int} {k : Int} {j : Nat} (S : Star H (pt a (.lst (ns.map V.int)) :: ps)) (hj : ns[j]? = some k) (hn : ∀ m : Nat, m < j → ns[m]? ≠ some k) (q : ∀ H', Star H' (pt a (.lst ((ns.eraseIdx j).map V.int)) :: ps) → Q .non H') : opRem (.ref a) [.int k] H Q := by
  unfold opRem
  exact ⟨a, ns, k, j, rfl, rfl, S.get, hj, hn, q _ S.updL⟩
end

/-! ### slices -/
@[irreducible] def slX (K : PySem.W.Frag) : V → Option Int → Option Int → Hp → VK → Prop := fun x lo hi H Q => rSlL K x lo hi H Q ∨ rSlA K x lo hi H Q ∨ rSlS x lo hi H Q
theorem sl_any {X : Cx} : SlR X (slX X.K) := by
  unfold slX
  exact SlR.or sl_list (SlR.or sl_tupA sl_str)
theorem msl {X : Cx} {e : Expr} {lo hi : Option Expr} {te : TE} {tl th : TO} {p2 pos : Pos} (he : PE X e te) (hl : PO X lo tl) (hu : PO X hi th) : PE X (.Subscript e (.Slice lo hi none p2) pos) (tSl (slX X.K) te tl th) := pe_slice sl_any he hl hu
section
variable {K : PySem.W.Frag} {H : Hp} {Q : VK} {ps : List SP} {a : Addr} {xs : List V} {lo hi : Option Int}
theorem sl_S (S : Star H ps) (h : H a = some (.lst xs)) (q : ∀ p H', Star H' (pt p (.lst (cutV xs lo hi)) :: ps) → Q (.ref p) H') : slX K (.ref a) lo hi H Q := by
  unfold slX
  exact .inl ⟨a, xs, rfl, .of h, fun p hp => q p _ (S.newL hp)⟩
theorem slq_S (S : Star H ps) (h : SqL K H a xs) (q : ∀ p H', Star H' (pt p (.lst (cutV xs lo hi)) :: ps) → Q (.ref p) H') : slX K (.ref a) lo hi H Q := by
  unfold slX
  exact .inl ⟨a, xs, rfl, h, fun p hp => q p _ (S.newL hp)⟩
theorem sls_i {z : Str} (h : z.length ≤ 16777216) (q : Q (.str (cutS z lo hi)) H) : slX K (.str z) lo hi H Q := by
  unfold slX
  exact .inr (.inr ⟨z, rfl, by rw [sizeLine_eq]; exact h, q⟩)
theorem cut_to (k : Nat) : cutV xs none (some (k : Int)) = xs.take k := by
  unfold cutV
  rw [HT.sIx_none, HT.sIx_nat, List.drop_zero, Nat.sub_zero]
  by_cases h : k ≤ xs.length
  · rw [Nat.min_eq_left h]
  · rw [Nat.min_eq_right (by omega), List.take_of_length_le (by omega), List.take_of_length_le (by omega)]
theorem cut_from (k : Nat) : cutV xs (some (k : Int)) none = xs.drop k := by
  unfold cutV
  rw [HT.sIx_none, HT.sIx_nat]
  by_cases h : k ≤ xs.length
  · rw [Nat.min_eq_left h, List.take_of_length_le (by rw [List.length_drop]; omega)]
  · rw [Nat.min_eq_right (by omega), List.drop_of_length_le (by omega), List.drop_of_length_le (by omega), List.take_nil]
theorem cut_mid (k j : Nat) (hj : j ≤ xs.length) (hk : k ≤ j) : cutV xs (some (k : Int)) (some (j : Int)) = (xs.drop k).take (j - k) := by
  unfold cutV
  rw [HT.sIx_nat, HT.sIx_nat, Nat.min_eq_left hj, Nat.min_eq_left (show k ≤ xs.length by omega)]
end

/-! ### reversed -/
@[irreducible] def rvX (K : PySem.W.Frag) (x : V) (H : Hp) (R : It → Hp → Prop) : Prop := ∃ (a : Addr) (xs : List V), x = .ref a ∧ ((SqL K H a xs ∧ R (Itv K a xs.length) H) ∨ (SqT K H a xs ∧ R (RT.ItvT K a xs.length) H))
def iRv (K : PySem.W.Frag) (te : TE) : TI := fun σ H R => te σ H fun v H1 => rvX K v H1 R
theorem mrv {X : Cx} {tg e : Expr} {te : TE} {p pos : Pos} (hg : Gl X "reversed") (hm : X.mg "reversed" = none) (he : PE X e te) (hs : starEach [e] X.env = (false, eval e X.env) :: starEach [] X.env := by rfl) : PI X tg (.Call (.Name "reversed" p) [e] [] pos) (iRv X.K te) := by
  have e : iRv X.K te = RT.iRevA X.K te := by
    unfold iRv RT.iRevA rvX
    rfl
  rw [e]
  exact RT.pi_revA hg hm he hs
theorem rv_l {K : PySem.W.Frag} {H : Hp} {a : Addr} {xs : List V} {R : It → Hp → Prop} (h : H a = some (.lst xs)) (q : R (Itv K a xs.length) H) : rvX K (.ref a) H R := by
  unfold rvX
  exact ⟨a, xs, rfl, .inl ⟨.of h, q⟩⟩
/-- reversed(range(n)) -/
@[irreducible] def rvrX (x : V) (H : Hp) (R : It → Hp → Prop) : Prop := ∃ n, x = .int n ∧ (-(2 ^ 62) ≤ (0 : Int) ∧ (0 : Int) < 2 ^ 62 ∧ -(2 ^ 62) ≤ n ∧ n < 2 ^ 62 ∧ R (Itc (0 + (((n - 0).toNat : Nat) : Int) - 1) (-1) (n - 0).toNat) H)
def iRvR (te : TE) : TI := fun σ H R => te σ H fun x H1 => rvrX x H1 R
theorem mrvR {X : Cx} {tg a : Expr} {te : TE} {p p1 pos pos1 : Pos} (hg : Gl X "reversed") (hm : X.mg "reversed" = none) (hg1 : Gl X "range") (hm1 : X.mg "range" = none) (ha : PE X a te) (na : starEach [a] X.env = (false, eval a X.env) :: starEach [] X.env := by rfl)
    (hs : starEach [(Expr.Call (.Name "range" p1) [a] [] pos1)] X.env = (false, eval (.Call (.Name "range" p1) [a] [] pos1) X.env) :: starEach [] X.env := by rfl) :
    PI X tg (.Call (.Name "reversed" p) [.Call (.Name "range" p1) [a] [] pos1] [] pos) (iRvR te) := by
  have e : iRvR te = iRevR (tRg1 te) := by
    unfold iRvR iRevR tRg1 rvrX
    rfl
  rw [e]
  exact pi_revR hg hm (prg_1 hg1 hm1 ha na) hs
theorem rvr_i {n : Nat} {H : Hp} {R : It → Hp → Prop} (hn : n < 4611686018427387904) (q : R (Itc ((n : Int) - 1) (-1) n) H) : rvrX (.int (n : Int)) H R := by
  unfold rvrX
  have e62 : (2 : Int) ^ 62 = 4611686018427387904 := by decide
  have e1 : ((n : Int) - 0).toNat = n := by omega
  refine ⟨n, rfl, by rw [e62]; omega, by rw [e62]; omega, by rw [e62]; omega, by rw [e62]; omega, ?_⟩
  rw [e1]
  have e2 : (0 : Int) + (n : Nat) - 1 = (n : Int) - 1 := by omega
  rw [e2]
  exact q

/-! ### try .. except C -/
@[irreducible] def wOnM (tbl : List (Value × Bool)) (ts : Addr → Value → Option Addr → TS) (Wout : WX) (D : Ends) : WX := fun cls d σ H => ((cls, true) ∈ tbl ∧ ∀ a, H a = none → ts a cls d D σ H) ∨ ((cls, false) ∈ tbl ∧ Wout cls d σ H)
def sTryO (tbl : List (Value × Bool)) (W : WX) (tb : WX → TS) (ts : Addr → Value → Option Addr → TS) : TS := fun D σ H => tb (wOnM tbl ts W D) D σ H
section
variable {tbl : List (Value × Bool)} {ts : Addr → Value → Option Addr → TS} {Wout : WX} {D : Ends} {cls : Value} {d : Option Addr} {σ : L2.St} {H : Hp}
theorem won_y (h : (cls, true) ∈ tbl) (q : ∀ a, H a = none → ts a cls d D σ H) : wOnM tbl ts Wout D cls d σ H := by
  unfold wOnM
  exact .inl ⟨h, q⟩
theorem won_n (h : (cls, false) ∈ tbl) (q : Wout cls d σ H) : wOnM tbl ts Wout D cls d σ H := by
  unfold wOnM
  exact .inr ⟨h, q⟩
end
section
variable {X : Cx} {x : Str} {c : Value} {body suite : List Stmt} {b₀ : Stmt} {np pos pos' : Pos} {tb : WX → TS} {ts : Addr → Value → Option Addr → TS} {Wout : WX} {tbl : List (Value × Bool)}
theorem mtry_o (hs : X.stack = X.env :: X.outer) (hf : X.env.frame = some X.env.locals) (hc : Names X x c) (tk : Takes X Wout)
    (ht : ∀ cls b, (cls, b) ∈ tbl → PySem.W.exmOne X.K cls c = some b)
    (hb : ∀ (W : WX) (pn : List (Addr × Obj)) (xe : Value → Shared → Prop), Takes (X.tr pn xe) W → PassesOwn (model X.prog X.w) X.A X.env xe → PSs (X.tr pn xe) body (tb W))
    (hsu : ∀ (a : Addr) (oe : Obj) (cls : Value) (d : Option Addr) (pn : List (Addr × Obj)), Zc cls d oe → (∃ vs, oe.data = .fields vs) → PSs (X.suite a ((a, oe) :: pn)) (b₀ :: suite) (ts a cls d)) :
    PS X (.Try body [.ExceptHandler (some (.Name x np)) none (b₀ :: suite) pos'] [] [] pos) (sTryO tbl Wout tb ts) := by
  have R := ps_try_only (pos := pos) (np := np) (pos' := pos') (tb := fun W D σ H => ∃ W' : WX, (∀ c d σ H, W' c d σ H → W c d σ H) ∧ tb W' D σ H) hs hf hc tk (fun W pn xe t po => ⟨fun pins s σ H D I h => by
    obtain ⟨W', hw, h⟩ := h
    exact (hb W' pn xe (t.imp hw) po).run pins s σ H D I h⟩) hsu
  refine ⟨fun pins s σ H D I h => R.run pins s σ H D I ⟨_, ?_, h⟩⟩
  intro cls d σ' H' q
  unfold wOnM at q
  rcases q with ⟨hm, q⟩ | ⟨hm, q⟩
  · exact ⟨true, ht _ _ hm, fun _ => q, fun z => by cases z⟩
  · exact ⟨false, ht _ _ hm, (fun z => by cases z), fun _ => q⟩
end
end MK

namespace MK
open PySem PySem.Spec PyProof.Rows L2
/-! ### zip of two lists -/
@[irreducible] def znX (K : PySem.W.Frag) (vs : List V) (H : Hp) (R : It → Hp → Prop) : Prop := ∃ a b xs ys, vs = [.ref a, .ref b] ∧ SqL K H a xs ∧ SqL K H b ys ∧ R (Itz K a b) H
def iZn (K : PySem.W.Frag) (ta : TA) : TI := fun σ H R => ta σ H fun vs H1 => znX K vs H1 R
theorem mzip {X : Cx} {e e2 : Expr} {ta : TA} {p pos tpos : Pos} {elts : List Expr} {kk : Nat} (hg : Gl X "zip") (hm : X.mg "zip" = none) (ha : PA X [e, e2] ta)
    (hs : starEach [e, e2] X.env = (false, eval e X.env) :: starEach [e2] X.env := by rfl) (hpl : (backTo pos (starEach [e2] X.env)).any (·.1) = false := by rfl) :
    PI X (.Tuple elts kk tpos) (.Call (.Name "zip" p) [e, e2] [] pos) (iZn X.K ta) := by
  have e : iZn X.K ta = iZip X.K ta := by
    unfold iZn iZip znX
    rfl
  rw [e]
  exact pi_zip hg hm ha hs hpl
theorem zn_l {K : PySem.W.Frag} {H : Hp} {a b : Addr} {xs ys : List V} {R : It → Hp → Prop} (h : H a = some (.lst xs)) (h2 : H b = some (.lst ys)) (q : R (Itz K a b) H) : znX K [.ref a, .ref b] H R := by
  unfold znX
  exact ⟨a, b, xs, ys, rfl, .of h, .of h2, q⟩
/-! ### xs[::-1] -/
@[irreducible] def rlX (K : PySem.W.Frag) (x : V) (H : Hp) (Q : VK) : Prop := ∃ a xs, x = .ref a ∧ SqL K H a xs ∧ ∀ p, H p = none → Q (.ref p) (upd H p (.lst xs.reverse))
def eRl (K : PySem.W.Frag) (te : TE) : TE := fun σ H Q => te σ H fun x H1 => rlX K x H1 Q
theorem mrl {X : Cx} {e : Expr} {te : TE} {p1 p2 p3 pos : Pos} {k : Nat} (he : PE X e te) : PE X (.Subscript e (.Slice none none (some (.UnaryOp .USub (.Constant (.int 1) k p1) p2)) p3) pos) (eRl X.K te) := by
  have e : eRl X.K te = tRevL X.K te := by
    unfold eRl tRevL rlX
    rfl
  rw [e]
  exact pe_revL he
theorem rl_S {K : PySem.W.Frag} {H : Hp} {a : Addr} {xs : List V} {ps : List SP} {Q : VK} (S : Star H ps) (h : H a = some (.lst xs)) (q : ∀ p H', Star H' (pt p (.lst xs.reverse) :: ps) → Q (.ref p) H') : rlX K (.ref a) H Q := by
  unfold rlX
  exact ⟨a, xs, rfl, .of h, fun p hp => q p _ (S.newL hp)⟩
/-! ### a, b = c, d -/
def sPar (i j : Nat) (ta : TA) : TS := fun D σ H => ta σ H fun vs H1 => match vs with
  | [v, w] => D.nx ((σ.set i (some v)).set j (some w)) H1
  | _ => False
theorem sPar_eq (i j : Nat) (ta : TA) : sPar i j ta = tPar i j ta := by
  unfold sPar tPar
  funext D σ H
  congr 1
  funext vs H1
  refine propext ⟨fun h => ?_, fun ⟨v, w, e, h⟩ => by subst e; exact h⟩
  match vs, h with
  | [v, w], h => exact ⟨v, w, rfl, h⟩
theorem mpar {X : Cx} {i j : Nat} {x y : Str} {a b : Expr} {ta : TA} {px py pt pos : Pos} {kt k2 pt2} (hc : X.calm = true) (hN : X.N.Nodup) (hi : X.N[i]? = some x) (hj : X.N[j]? = some y) (hij : i ≠ j)
    (hx : X.env.scope.names.lookup x = some .local) (hy : X.env.scope.names.lookup y = some .local) (ha : PA X [a, b] ta)
    (hw : swappedStores [.Tuple [.Name x px, .Name y py] kt pt] (.Tuple [a, b] k2 pt2) X.env = pure (some [x, y]) := by rfl)
    (hs : swapsWithSole [.Tuple [.Name x px, .Name y py] kt pt] (.Tuple [a, b] k2 pt2) pos.line X.env = pure false := by rfl) :
    PS X (.Assign [.Tuple [.Name x px, .Name y py] kt pt] (.Tuple [a, b] k2 pt2) pos) (sPar i j ta) := by
  rw [sPar_eq]
  exact ps_par hc hN hi hj hij hx hy ha hw hs
end MK

namespace MK
open PySem PySem.Spec PyProof.Rows L2

/-! ### dicts: what is at a key -/
theorem valV_drop {κ : Type} [DecidableEq κ] (kvs : List (κ × V)) (k j : κ) : valV (dropK kvs k) j = if j = k then none else valV kvs j := by
  induction kvs with
  | nil =>
    show valV [] j = _
    rw [valV_nil]
    split <;> rfl
  | cons p r ih =>
    by_cases hp : p.1 = k
    · have e : dropK (p :: r) k = dropK r k := by simp [dropK, List.filter_cons, hp]
      rw [e, ih]
      by_cases hj : j = k
      · rw [if_pos hj, if_pos hj]
      · rw [if_neg hj, if_neg hj, valV_neg (fun z => hj (by rw [← z, hp]))]
    · have e : dropK (p :: r) k = p :: dropK r k := by simp [dropK, List.filter_cons, hp]
      rw [e]
      by_cases hj : p.1 = j
      · rw [valV_pos hj, valV_pos hj, if_neg (fun z => hp (hj.trans z))]
      · rw [valV_neg hj, valV_neg hj, ih]

/-! ### in, not in -/
@[irreducible] def inX (K : PySem.W.Frag) (neg : Bool) : R2 := fun x y H Q => rIn K neg x y H Q ∨ ∃ a o, y = .ref a ∧ DGet H a x o ∧ Q (.bl (if neg then !o.isSome else o.isSome)) H
section
variable {X : Cx}
theorem o_in (hu : X.A.units + 64 < cLine) : OpR X (compareOp .In) (inX X.K false) := by
  intro pins s σ H x y v u Q I rx ry q
  unfold inX at q
  rcases q with q | ⟨a, o, ey, g, q⟩
  · exact op_in_seq pins s σ H x y v u Q I rx ry q
  · subst ey
    cases (show u = Value.ref a from ry)
    exact d_in (by omega) I g rx fun s3 I3 => ⟨.bl o.isSome, H, I3, rfl, q⟩
theorem o_ni (hu : X.A.units + 64 < cLine) : OpR X (compareOp .NotIn) (inX X.K true) := by
  intro pins s σ H x y v u Q I rx ry q
  unfold inX at q
  rcases q with q | ⟨a, o, ey, g, q⟩
  · exact op_notIn_seq pins s σ H x y v u Q I rx ry q
  · subst ey
    cases (show u = Value.ref a from ry)
    exact d_notIn (by omega) I g rx fun s3 I3 => ⟨.bl (!o.isSome), H, I3, rfl, q⟩
end
section
variable {K : PySem.W.Frag} {H : Hp} {Q : VK} {ps : List SP} {a b p : Addr} {xs ys : List V} {x y v : V} {n : Int} {neg : Bool}
theorem in_l (h : H a = some (.lst xs)) (fx : flatV x = true) (f : xs.all flatV = true) (q : Q (.bl (if neg then !inV x xs else inV x xs)) H) : inX K neg x (.ref a) H Q := by
  unfold inX
  exact .inl ⟨a, xs, rfl, .inl (.of h), fx, f, q⟩
theorem in_t (h : H a = some (.tup xs)) (fx : flatV x = true) (f : xs.all flatV = true) (q : Q (.bl (if neg then !inV x xs else inV x xs)) H) : inX K neg x (.ref a) H Q := by
  unfold inX
  exact .inl ⟨a, xs, rfl, .inr (.of h), fx, f, q⟩
theorem in_d {kvs : List (Key × V)} {k : Key} (h : H a = some (.dK kvs)) (q : Q (.bl (if neg then !(valV kvs k).isSome else (valV kvs k).isSome)) H) : inX K neg (kV k) (.ref a) H Q := by
  unfold inX
  exact .inr ⟨a, _, rfl, DGet.k h, q⟩
theorem in_di {kvs : List (Key × V)} (h : H a = some (.dK kvs)) (q : Q (.bl (if neg then !(valV kvs (.inl n)).isSome else (valV kvs (.inl n)).isSome)) H) : inX K neg (.int n) (.ref a) H Q := in_d (k := .inl n) h q
theorem in_ds {kvs : List (Key × V)} {z : Str} (h : H a = some (.dK kvs)) (q : Q (.bl (if neg then !(valV kvs (.inr z)).isSome else (valV kvs (.inr z)).isSome)) H) : inX K neg (.str z) (.ref a) H Q := in_d (k := .inr z) h q
theorem in_dt {kvs : List (List Key × V)} {k : List Key} (h : H a = some (.dT kvs)) (hb : H b = some (.tup (k.map kV))) (q : Q (.bl (if neg then !(valV kvs k).isSome else (valV kvs k).isSome)) H) : inX K neg (.ref b) (.ref a) H Q := by
  unfold inX
  exact .inr ⟨a, _, rfl, DGet.t h hb, q⟩
/-- whole numbers in a list of whole numbers -/
theorem inV_ints {ns : List Int} : inV (.int n) (ns.map V.int) = decide (n ∈ ns) := by
  unfold inV
  rw [List.any_map]
  induction ns with
  | nil => rfl
  | cons m r ih =>
    rw [List.any_cons, ih]
    show (decide _ || _) = _
    by_cases e : m = n
    · subst e
      simp [eqV]
    · have e2 : ¬ (n = m) := fun z => e z.symm
      simp [eqV, e, e2]
theorem flat_ints {ns : List Int} : (ns.map V.int).all flatV = true := by
  rw [List.all_map]
  exact List.all_eq_true.mpr fun _ _ => rfl
/-- stores into a dict -/
theorem setd_i {Q : Hp → Prop} {kvs : List (Key × V)} (S : Star H (pt a (.dK kvs) :: ps)) (z : kvs.length < 16777216) (q : ∀ H', Star H' (pt a (.dK (putK kvs (.inl n) v)) :: ps) → Q H') : setX (.ref a) (.int n) v H Q := set_dk (k := .inl n) S.get z (q _ (S.upd' id))
theorem setd_s {Q : Hp → Prop} {w : Str} {kvs : List (Key × V)} (S : Star H (pt a (.dK kvs) :: ps)) (z : kvs.length < 16777216) (q : ∀ H', Star H' (pt a (.dK (putK kvs (.inr w) v)) :: ps) → Q H') : setX (.ref a) (.str w) v H Q := set_dk (k := .inr w) S.get z (q _ (S.upd' id))
theorem setd_t {Q : Hp → Prop} {kvs : List (List Key × V)} {k : List Key} (S : Star H (pt a (.dT kvs) :: ps)) (hb : H b = some (.tup (k.map kV))) (z : kvs.length < 16777216) (q : ∀ H', Star H' (pt a (.dT (putK kvs k v)) :: ps) → Q H') : setX (.ref a) (.ref b) v H Q := set_dt S.get hb z (q _ (S.upd' id))
end

/-! ### displays -/
def tPs : List (TE × TE) → L2.St → Hp → (List (V × V) → Hp → Prop) → Prop
  | [], _, H, Q => Q [] H
  | (tk, tv) :: r, σ, H, Q => tk σ H fun x H1 => tv σ H1 fun y H2 => tPs r σ H2 fun ps H3 => Q ((x, y) :: ps) H3
theorem tPs_eq : ∀ (trs : List (TE × TE)) (σ : L2.St) (H : Hp) (Q : List (V × V) → Hp → Prop), tPs trs σ H Q = tPairs trs σ H Q
  | [], _, _, _ => rfl
  | (tk, tv) :: r, σ, H, Q => by
    show (tk σ H fun x H1 => tv σ H1 fun y H2 => tPs r σ H2 fun ps H3 => Q ((x, y) :: ps) H3) = (tk σ H fun x H1 => tv σ H1 fun y H2 => tPairs r σ H2 fun ps H3 => Q ((x, y) :: ps) H3)
    congr 1
    funext x H1
    congr 1
    funext y H2
    exact tPs_eq r σ H2 _
@[irreducible] def disX (v : V) (ps : List (V × V)) (H : Hp) (Q : VK) : Prop := ∃ (p : Addr) (kvs : List (Key × V)), v = .ref p ∧ H p = some (.dK []) ∧ ps = kvs.map (fun kv => (kV kv.1, kv.2)) ∧ kvs.length ≤ 15 ∧ Q (.ref p) (upd H p (.dK (mergeK [] kvs)))
def eDis (trs : List (TE × TE)) : TE := fun σ H Q => nwO (.dK []) H fun v H1 => tPs trs σ H1 fun ps H2 => disX v ps H2 Q
theorem mdis {X : Cx} {pos : Pos} {keys : List (Option Expr)} {values : List Expr} {trs : List (TE × TE)} (h : PPs X pos keys values trs) (hall : keys.all (·.isSome) = true := by rfl) (hl : keys.length = values.length := by rfl) (h0 : keys ≠ [] := by intro z; cases z)
    (h15 : keys.length ≤ 15 := by decide) : PE X (.Dict keys values pos) (eDis trs) := by
  refine pe_imp (pe_disp h hall hl h0 h15) fun σ H Q q => ?_
  unfold eDis at q
  intro p hp
  have q := nwO_e q p hp
  rw [tPs_eq] at q
  have mono : ∀ (trs : List (TE × TE)) (H : Hp) (A B : List (V × V) → Hp → Prop), (∀ ps H, A ps H = B ps H) → tPairs trs σ H A = tPairs trs σ H B := fun trs H A B e => by
    have : A = B := by
      funext ps H
      exact e ps H
    rw [this]
  have e : ∀ (ps : List (V × V)) (H2 : Hp), disX (.ref p) ps H2 Q = (H2 p = some (.dK []) ∧ ∃ kvs : List (Key × V), ps = kvs.map (fun kv => (kV kv.1, kv.2)) ∧ kvs.length ≤ 15 ∧ Q (.ref p) (upd H2 p (.dK (mergeK [] kvs)))) := fun ps H2 => by
    unfold disX
    refine propext ⟨?_, ?_⟩
    · rintro ⟨p', kvs, e1, e2, e3, e4, e5⟩
      cases e1
      exact ⟨e2, kvs, e3, e4, e5⟩
    · rintro ⟨e2, kvs, e3, e4, e5⟩
      exact ⟨p, kvs, rfl, e2, e3, e4, e5⟩
  rw [mono trs _ _ _ e] at q
  exact q
theorem dis_S {H : Hp} {Q : VK} {F : List SP} {p : Addr} {ps : List (V × V)} (kvs : List (Key × V)) (S : Star H (pt p (.dK []) :: F)) (e : ps = kvs.map fun kv => (kV kv.1, kv.2)) (em : mergeK [] kvs = kvs) (hl : kvs.length ≤ 15) (q : ∀ H', Star H' (pt p (.dK kvs) :: F) → Q (.ref p) H') : disX (.ref p) ps H Q := by
  unfold disX
  refine ⟨p, kvs, rfl, S.get, e, hl, ?_⟩
  rw [em]
  exact q _ (S.upd' id)

/-! ### pop, get, setdefault -/
@[irreducible] def isDX (x : V) (H : Hp) (R : Prop) : Prop := ∃ a, x = .ref a ∧ IsD H a ∧ R
@[irreducible] def popX (x y : V) (H : Hp) (Q : VK) : Prop := ∃ a kvs k v, x = .ref a ∧ H a = some (.dK kvs) ∧ y = kV k ∧ valV kvs k = some v ∧ Q v (upd H a (.dK (dropK kvs k)))
def eDPop (td ty : TE) : TE := fun σ H Q => td σ H fun x H1 => isDX x H1 (ty σ H1 fun y H2 => popX x y H2 Q)
theorem te_imp {X : Cx} {e : Expr} {te : TE} (h : PE X e te) {t' : TE} (i : ∀ σ H Q, t' σ H Q → te σ H Q) : PE X e t' := pe_imp h i
theorem dpop1 {X : Cx} {o e : Expr} {td ty : TE} {apos cpos : Pos} (ho : PE X o td) (he : PE X e ty) (m : M1 X o "pop" apos e cpos := by exact ⟨rfl, rfl, rfl, rfl⟩) : PE X (.Call (.Attribute o "pop" apos) [e] [] cpos) (eDPop td ty) := by
  refine ⟨fun pins s σ H Q I h => ?_⟩
  refine wpAny_Call_method m.base m.few m.line PySem.F.plainAttrs_dict PySem.F.slot_dict_pop PySem.F.type_dict_pop (thn (ho.run pins s σ H _ I h) fun u s1 ⟨x, H1, I1, rx, q0⟩ => ?_)
  unfold isDX at q0
  obtain ⟨a, ex, d, q1⟩ := q0
  subst ex
  obtain rfl : u = Value.ref a := rx
  obtain ⟨t1, t2, _⟩ := isD_at I1 d
  refine ⟨t1, t2, ?_⟩
  rw [m.trees]
  refine Calls.callWith_builtin rfl (Calls.evalArgs_plain (Calls.spliced_cons (thn (he.run pins s1 σ H1 _ I1 q1) fun iv s2 ⟨y, H2, I2, ry, q2⟩ => Calls.spliced_nil ?_)))
  unfold popX at q2
  obtain ⟨a', kvs, k, v, ea', ea, ey, l, q2⟩ := q2
  cases ea'
  subst ey
  exact d_pop I2 ea ry l (.inl rfl) fun w' s3 I3 rw' => ⟨v, _, I3, rw', q2⟩
section
variable {H : Hp} {Q : VK} {F : List SP} {a : Addr} {n : Int} {v w : V} {R : Prop} {kvs : List (Key × V)}
theorem isd_S (S : Star H (pt a (.dK kvs) :: F)) (q : R) : isDX (.ref a) H R := by
  unfold isDX
  exact ⟨a, rfl, .inl ⟨kvs, .inl S.get⟩, q⟩
theorem isdt_S {kvs : List (List Key × V)} (S : Star H (pt a (.dT kvs) :: F)) (q : R) : isDX (.ref a) H R := by
  unfold isDX
  exact ⟨a, rfl, .inr ⟨kvs, .inl S.get⟩, q⟩
theorem dpop_i (S : Star H (pt a (.dK kvs) :: F)) (e : valV kvs (.inl n) = some v) (q : ∀ H', Star H' (pt a (.dK (dropK kvs (.inl n))) :: F) → Q v H') : popX (.ref a) (.int n) H Q := by
  unfold popX
  exact ⟨a, kvs, .inl n, v, rfl, S.get, rfl, e, q _ (S.upd' id)⟩
end
@[irreducible] def getX (x y z : V) (H : Hp) (Q : VK) : Prop := ∃ a o, x = .ref a ∧ DGet H a y o ∧ Q (o.getD z) H
def eDGet (td ty tx : TE) : TE := fun σ H Q => td σ H fun x H1 => isDX x H1 (ty σ H1 fun y H2 => tx σ H2 fun z H3 => getX x y z H3 Q)
theorem dget2 {X : Cx} {o e f : Expr} {td ty tx : TE} {apos cpos : Pos} (hu : X.A.units + 64 < cLine) (ho : PE X o td) (he : PE X e ty) (hf : PE X f tx) (m : M2 X o "get" apos e f cpos := by exact ⟨rfl, rfl, rfl, rfl⟩) : PE X (.Call (.Attribute o "get" apos) [e, f] [] cpos) (eDGet td ty tx) := by
  refine ⟨fun pins s σ H Q I h => ?_⟩
  refine wpAny_Call_method m.base m.few m.line PySem.F.plainAttrs_dict PySem.F.slot_dict_get PySem.F.type_dict_get (thn (ho.run pins s σ H _ I h) fun u s1 ⟨x, H1, I1, rx, q0⟩ => ?_)
  unfold isDX at q0
  obtain ⟨a, ex, d, q1⟩ := q0
  subst ex
  obtain rfl : u = Value.ref a := rx
  obtain ⟨t1, t2, _⟩ := isD_at I1 d
  refine ⟨t1, t2, ?_⟩
  rw [m.trees]
  refine Calls.callWith_builtin rfl (Calls.evalArgs_plain (Calls.spliced_cons (thn (he.run pins s1 σ H1 _ I1 q1) fun iv s2 ⟨y, H2, I2, ry, q2⟩ =>
    Calls.spliced_cons (thn (hf.run pins s2 σ H2 _ I2 q2) fun fv s3 ⟨z, H3, I3, rz, q3⟩ => Calls.spliced_nil ?_))))
  unfold getX at q3
  obtain ⟨a', ov, ea', g, q3⟩ := q3
  cases ea'
  exact d_get2 (by omega) I3 g ry rz fun w' s4 I4 rw' => ⟨ov.getD z, H3, I4, rw', q3⟩
section
variable {H : Hp} {Q : VK} {F : List SP} {a b : Addr} {n : Int} {v w : V} {kvs : List (Key × V)}
theorem dget_i (h : H a = some (.dK kvs)) (q : Q ((valV kvs (.inl n)).getD w) H) : getX (.ref a) (.int n) w H Q := by
  unfold getX
  exact ⟨a, _, rfl, DGet.k (k := .inl n) h, q⟩
theorem dget_t {kvs : List (List Key × V)} {k : List Key} (h : H a = some (.dT kvs)) (hb : H b = some (.tup (k.map kV))) (q : Q ((valV kvs k).getD w) H) : getX (.ref a) (.ref b) w H Q := by
  unfold getX
  exact ⟨a, _, rfl, DGet.t h hb, q⟩
end

/-! ### dict(x), list(d) -/
@[irreducible] def dctX (K : PySem.W.Frag) (x : V) (H : Hp) (Q : VK) : Prop := (∃ a kvs, x = .ref a ∧ Rd H a (.dK kvs) ∧ nwO (.dK kvs) H Q) ∨
  ∃ (a : Addr) (ps : List Addr) (kvs : List (Key × V)), x = .ref a ∧ SqL K H a (ps.map V.ref) ∧ Paired (fun p kv => SqT K H p [kV kv.1, kv.2]) ps kvs ∧ nwO (.dK (mergeK [] kvs)) H Q
def cDict (K : PySem.W.Frag) : List V → Hp → VK → Prop := fun xs H Q => match xs with
  | [x] => dctX K x H Q
  | _ => False
theorem k_dict {X : Cx} (hc : X.calm = true) : CallR X (.type "dict") (cDict X.K) := call_imp (call_or call_dictD (call_dictP hc)) fun xs H Q q => by
  unfold cDict at q
  split at q
  · unfold dctX at q
    rcases q with ⟨a, kvs, e, h, q⟩ | ⟨a, ps, kvs, e, h, h2, q⟩
    · subst e
      exact .inl ⟨a, kvs, rfl, h, nwO_e q⟩
    · subst e
      exact .inr ⟨a, ps, kvs, rfl, h, h2, nwO_e q⟩
  · exact q.elim
theorem dct_S {K : PySem.W.Frag} {H : Hp} {Q : VK} {F : List SP} {a : Addr} {kvs : List (Key × V)} (S : Star H F) (h : H a = some (.dK kvs)) (q : ∀ p H', Star H' (pt p (.dK kvs) :: F) → Q (.ref p) H') : dctX K (.ref a) H Q := by
  unfold dctX
  exact .inl ⟨a, kvs, rfl, .inl h, nwO_i fun p hp => q p _ (S.new' hp id)⟩
theorem dctp_S {K : PySem.W.Frag} {H : Hp} {Q : VK} {F : List SP} {a : Addr} {ps : List Addr} {kvs : List (Key × V)} (S : Star H F) (h : H a = some (.lst (ps.map V.ref))) (h2 : Paired (fun p kv => SqT K H p [kV kv.1, kv.2]) ps kvs) (q : ∀ p H', Star H' (pt p (.dK (mergeK [] kvs)) :: F) → Q (.ref p) H') : dctX K (.ref a) H Q := by
  unfold dctX
  exact .inr ⟨a, ps, kvs, rfl, .of h, h2, nwO_i fun p hp => q p _ (S.new' hp id)⟩

/-! ### op= -/
def agAdd : V → V → Hp → VK → Prop := fun x y H Q => match x, y with
  | .int i, .int j => Q (.int (i + j)) H
  | _, _ => False
def agSub : V → V → Hp → VK → Prop := fun x y H Q => match x, y with
  | .int i, .int j => Q (.int (i - j)) H
  | _, _ => False
section
variable {X : Cx} {op : Operator} {o e i value : Expr} {f : Str} {pos tpos : Pos} {to tv te ti : TE} {cs : List Addr} {r : V → V → Hp → VK → Prop}
theorem g_add : InOp X .Add agAdd := fun pins s σ H x y u v Q I rx ry q => by
  unfold agAdd at q
  split at q
  · exact in_add pins s σ H _ _ u v Q I rx ry ⟨_, _, rfl, rfl, q⟩
  · exact q.elim
theorem g_sub : InOp X .Sub agSub := fun pins s σ H x y u v Q I rx ry q => by
  unfold agSub at q
  split at q
  · exact in_sub pins s σ H _ _ u v Q I rx ry ⟨_, _, rfl, rfl, q⟩
  · exact q.elim
def sAgF (cs : List Addr) (f : Str) (r : V → V → Hp → VK → Prop) (to tv : TE) : TS := fun D σ H => to σ H fun x H1 => fldX cs f x H1 fun v H2 => tv σ H2 fun y H3 => r v y H3 fun z H4 => stfX cs f z x H4 (D.nx σ)
theorem magf (ho : PE X o to) (hv : PE X value tv) (hop : InOp X op r) (hc : ∀ C ∈ cs, Cls X.K C ∧ NoAttr X.K C f) : PS X (.AugAssign (.Attribute o f tpos) op value pos) (sAgF cs f r to tv) := by
  refine ⟨fun pins s σ H D I h => ?_⟩
  refine wpAny_AugAssign_AttributeAny (thn (ho.run pins s σ H _ I h) fun ov s1 ⟨x, H1, I1, rx, q⟩ => ?_)
  unfold fldX at q
  obtain ⟨a, C, dx, fs, v, ex, hC, ea, l, q⟩ := q
  subst ex
  obtain rfl : ov = Value.ref a := rx
  refine getattr_ok I1 ea (hc C hC).1 (hc C hC).2 l fun u s2 I2 ru => thn (hv.run pins s2 σ H1 _ I2 q) fun w3 s3 ⟨y, H2, I3, ry, q3⟩ => thn (hop pins s3 σ H2 v y u w3 _ I3 ru ry q3) fun w4 s4 ⟨z, H3, I4, rz, q4⟩ => ?_
  unfold stfX at q4
  obtain ⟨a', C', dx', fs', ex', hC', ea', l', q4⟩ := q4
  cases ex'
  exact setattr_ok I4 ea' (hc C' hC').1 (hc C' hC').2 l' rz fun s5 I5 => ⟨σ, _, I5, q4⟩
@[irreducible] def agdX (x y : V) (H : Hp) (R : V → Prop) : Prop := ∃ a v, x = .ref a ∧ DGet H a y (some v) ∧ R v
@[irreducible] def agpX (x y z : V) (H : Hp) (Q : Hp → Prop) : Prop := ∃ a H5, x = .ref a ∧ DPut H a y z H5 ∧ Q H5
def sAgD (r : V → V → Hp → VK → Prop) (to ti tv : TE) : TS := fun D σ H => to σ H fun x H1 => ti σ H1 fun y H2 => agdX x y H2 fun v => tv σ H2 fun w H3 => r v w H3 fun z H4 => agpX x y z H4 (D.nx σ)
theorem magd (hu : X.A.units + 64 < cLine) (ho : PE X o to) (hi : PE X i ti) (hv : PE X value tv) (hop : InOp X op r)
    (ha : ∀ ov iv new, augStore i ov iv new = (do holding [new, ov, iv] (setItem ov iv new); release [new, ov, iv] []; pure .next) := by intro _ _ _; rfl) : PS X (.AugAssign (.Subscript o i tpos) op value pos) (sAgD r to ti tv) := by
  refine ⟨fun pins s σ H D I h => ?_⟩
  refine wpAny_AugAssign_SubscriptAny (thn (ho.run pins s σ H _ I h) fun u s1 ⟨x, H1, I1, rx, q1⟩ => thn (hi.run pins s1 σ H1 _ I1 q1) fun iv s2 ⟨y, H2, I2, ry, q2⟩ => ?_) ha
  unfold agdX at q2
  obtain ⟨a, v, ex, g, q2⟩ := q2
  subst ex
  obtain rfl : u = Value.ref a := rx
  refine d_getItem (by omega) I2 g ry fun w' s3 I3 rw' => thn (hv.run pins s3 σ H2 _ I3 q2) fun w2 s4 ⟨y2, H3, I4, ry2, q3⟩ => thn (hop pins s4 σ H3 v y2 w' w2 _ I4 rw' ry2 q3) fun w3 s5 ⟨z, H4, I5, rz, q4⟩ => ?_
  unfold agpX at q4
  obtain ⟨a', H5, ex', g5, q4⟩ := q4
  cases ex'
  exact d_setItem (by omega) I5 g5 ry rz fun s6 I6 => ⟨σ, H5, I6, q4⟩
/-- x op= e -/
def sAgN (i : Nat) (r : V → V → Hp → VK → Prop) (te : TE) : TS := fun D σ H => match look σ i with
  | some x => te σ H fun y H1 => r x y H1 fun z H2 => D.nx (sput σ i z) H2
  | none => False
theorem magn {i : Nat} {x : Str} {e : Expr} (hN : X.N.Nodup) (hi : X.N[i]? = some x) (hx : Loc X.env.scope x) (he : PE X e te) (ho : PIp X op r) (hf : X.fn x = true ∨ X.env.scope.names.lookup x = some .local := by first | exact .inl rfl | exact .inr rfl) :
    PS X (.AugAssign (.Name x tpos) op e pos) (sAgN i r te) := by
  refine ps_imp (ps_aug hN hi hx he ho hf) fun D σ H q => ?_
  unfold sAgN at q
  cases h : look σ i with
  | none =>
    rw [h] at q
    exact q.elim
  | some v =>
    rw [h] at q
    refine ⟨v, look_get h, ?_⟩
    simp only [sput_eq] at q
    exact q
end
section
variable {H : Hp} {F : List SP} {a : Addr} {n : Int} {v z : V} {kvs : List (Key × V)} {R : V → Prop} {Q : Hp → Prop}
theorem agd_i (h : H a = some (.dK kvs)) (e : valV kvs (.inl n) = some v) (q : R v) : agdX (.ref a) (.int n) H R := by
  unfold agdX
  exact ⟨a, v, rfl, e ▸ DGet.k (k := .inl n) h, q⟩
theorem agp_i (S : Star H (pt a (.dK kvs) :: F)) (hz : kvs.length < 16777216) (q : ∀ H', Star H' (pt a (.dK (putK kvs (.inl n) z)) :: F) → Q H') : agpX (.ref a) (.int n) z H Q := by
  unfold agpX
  exact ⟨a, _, rfl, DPut.k (k := .inl n) S.get (by rw [sizeLine_eq]; exact hz), q _ (S.upd' id)⟩
end
end MK

namespace MK
open PySem PySem.Spec PyProof.Rows L2

/-! ### try with several clauses, each with a name or without one -/
abbrev Sui := Addr → Value → Option Addr → TS
/-- behind the clause its name is unset -/
def unD (i : Nat) (D : Ends) : Ends := { nx := fun σ' H' => D.nx (σ'.set i none) H', rt := D.rt, bk := fun σ' H' => D.bk (σ'.set i none) H', ct := fun σ' H' => D.ct (σ'.set i none) H' }
def oneW (n : Option Nat) (ts : Sui) (D : Ends) (cls : Value) (d : Option Addr) (σ : L2.St) (H : Hp) : Prop := match n with
  | none => ∀ a, H a = none → ts a cls d D σ H
  | some i => ∀ a, H a = none → ts a cls d (unD i D) (σ.set i (some (.ref a))) H
def manyW (K : PySem.W.Frag) (Wout : WX) (D : Ends) : List (Value × Option Nat × Sui) → WX
  | [] => Wout
  | (c, n, ts) :: r => fun cls d σ H => ∃ b, PySem.W.exmOne K cls c = some b ∧ (b = true → oneW n ts D cls d σ H) ∧ (b = false → manyW K Wout D r cls d σ H)
/-- the clauses of the text, and what their suites do -/
inductive Clauses (X : Cx) : List ExceptHandler → List (Value × Option Nat × Sui) → Prop
  | nil : Clauses X [] []
  | plain {x : Str} {c : Value} {ts : Sui} {b₀ : Stmt} {suite : List Stmt} {np pos' : Pos} {hds : List ExceptHandler} {l : List (Value × Option Nat × Sui)} (hc : Names X x c)
      (hsu : ∀ (a : Addr) (oe : Obj) (cls : Value) (d : Option Addr) (pn : List (Addr × Obj)), Zc cls d oe → (∃ vs, oe.data = .fields vs) → PSs (X.suite a ((a, oe) :: pn)) (b₀ :: suite) (ts a cls d)) (r : Clauses X hds l) :
      Clauses X (.ExceptHandler (some (.Name x np)) none (b₀ :: suite) pos' :: hds) ((c, none, ts) :: l)
  | named {x n : Str} {i : Nat} {c : Value} {ts : Sui} {b₀ : Stmt} {suite : List Stmt} {np pos' : Pos} {hds : List ExceptHandler} {l : List (Value × Option Nat × Sui)} (hN : X.N.Nodup) (hi : X.N[i]? = some n) (hln : X.env.kindOf n = some .local) (hc : Names X x c)
      (hsu : ∀ (a : Addr) (oe : Obj) (cls : Value) (d : Option Addr) (pn : List (Addr × Obj)), Zc cls d oe → (∃ vs, oe.data = .fields vs) → PSs (X.suite a ((a, oe) :: pn)) (b₀ :: suite) (ts a cls d)) (r : Clauses X hds l) :
      Clauses X (.ExceptHandler (some (.Name x np)) (some n) (b₀ :: suite) pos' :: hds) ((c, some i, ts) :: l)
section
variable {X : Cx} {body : List Stmt} {h₀ : ExceptHandler} {hds : List ExceptHandler} {l : List (Value × Option Nat × Sui)} {pos : Pos} {tb : WX → TS} {Wout : WX}
theorem ps_clauses (hs : X.stack = X.env :: X.outer) (hf : X.env.frame = some X.env.locals) (tk : Takes X Wout)
    (hb : ∀ (W : WX) (pn : List (Addr × Obj)) (xe : Value → Shared → Prop), Takes (X.tr pn xe) W → PassesOwn (model X.prog X.w) X.A X.env xe → PSs (X.tr pn xe) body (tb W))
    (hh : Clauses X (h₀ :: hds) l) : PS X (.Try body (h₀ :: hds) [] [] pos) (fun D σ H => tb (manyW X.K Wout D l) D σ H) := by
  constructor
  intro pins s σ H D I h
  have ok := I.ok
  have hfr : X.A.frames = some (X.env :: X.outer) := by
    rw [ok.frames, hs]
  let catch_ : Value → Shared → Prop := fun e s₁ => wpAny (model X.prog X.w) X.A (noteFrame e X.env) (fun _ s₂ => wpAny (model X.prog X.w) X.A (setFlight e none) (fun _ s₃ => wpAny (model X.prog X.w) X.A (handleBy e X.env (h₀ :: hds)) (L2.SP X pins D) X.xe s₃) X.xe s₂) X.xe s₁
  refine wpAny_Try_except (wpAny_mono ((hb (manyW X.K Wout D l) (X.pn ++ pins) catch_ (fun u s' xx => ?_) PassesOwn.looking).run [] s σ H D (I.toTry _) h) (fun f s1 hsp => ?_) (fun e s1 he => he))
  · obtain ⟨a, B, sI, pins', σ', H', cls, d, rfl, J', nb, up, sky, na, os, ag, w⟩ := xx
    have J : Inv X pins σ' H' sI := J'.ofTry ok
    have sky' : Sky B (X.env :: X.outer) a (Zc cls d) X.env.locals s'.heap := hs ▸ sky
    show wpAny (model X.prog X.w) X.A (noteFrame (.ref a) X.env) _ _ _
    refine Sky.land Zc.steady hfr hf sky' fun h3 fl3 up3 => ?_
    have J3 : Inv X pins σ' H' { s' with heap := h3 } := J.landed nb fl3.1 (up.trans up3) os ag
    obtain ⟨oe3, vs3, he3, hz3, hd3⟩ := fl3.there
    have nfr : a ∉ frs (X.env :: X.outer) := fun hm => by
      obtain ⟨_, o', e', hnf⟩ := fl3.2.2.1.mem hm
      rw [he3] at e'
      cases e'
      exact hnf _ hd3
    have nL : a ≠ X.env.locals := fun z => nfr (List.mem_filterMap.mpr ⟨X.env, List.mem_cons_self, by rw [hf, z]⟩)
    have nF : a ∉ X.fs := fun hm => by
      obtain ⟨e, he, q⟩ := List.mem_filterMap.mp hm
      exact nfr (List.mem_filterMap.mpr ⟨e, List.mem_cons_of_mem _ he, q⟩)
    have S3 := J3.suite he3 hd3 na nL nF
    have LT : PySem.W.Looks (model X.prog X.w) h3 (typeOf (.ref a)) cls := fun A Q E s k q => wpAny_typeOf_ref (k _ _ he3) (by rw [hz3.1]; exact q)
    have test : ∀ {x : Str} {c : Value} {np : Pos} {Q : Value → Shared → Prop} {E : Value → Shared → Prop}, Names X x c → Q c { s' with heap := h3 } → wpAny (model X.prog X.w) (X.A.mark (some (.ref a))) (eval (.Name x np) X.env) Q E { s' with heap := h3 } := fun {x c np Q E} hc q => by
      obtain ⟨hg, hdbg, hm | ⟨hm, hv, hnn⟩⟩ := hc
      · exact ld_glob (X := X.suite a ((a, oe3) :: (X.pn ++ pins))) S3 hg hm q hdbg
      · exact ld_blt (X := X.suite a ((a, oe3) :: (X.pn ++ pins))) S3 hg hm hv q hnn hdbg
    have go : ∀ {hds' : List ExceptHandler} {l' : List (Value × Option Nat × Sui)}, Clauses X hds' l' → manyW X.K Wout D l' cls d σ' H' → wpAny (model X.prog X.w) X.A (handleBy (.ref a) X.env hds') (L2.SP X pins D) X.xe { s' with heap := h3 } := by
      intro hds' l' hk
      induction hk with
      | nil =>
        intro w
        refine wpAny_handleBy_nil ?_
        obtain ⟨k1, k2, k3, oe, vs, T, oT, ts', he, hz, hd, h1, hr⟩ := id fl3
        unfold PySem.passOn
        refine wpAny_bind (wpAny_field he hd h1 ?_)
        rw [if_neg (show ¬ ((Value.ref T == Value.none) = true) from by simp)]
        have fin : wpAny (model X.prog X.w) X.A (setFlight (.ref a) X.env.frame) (fun _ s4 => wpAny (model X.prog X.w) X.A (throw (.ref a) : Sem Flow) (L2.SP X pins D) X.xe s4) X.xe { s' with heap := h3 } := by
          rw [hf]
          refine HandSPX.setFlight_upZ fl3 fun h4 hh4 up4 => wpAny_throw (tk _ _ ?_)
          exact ⟨a, B, sI, pins, σ', H', cls, d, rfl, J, nb, (up.trans up3).trans up4, .inr (.inr (by rw [hs]; exact hh4)), na, os, ag, w⟩
        first
          | exact wpAny_bind (wpAny_pure (wpAny_bind fin))
          | exact wpAny_bind fin
      | @plain x c ts b₀ suite np pos' hds2 l2 hc hsu r ih =>
        intro w
        obtain ⟨b, hb1, hyes, hno⟩ := w
        refine wpAny_handleBy_cons (codeAny_handlers_test (test hc ((PySem.W.exm_one (M := model X.prog X.w) J3.kIn LT hb1).here ?_))) (by intro q; cases q)
        cases b with
        | false => exact ih (hno rfl)
        | true =>
          refine codeAny_handlers_suite (HandSPX.lands_againZ fl3 fun h4 fl4 up4 => ?_)
          have J4 : Inv X pins σ' H' { s' with heap := h4 } := J.landed nb fl4.1 ((up.trans up3).trans up4) os ag
          obtain ⟨oe4, vs4, he4, hz4, hd4⟩ := fl4.there
          refine wpAny_mono ((hsu a oe4 cls d (X.pn ++ pins) hz4 ⟨_, hd4⟩).run [] _ _ H' _ (J4.suite he4 hd4 na nL nF) (hyes rfl a na)) (fun f s6 hsp => ?_) (fun _ _ z => False.elim z)
          cases f with
          | ret u =>
            obtain ⟨v6, σ6, H6, S6, r6, q6⟩ := hsp
            exact ⟨_, _, _, S6.unsuite ok, r6, q6⟩
          | _ =>
            obtain ⟨σ6, H6, S6, q6⟩ := hsp
            exact ⟨_, _, S6.unsuite ok, q6⟩
      | @named x n i c ts b₀ suite np pos' hds2 l2 hN hi hln hc hsu r ih =>
        intro w
        obtain ⟨b, hb1, hyes, hno⟩ := w
        refine wpAny_handleBy_cons (codeAny_handlers_test (test hc ((PySem.W.exm_one (M := model X.prog X.w) J3.kIn LT hb1).here ?_))) (by intro q; cases q)
        cases b with
        | false => exact ih (hno rfl)
        | true =>
          refine codeAny_handlers_suite_as (HandSPX.lands_againZ fl3 fun h4 fl4 up4 => ?_)
          have J4 : Inv X pins σ' H' { s' with heap := h4 } := J.landed nb fl4.1 ((up.trans up3).trans up4) os ag
          obtain ⟨oe4, vs4, he4, hz4, hd4⟩ := fl4.there
          refine store_ok (X := X.suite a ((a, oe4) :: (X.pn ++ pins))) (v := .ref a) (J4.suite he4 hd4 na nL nF) hN hi (.inl hln) rfl (fun s5 S5 => ?_) (.inr hln)
          refine wpAny_mono ((hsu a oe4 cls d (X.pn ++ pins) hz4 ⟨_, hd4⟩).run [] s5 _ H' _ S5 (hyes rfl a na)) (fun f s6 hsp => ?_) (fun _ _ z => False.elim z)
          have end_ : ∀ {σ6 : L2.St} {H6 : Hp} {Q : Shared → Prop}, Inv (X.suite a ((a, oe4) :: (X.pn ++ pins))) [] σ6 H6 s6 → (∀ s7, Inv X pins (σ6.set i none) H6 s7 → Q s7) →
              wpAny (model X.prog X.w) X.A (do bindName X.env n .none; unbindBehindTheSuite X.env n pos') (fun _ s7 => Q s7) X.xe s6 := fun {σ6 H6 Q} S6 hq => gone_ok (S6.unsuite ok) hN hi hln hq
          cases f with
          | ret u =>
            obtain ⟨v6, σ6, H6, S6, r6, q6⟩ := hsp
            exact end_ S6 fun s7 J7 => ⟨_, _, _, J7, r6, q6⟩
          | _ =>
            obtain ⟨σ6, H6, S6, q6⟩ := hsp
            exact end_ S6 fun s7 J7 => ⟨_, _, J7, q6⟩
    exact go hh w
  · cases f with
    | next =>
      obtain ⟨σ', H', J', q⟩ := hsp
      exact wpAny_execs_nil ⟨σ', H', J'.ofTry ok, q⟩
    | ret u =>
      obtain ⟨v, σ', H', J', r, q⟩ := hsp
      exact ⟨v, σ', H', J'.ofTry ok, r, q⟩
    | _ =>
      obtain ⟨σ', H', J', q⟩ := hsp
      exact ⟨σ', H', J'.ofTry ok, q⟩
end
/-! by tables: which classes a clause takes -/
def wTab0 (Wout : WX) (D : Ends) : List (List (Value × Bool) × Option Nat × Sui) → WX
  | [] => Wout
  | (t, n, ts) :: r => fun cls d σ H => ((cls, true) ∈ t ∧ oneW n ts D cls d σ H) ∨ ((cls, false) ∈ t ∧ wTab0 Wout D r cls d σ H)
@[irreducible] def wTab (Wout : WX) (D : Ends) (hs : List (List (Value × Bool) × Option Nat × Sui)) : WX := wTab0 Wout D hs
def sTryM (hs : List (List (Value × Bool) × Option Nat × Sui)) (W : WX) (tb : WX → TS) : TS := fun D σ H => tb (wTab W D hs) D σ H
section
variable {Wout : WX} {D : Ends} {hs : List (List (Value × Bool) × Option Nat × Sui)} {t : List (Value × Bool)} {cls : Value} {d : Option Addr} {σ : L2.St} {H : Hp} {ts : Sui} {i : Nat}
theorem tab_0 (q : Wout cls d σ H) : wTab Wout D [] cls d σ H := by
  unfold wTab
  exact q
theorem tab_y (h : (cls, true) ∈ t) (q : ∀ a, H a = none → ts a cls d D σ H) : wTab Wout D ((t, none, ts) :: hs) cls d σ H := by
  unfold wTab
  exact .inl ⟨h, q⟩
theorem tab_yn (h : (cls, true) ∈ t) (q : ∀ a, H a = none → ts a cls d (unD i D) (σ.set i (some (.ref a))) H) : wTab Wout D ((t, some i, ts) :: hs) cls d σ H := by
  unfold wTab
  exact .inl ⟨h, q⟩
theorem tab_n {n : Option Nat} (h : (cls, false) ∈ t) (q : wTab Wout D hs cls d σ H) : wTab Wout D ((t, n, ts) :: hs) cls d σ H := by
  unfold wTab at q ⊢
  exact .inr ⟨h, q⟩
end
/-- the table of each clause, as its class says -/
def TabsOk (K : PySem.W.Frag) : List (List (Value × Bool) × Option Nat × Sui) → List (Value × Option Nat × Sui) → Prop
  | [], [] => True
  | (t, n, ts) :: r, (c, n', ts') :: r' => (∀ cls b, (cls, b) ∈ t → PySem.W.exmOne K cls c = some b) ∧ n = n' ∧ ts = ts' ∧ TabsOk K r r'
  | _, _ => False
theorem wTab_many0 {K : PySem.W.Frag} {Wout : WX} {D : Ends} : ∀ {hs : List (List (Value × Bool) × Option Nat × Sui)} {l : List (Value × Option Nat × Sui)}, TabsOk K hs l → ∀ cls d σ H, wTab0 Wout D hs cls d σ H → manyW K Wout D l cls d σ H
  | [], [], _, cls, d, σ, H, q => q
  | (t, n, ts) :: r, (c, n', ts') :: r', ok, cls, d, σ, H, q => by
    obtain ⟨ht, rfl, rfl, ok⟩ := ok
    rcases q with ⟨hm, q⟩ | ⟨hm, q⟩
    · exact ⟨true, ht _ _ hm, fun _ => q, fun z => by cases z⟩
    · exact ⟨false, ht _ _ hm, (fun z => by cases z), fun _ => wTab_many0 ok _ _ _ _ q⟩
  | [], _ :: _, ok, _, _, _, _, _ => ok.elim
  | _ :: _, [], ok, _, _, _, _, _ => ok.elim
theorem wTab_many {K : PySem.W.Frag} {Wout : WX} {D : Ends} {hs : List (List (Value × Bool) × Option Nat × Sui)} {l : List (Value × Option Nat × Sui)} (ok : TabsOk K hs l) (cls : Value) (d : Option Addr) (σ : L2.St) (H : Hp) (q : wTab Wout D hs cls d σ H) : manyW K Wout D l cls d σ H := by
  unfold wTab at q
  exact wTab_many0 ok cls d σ H q
theorem mtry_m {X : Cx} {body : List Stmt} {h₀ : ExceptHandler} {hds : List ExceptHandler} {l : List (Value × Option Nat × Sui)} {hts : List (List (Value × Bool) × Option Nat × Sui)} {pos : Pos} {tb : WX → TS} {Wout : WX}
    (hs : X.stack = X.env :: X.outer) (hf : X.env.frame = some X.env.locals) (tk : Takes X Wout)
    (hb : ∀ (W : WX) (pn : List (Addr × Obj)) (xe : Value → Shared → Prop), Takes (X.tr pn xe) W → PassesOwn (model X.prog X.w) X.A X.env xe → PSs (X.tr pn xe) body (tb W))
    (hh : Clauses X (h₀ :: hds) l) (ok : TabsOk X.K hts l) : PS X (.Try body (h₀ :: hds) [] [] pos) (sTryM hts Wout tb) := by
  have R := ps_clauses (pos := pos) (tb := fun W D σ H => ∃ W' : WX, (∀ c d σ H, W' c d σ H → W c d σ H) ∧ tb W' D σ H) hs hf tk (fun W pn xe t po => ⟨fun pins s σ H D I h => by
    obtain ⟨W', hw, h⟩ := h
    exact (hb W' pn xe (t.imp hw) po).run pins s σ H D I h⟩) hh
  exact ⟨fun pins s σ H D I h => R.run pins s σ H D I ⟨_, wTab_many ok, h⟩⟩

theorem tn_i {D : Ends} {σ : L2.St} {H : Hp} (h : D.nx σ H) : tNext D σ H := h

/-! ### int(x) -/
def cInt : List V → Hp → VK → Prop := fun xs H Q => match xs with
  | [.int i] => Q (.int i) H
  | [.bl k] => Q (.int (if k then 1 else 0)) H
  | _ => False
theorem k_int {X : Cx} : CallR X (.type "int") cInt := call_imp call_int1 fun xs H Q q => by
  unfold cInt at q
  split at q
  · exact .inl ⟨_, rfl, q⟩
  · exact .inr ⟨_, rfl, q⟩
  · exact q.elim
end MK

namespace MK
open PySem PySem.Spec PyProof.Rows L2
/-! ### sum, sorted, abs, str -/
@[irreducible] def sumX (K : PySem.W.Frag) (x : V) (H : Hp) (Q : VK) : Prop := ∃ (a : Addr) (ns : List Int), x = V.ref a ∧ SqL K H a (ns.map V.int) ∧ Q (.int ns.sum) H
def cSum (K : PySem.W.Frag) : List V → Hp → VK → Prop := fun xs H Q => match xs with
  | [x] => sumX K x H Q
  | _ => False
@[irreducible] def srtX (K : PySem.W.Frag) (x : V) (H : Hp) (Q : VK) : Prop := ∃ (a : Addr) (ns : List Int), x = V.ref a ∧ SqL K H a (ns.map V.int) ∧ ∀ (ms : List Int), ms.Perm ns → ms.Pairwise (· ≤ ·) → nwO (.lst (ms.map V.int)) H Q
def cSorted (K : PySem.W.Frag) : List V → Hp → VK → Prop := fun xs H Q => match xs with
  | [x] => srtX K x H Q
  | _ => False
def cAbs : List V → Hp → VK → Prop := fun xs H Q => match xs with
  | [.int i] => Q (.int (if i < 0 then -i else i)) H
  | _ => False
def cStr : List V → Hp → VK → Prop := fun xs H Q => match xs with
  | [.int i] => okI i ∧ Q (.str (toString i)) H
  | [.str a] => Q (.str a) H
  | _ => False
section
variable {X : Cx}
theorem k_sum (hc : X.calm = true) : CallR X (.builtin "sum") (cSum X.K) := call_imp (cr_sum hc) fun xs H Q q => by
  unfold cSum at q
  split at q
  · unfold sumX at q
    obtain ⟨a, ns, e, q⟩ := q
    subst e
    exact ⟨a, ns, rfl, q⟩
  · exact q.elim
theorem k_sorted : CallR X (.builtin "sorted") (cSorted X.K) := call_imp cr_sortedI fun xs H Q q => by
  unfold cSorted at q
  split at q
  · unfold srtX at q
    obtain ⟨a, ns, e, h, q⟩ := q
    subst e
    exact ⟨a, ns, rfl, h, fun ms p hp hw hn => nwO_e (q ms hp hw) p hn⟩
  · exact q.elim
theorem k_abs : CallR X (.builtin "abs") cAbs := call_imp call_abs fun xs H Q q => by
  unfold cAbs at q
  split at q
  · exact ⟨_, rfl, q⟩
  · exact q.elim
theorem k_str : CallR X (.type "str") cStr := call_imp (call_or call_str_int SkE.call_str_str) fun xs H Q q => by
  unfold cStr at q
  split at q
  · exact .inl ⟨_, rfl, q.1, q.2⟩
  · exact .inr ⟨_, rfl, q⟩
  · exact q.elim
end
section
variable {H : Hp} {Q : VK} {K : PySem.W.Frag} {a : Addr} {ns : List Int} {ps : List SP}
theorem sum_l (h : H a = some (.lst (ns.map V.int))) (q : Q (.int ns.sum) H) : sumX K (.ref a) H Q := by
  unfold sumX
  exact ⟨a, ns, rfl, SqL.of h, q⟩
theorem srt_S (S : Star H ps) (h : H a = some (.lst (ns.map V.int))) (q : ∀ ms : List Int, ms.Perm ns → ms.Pairwise (· ≤ ·) → ∀ p H', Star H' (pt p (.lst (ms.map V.int)) :: ps) → Q (.ref p) H') : srtX K (.ref a) H Q := by
  unfold srtX
  exact ⟨a, ns, rfl, SqL.of h, fun ms hp hw => nwO_i fun p hn => q ms hp hw p _ (S.newL hn)⟩
end
/-! ### nested targets -/
def gsOf : List TG → TGs
  | [] => gNil
  | g :: gs => gCons g (gsOf gs)
@[irreducible] def unqX (K : PySem.W.Frag) (n : Nat) (v : V) (H : Hp) (R : List V → Prop) : Prop := ∃ a xs, v = .ref a ∧ (SqT K H a xs ∨ SqL K H a xs) ∧ n = xs.length ∧ R xs
def gUN (K : PySem.W.Frag) (gs : List TG) : TG := fun v σ H Q => unqX K gs.length v H fun xs => gsOf gs xs σ H Q
theorem mgn0 {X : Cx} : PGs X [] (gsOf []) := pgs_nil
theorem mgn1 {X : Cx} {e : Expr} {es : List Expr} {g : TG} {gs : List TG} (h1 : PG X e g) (h2 : PGs X es (gsOf gs)) (hs : (assignEach (e :: es) X.env).map (·.2) = assign e X.env :: (assignEach es X.env).map (·.2) := by rfl) : PGs X (e :: es) (gsOf (g :: gs)) := pgs_cons h1 h2 hs
theorem mgun {X : Cx} {es : List Expr} {gs : List TG} {k : Nat} {pos : Pos} (hc : X.calm = true) (h : PGs X es (gsOf gs)) (hn : (assignEach es X.env).length = gs.length := by rfl) (hst : (assignEach es X.env).findIdx? (·.1) = none := by rfl) :
    PG X (.Tuple es k pos) (gUN X.K gs) := by
  constructor
  intro pins s σ H v u Q I r hw
  unfold gUN unqX at hw
  obtain ⟨a, xs, e1, hq, hl, q⟩ := hw
  rcases hq with hq | hq
  · exact (pg_tup hc h hn hst).run pins s σ H v u Q I r ⟨a, xs, e1, hq, hl.symm, q⟩
  · exact (pg_unl hc h hn hst).run pins s σ H v u Q I r ⟨a, xs, e1, hq, hl.symm, q⟩
section
variable {K : PySem.W.Frag} {H : Hp} {σ : L2.St} {Q : L2.St → Hp → Prop} {g : TG} {gs : List TG} {v : V} {vs xs : List V} {a : Addr} {n : Nat} {R : List V → Prop}
theorem gs_n (q : Q σ H) : gsOf [] [] σ H Q := ⟨rfl, q⟩
theorem gs_c (q : g v σ H fun σ' H' => gsOf gs vs σ' H' Q) : gsOf (g :: gs) (v :: vs) σ H Q := ⟨v, vs, rfl, q⟩
theorem unq_t (h : H a = some (.tup xs)) (hl : n = xs.length) (q : R xs) : unqX K n (.ref a) H R := by
  unfold unqX
  exact ⟨a, xs, rfl, .inl (.of h), hl, q⟩
theorem unq_l (h : H a = some (.lst xs)) (hl : n = xs.length) (q : R xs) : unqX K n (.ref a) H R := by
  unfold unqX
  exact ⟨a, xs, rfl, .inr (.of h), hl, q⟩
end
end MK

namespace MK
open PySem PySem.Spec PyProof.Rows L2

/-! ### {} whose keys will be tuples -/
def eD0T : TE := fun _ H Q => nwO (.dT []) H Q
theorem md0t {X : Cx} {pos : Pos} : PE X (.Dict [] [] pos) eD0T := by
  have e : eD0T = fun _ H Q => ∀ d, H d = none → Q (.ref d) (upd H d (.dT [])) := by
    unfold eD0T nwO
    rfl
  rw [e]
  exact pe_dnewT
theorem al_dt {H : Hp} {ps : List SP} {Q : VK} (S : Star H ps) (q : ∀ p H', Star H' (pt p (.dT []) :: ps) → Q (.ref p) H') : nwO (.dT []) H Q := nwO_i fun p hp => q p _ (S.new' hp id)

/-! ### list(range(..)), tuple(range(..)) -/
def lrX (a b : V) (H : Hp) (Q : VK) : Prop := match a, b with
  | .int i, .int j => RgOk i j ∧ nwO (.lst (rgV i j)) H Q
  | _, _ => False
def trX (a b : V) (H : Hp) (Q : VK) : Prop := match a, b with
  | .int i, .int j => RgOk i j ∧ nwO (.tup (rgV i j)) H Q
  | _, _ => False
def eLR1 (ta : TE) : TE := fun σ H Q => ta σ H fun x H1 => lrX (.int 0) x H1 Q
def eLR2 (ta tb : TE) : TE := fun σ H Q => ta σ H fun x H1 => tb σ H1 fun y H2 => lrX x y H2 Q
def eTR1 (ta : TE) : TE := fun σ H Q => ta σ H fun x H1 => trX (.int 0) x H1 Q
def eTR2 (ta tb : TE) : TE := fun σ H Q => ta σ H fun x H1 => tb σ H1 fun y H2 => trX x y H2 Q
theorem lr_eq (Q : VK) (i : Int) (x : V) (H : Hp) : lrX (.int i) x H Q = ∃ n, x = .int n ∧ (RgOk i n ∧ ∀ q, H q = none → Q (.ref q) (upd H q (.lst (rgV i n)))) := by
  apply propext
  constructor
  · intro q
    unfold lrX at q
    split at q
    · next e1 =>
      cases e1
      exact ⟨_, rfl, q.1, nwO_e q.2⟩
    · exact q.elim
  · rintro ⟨n, rfl, q1, q2⟩
    exact ⟨q1, nwO_i q2⟩
theorem tr_eq (Q : VK) (i : Int) (x : V) (H : Hp) : trX (.int i) x H Q = ∃ n, x = .int n ∧ (RgOk i n ∧ ∀ q, H q = none → Q (.ref q) (upd H q (.tup (rgV i n)))) := by
  apply propext
  constructor
  · intro q
    unfold trX at q
    split at q
    · next e1 =>
      cases e1
      exact ⟨_, rfl, q.1, nwO_e q.2⟩
    · exact q.elim
  · rintro ⟨n, rfl, q1, q2⟩
    exact ⟨q1, nwO_i q2⟩
theorem lr2_eq (Q : VK) (x y : V) (H : Hp) : lrX x y H Q = ∃ i j, x = .int i ∧ y = .int j ∧ (RgOk i j ∧ ∀ q, H q = none → Q (.ref q) (upd H q (.lst (rgV i j)))) := by
  apply propext
  constructor
  · intro q
    unfold lrX at q
    split at q
    · exact ⟨_, _, rfl, rfl, q.1, nwO_e q.2⟩
    · exact q.elim
  · rintro ⟨i, j, rfl, rfl, q1, q2⟩
    exact ⟨q1, nwO_i q2⟩
theorem tr2_eq (Q : VK) (x y : V) (H : Hp) : trX x y H Q = ∃ i j, x = .int i ∧ y = .int j ∧ (RgOk i j ∧ ∀ q, H q = none → Q (.ref q) (upd H q (.tup (rgV i j)))) := by
  apply propext
  constructor
  · intro q
    unfold trX at q
    split at q
    · exact ⟨_, _, rfl, rfl, q.1, nwO_e q.2⟩
    · exact q.elim
  · rintro ⟨i, j, rfl, rfl, q1, q2⟩
    exact ⟨q1, nwO_i q2⟩
section
variable {X : Cx} {a b : Expr} {ta tb : TE} {p p2 pos pos2 : Pos}
theorem mlr1 (hc : X.calm = true) (hg : Gl X "list") (hm : X.mg "list" = none) (hg2 : Gl X "range") (hm2 : X.mg "range" = none) (ha : PE X a ta) (n1 : starEach [a] X.env = (false, eval a X.env) :: starEach [] X.env := by rfl)
    (n2 : starEach [Expr.Call (.Name "range" p2) [a] [] pos2] X.env = (false, eval (Expr.Call (.Name "range" p2) [a] [] pos2) X.env) :: starEach [] X.env := by rfl) : PE X (.Call (.Name "list" p) [.Call (.Name "range" p2) [a] [] pos2] [] pos) (eLR1 ta) := by
  have e : eLR1 ta = tLstRg (tRg1 ta) := by
    funext σ H Q
    unfold eLR1 tLstRg tRg1
    simp only [lr_eq]
  rw [e]
  exact pe_listRg hc hg hm (prg_1 hg2 hm2 ha n1) n2
theorem mlr2 (hc : X.calm = true) (hg : Gl X "list") (hm : X.mg "list" = none) (hg2 : Gl X "range") (hm2 : X.mg "range" = none) (ha : PE X a ta) (hb : PE X b tb) (n1 : starEach [a, b] X.env = (false, eval a X.env) :: starEach [b] X.env := by rfl) (n3 : starEach [b] X.env = (false, eval b X.env) :: starEach [] X.env := by rfl) (hp : (backTo pos2 (starEach [b] X.env)).any (·.1) = false := by rfl)
    (n2 : starEach [Expr.Call (.Name "range" p2) [a, b] [] pos2] X.env = (false, eval (Expr.Call (.Name "range" p2) [a, b] [] pos2) X.env) :: starEach [] X.env := by rfl) : PE X (.Call (.Name "list" p) [.Call (.Name "range" p2) [a, b] [] pos2] [] pos) (eLR2 ta tb) := by
  have e : eLR2 ta tb = tLstRg (tRg2 ta tb) := by
    funext σ H Q
    unfold eLR2 tLstRg tRg2
    simp only [lr2_eq]
  rw [e]
  exact pe_listRg hc hg hm (prg_2 hg2 hm2 ha hb n1 n3 hp) n2
theorem mtr1 (hc : X.calm = true) (hg : Gl X "tuple") (hm : X.mg "tuple" = none) (hg2 : Gl X "range") (hm2 : X.mg "range" = none) (ha : PE X a ta) (n1 : starEach [a] X.env = (false, eval a X.env) :: starEach [] X.env := by rfl)
    (n2 : starEach [Expr.Call (.Name "range" p2) [a] [] pos2] X.env = (false, eval (Expr.Call (.Name "range" p2) [a] [] pos2) X.env) :: starEach [] X.env := by rfl) : PE X (.Call (.Name "tuple" p) [.Call (.Name "range" p2) [a] [] pos2] [] pos) (eTR1 ta) := by
  have e : eTR1 ta = tTupRg (tRg1 ta) := by
    funext σ H Q
    unfold eTR1 tTupRg tRg1
    simp only [tr_eq]
  rw [e]
  exact pe_tupRg hc hg hm (prg_1 hg2 hm2 ha n1) n2
theorem mtr2 (hc : X.calm = true) (hg : Gl X "tuple") (hm : X.mg "tuple" = none) (hg2 : Gl X "range") (hm2 : X.mg "range" = none) (ha : PE X a ta) (hb : PE X b tb) (n1 : starEach [a, b] X.env = (false, eval a X.env) :: starEach [b] X.env := by rfl) (n3 : starEach [b] X.env = (false, eval b X.env) :: starEach [] X.env := by rfl) (hp : (backTo pos2 (starEach [b] X.env)).any (·.1) = false := by rfl)
    (n2 : starEach [Expr.Call (.Name "range" p2) [a, b] [] pos2] X.env = (false, eval (Expr.Call (.Name "range" p2) [a, b] [] pos2) X.env) :: starEach [] X.env := by rfl) : PE X (.Call (.Name "tuple" p) [.Call (.Name "range" p2) [a, b] [] pos2] [] pos) (eTR2 ta tb) := by
  have e : eTR2 ta tb = tTupRg (tRg2 ta tb) := by
    funext σ H Q
    unfold eTR2 tTupRg tRg2
    simp only [tr2_eq]
  rw [e]
  exact pe_tupRg hc hg hm (prg_2 hg2 hm2 ha hb n1 n3 hp) n2
end
/-! ### reading them -/
theorem rgV_nats (n : Nat) : rgV 0 (n : Nat) = (List.range n).map fun (k : Nat) => V.int ((k : Nat) : Int) := by
  unfold rgV
  rw [Int.sub_zero, Int.toNat_natCast]
  refine List.map_congr_left fun k _ => ?_
  rw [Int.zero_add]
theorem lr_S {H : Hp} {Q : VK} {F : List SP} {n : Nat} (S : Star H F) (hn : n ≤ 16777216) (q : ∀ p H', Star H' (pt p (.lst ((List.range n).map fun (k : Nat) => V.int ((k : Nat) : Int))) :: F) → Q (.ref p) H') : lrX (.int 0) (.int ((n : Nat) : Int)) H Q := by
  refine ⟨RgOk.of_le (by decide) (by omega) (by decide) (by omega), ?_⟩
  rw [rgV_nats]
  exact al_l S q
end MK

namespace MK
open PySem PySem.Spec PyProof.Rows L2

/-! ### the head's run, in parts -/
theorem run_app {r : PySem.W.OpenRow} {q : Program} {n M : Nat} {fa1 fa2 : List He.Fa} {fn1 fn2 : List He.DefD} {xa1 xa2 : List Xa} {loose : List Str} {w : World}
    (h1 : HandSHeadRun.RunEq r q (hookM n fa1 fn1 xa1) (fun s => obsM n fa1 fn1 xa1 (HandSHeadRun.getT s)) M loose w)
    (h2 : HandSHeadRun.RunEq r q (hookM n fa2 fn2 xa2) (fun s => obsM n fa2 fn2 xa2 (HandSHeadRun.getT s)) M loose w) :
    HandSHeadRun.RunEq r q (hookM n (fa1 ++ fa2) (fn1 ++ fn2) (xa1 ++ xa2)) (fun s => obsM n (fa1 ++ fa2) (fn1 ++ fn2) (xa1 ++ xa2) (HandSHeadRun.getT s)) M loose w := by
  intro os
  have e1 := h1 os
  have e2 := h2 os
  revert e1 e2
  generalize HandSHeadRun.endF _ _ _ _ _ = x
  intro e1 e2
  cases x with
  | none => cases e1
  | some s =>
    simp only [Option.map_some] at e1 e2 ⊢
    have a1 := Option.some.inj e1
    have a2 := Option.some.inj e2
    have b1 := congrArg (fun z => z.1) a1
    have b2 := congrArg (fun z => z.2.1) a1
    have c1 : obsM n fa1 fn1 xa1 (HandSHeadRun.getT s) = (He.valD fn1, true) := congrArg (fun z => z.2.2) a1
    have c2 : obsM n fa2 fn2 xa2 (HandSHeadRun.getT s) = (He.valD fn2, true) := congrArg (fun z => z.2.2) a2
    have d : obsM n (fa1 ++ fa2) (fn1 ++ fn2) (xa1 ++ xa2) (HandSHeadRun.getT s) = (He.valD (fn1 ++ fn2), true) := by
      unfold obsM He.obsD He.valD at c1 c2 ⊢
      generalize He.frG (HandSHeadRun.getT s) (asM (HandSHeadRun.getT s) n) = K at c1 c2 ⊢
      have p1 := congrArg (fun z : AlM => z.1.1) c1
      have p2 := congrArg (fun z : AlM => z.1.2) c1
      have p3 := congrArg (fun z : AlM => z.2) c1
      have q1 := congrArg (fun z : AlM => z.1.1) c2
      have q2 := congrArg (fun z : AlM => z.1.2) c2
      have q3 := congrArg (fun z : AlM => z.2) c2
      dsimp only at p1 p2 p3 q1 q2 q3
      obtain ⟨p1, p4⟩ := Bool.and_eq_true_iff.mp p1
      obtain ⟨q1, q4⟩ := Bool.and_eq_true_iff.mp q1
      rw [List.all_append, List.all_append, List.all_append, List.map_append, List.map_append, p1, q1, p4, q4, p3, q3, p2, q2]
      all_goals rfl
    show some (_, _, obsM n (fa1 ++ fa2) (fn1 ++ fn2) (xa1 ++ xa2) (HandSHeadRun.getT s)) = some (true, _, (He.valD (fn1 ++ fn2), true))
    rw [d]
    dsimp only at b1 b2
    rw [b1, b2]
    all_goals rfl
end MK

namespace MK
open PySem PySem.Spec PyProof.Rows L2

/-! ### dict(d), its keys tuples -/
theorem dictH_new {prog : Program} {w : World} {A : Around} {E : Value → Shared → Prop} {s : Shared} {K : Type} [DecidableEq K] {knd : HeapKind prog w K} {o : Addr} {more : List (K × Addr × Value)} {Q : Value → Shared → Prop} (hu : knd.room A.in1.in1) (hs : (o == sysModules) = false) (ho : s.heap.DictOfH knd o more) (hz : more.length ≤ sizeLine)
    (hty : ∀ x ∈ more, ∃ ob, s.heap.get? x.2.1 = some ob ∧ ob.cls = .type "tuple") (hap : (more.map fun x => knd.hash x.1).Nodup) (hk : ∀ h' : Heap, (∀ b ob, s.heap.get? b = some ob → h'.get? b = some ob) → ∀ x ∈ more, knd.is h' x.1 x.2.1)
    (k : ∀ h', h'.DictOfH knd s.heap.objs.size more → Heap.SameBut s.heap.objs.size (s.heap.push { cls := .type "dict", data := .dict #[] }) h' → Q (.ref s.heap.objs.size) { s with heap := h' }) : wpAny (model prog w) A (call (.type "dict") [.ref o]) Q E s := by
  refine callType_codes (Q₁ := fun ob t => ob = .ref s.heap.objs.size ∧ t = { s with heap := s.heap.push { cls := .type "dict", data := .dict #[] } }) F.kt_called_dict (F.kt_typeCall_dict_1 _) F.entry_dict_init (kt_code_dict_new _ ⟨rfl, rfl⟩) ?_
  rintro ob t ⟨rfl, rfl⟩
  have old : ∀ b ob, s.heap.get? b = some ob → (s.heap.push { cls := .type "dict", data := .dict #[] }).get? b = some ob := fun b ob e => Heap.get?_push_of_some _ e
  have d1 : (s.heap.push { cls := .type "dict", data := .dict #[] }).DictOfH knd s.heap.objs.size [] := Heap.DictOfH.new s.heap
  have d2 : (s.heap.push { cls := .type "dict", data := .dict #[] }).DictOfH knd o more := by
    obtain ⟨oo, es, ep, h1, h2, h3, h4, _, h6⟩ := ho
    exact ⟨oo, es, ep, old _ _ h1, h2, h3, h4, hk _ old, h6⟩
  have hn : (more.map (·.1)).Nodup := ho.nodup
  have hdo : s.heap.objs.size ≠ o := by
    obtain ⟨_, _, _, hg, _⟩ := ho
    exact fun e => absurd (Heap.lt_size hg) (by rw [e]; exact Nat.lt_irrefl _)
  refine ⟨d1.typeIs, F.args_dict_init_2 _ _, ?_⟩
  unfold Builtin.«dict.__init__»
  refine wpAny_bind ?_
  unfold Builtin.Dict.selfAndRest
  refine wpAny_bind (wpAny_notOrdered_dict d1.typeIs ?_)
  show wpAny _ _ (pure (s.heap.objs.size, [Value.ref o])) _ _ _
  refine wpAny_pure ?_
  show wpAny _ _ (Builtin.Dict.updateFrom "dict.__init__" s.heap.objs.size (.ref o) [] .none) _ _ _
  unfold Builtin.Dict.updateFrom
  refine wpAny_bind (wpAny_typeOf d2.typeIs ?_)
  rw [if_neg (by decide)]
  refine wpAny_bind ?_
  unfold Builtin.Dict.merge
  refine wpAny_bind ?_
  unfold Builtin.Dict.readDirectly
  refine wpAny_bind (wpAny_isInstance d2.typeIs isSubtype_dict_dict ?_)
  simp only [Bool.not_true, Bool.false_eq_true, if_false]
  refine wpAny_bind (wpAny_specialOf d2.typeIs F.slot_dict_iter.lookup (wpAny_pure ?_))
  simp only [beq_self_eq_true, if_true]
  refine wpAny_bind (wpAny_pure ?_)
  refine wpAny_mergeDict_heap (kvs := []) (hsz := by simpa using hz) hu hdo hs d1 d2 (.inr ⟨fun x hx => ?_, hap⟩) fun h' hd' _ hs' => ?_
  · obtain ⟨ob, e1, e2⟩ := hty x hx
    exact ⟨ob, old _ _ e1, e2⟩
  · rw [storedAllH_nil_of_nodup more hn] at hd'
    show wpAny _ _ (Builtin.Dict.addKeywords s.heap.objs.size [] >>= _) _ _ _
    exact wpAny_bind (wpAny_pure (wpAny_pure ⟨rfl, k h' hd' hs'⟩))
/-- the keys' hashes differ, in any world -/
def Apart (kvs : List (List Key × V)) : Prop := ∀ (P : Program) (w : World), (kvs.map fun kv => tupleKeyHash (mixKind P w) kv.1).Nodup
@[irreducible] def dtcX (x : V) (H : Hp) (Q : VK) : Prop := ∃ a kvs, x = .ref a ∧ H a = some (.dT kvs) ∧ Apart kvs ∧ nwO (.dT kvs) H Q
theorem call_dictT {X : Cx} (hu : X.A.units + 64 < cLine) : CallR X (.type "dict") (fun xs H Q => ∃ a kvs, xs = [.ref a] ∧ H a = some (.dT kvs) ∧ Apart kvs ∧ ∀ p, H p = none → Q (.ref p) (upd H p (.dT kvs))) := by
  intro pins s σ H xs us Q I r q
  obtain ⟨a, kvs, rfl, hd, hn, q⟩ := q
  obtain ⟨u, rfl, rx⟩ := r.one
  cases rx
  obtain ⟨z, lo, xs', rel, dd⟩ := dt_of I.hok hd
  have hl : kvs.length = xs'.length := Paired.length rel
  have ek : xs'.map (fun x => tupleKeyHash (mixKind X.prog X.w) x.1) = kvs.map fun kv => tupleKeyHash (mixKind X.prog X.w) kv.1 := by
    have key : ∀ {l : List (List Key × V)} {m : List (List Key × Addr × Value)}, KT H l m → m.map (fun x => tupleKeyHash (mixKind X.prog X.w) x.1) = l.map fun kv => tupleKeyHash (mixKind X.prog X.w) kv.1 := by
      intro l m q
      induction q with
      | nil => rfl
      | cons h _ ih =>
        rw [List.map_cons, List.map_cons, ih, h.1]
    exact key rel
  have his : ∀ x ∈ xs', (tupleKind (mixKind X.prog X.w)).is s.heap x.1 x.2.1 := by
    obtain ⟨_, _, _, _, _, _, _, h5, _⟩ := dd
    exact h5
  refine dictH_new (knd := tupleKind (mixKind X.prog X.w)) (show X.A.units + 1 + 1 < cLine by omega) lo dd (by rw [← hl]; exact z) (fun x hx => ?_) (by rw [show (fun x : List Key × Addr × Value => (tupleKind (mixKind X.prog X.w)).hash x.1) = fun x => tupleKeyHash (mixKind X.prog X.w) x.1 from rfl, ek]; exact hn X.prog X.w) (fun h' kp x hx => ?_) fun h' dd' hs => ?_
  · obtain ⟨ob, its, n, e1, e2, _⟩ := his x hx
    exact ⟨ob, e1, e2⟩
  · obtain ⟨ob, its, n, e1, e2, e3, e4⟩ := his x hx
    exact ⟨ob, its, n, kp _ _ e1, e2, e3, e4⟩
  · refine ⟨.ref s.heap.objs.size, _, I.laid (a := s.heap.objs.size) (o := .dT kvs) (t' := s.toks) (fun b qo hq => ?_) (Nat.le_refl _) ?_, rfl, q _ (I.hok.fresh (Nat.le_refl _))⟩
    · exact (hs.2 b (Nat.ne_of_lt (Heap.lt_size hq))).trans (Heap.get?_push_of_some _ hq)
    · obtain ⟨oo, es, ep, h1, h2, h3, h4, _, h6⟩ := dd'
      refine ⟨z, beq_eq_false_iff_ne.mpr (Ne.symm (Nat.ne_of_lt I.big)), xs', rel.keeps fun b ys e => ?_, oo, es, ep, h1, h2, h3, h4, h6⟩
      rw [upd_ne (fun e2 => by rw [e2] at e; rw [I.hok.fresh (Nat.le_refl _)] at e; cases e)]
      exact e
def cDictT (K : PySem.W.Frag) : List V → Hp → VK → Prop := fun xs H Q => match xs with
  | [x] => dctX K x H Q ∨ dtcX x H Q
  | _ => False
theorem k_dictT {X : Cx} (hc : X.calm = true) (hu : X.A.units + 64 < cLine) : CallR X (.type "dict") (cDictT X.K) := call_imp (call_or (k_dict hc) (call_dictT hu)) fun xs H Q q => by
  unfold cDictT at q
  split at q
  · rcases q with q | q
    · exact .inl q
    · unfold dtcX at q
      obtain ⟨a, kvs, rfl, h1, h2, q⟩ := q
      exact .inr ⟨a, kvs, rfl, h1, h2, nwO_e q⟩
  · exact q.elim
theorem dtc_S {K : PySem.W.Frag} {H : Hp} {Q : VK} {F : List SP} {a : Addr} {kvs : List (List Key × V)} (S : Star H F) (h : H a = some (.dT kvs)) (hn : Apart kvs) (q : ∀ p H', Star H' (pt p (.dT kvs) :: F) → Q (.ref p) H') : dctX K (.ref a) H Q ∨ dtcX (.ref a) H Q := by
  refine .inr ?_
  unfold dtcX
  exact ⟨a, kvs, rfl, h, hn, nwO_i fun p hp => q p _ (S.new' hp id)⟩
theorem dtc_K {K : PySem.W.Frag} {H : Hp} {Q : VK} {F : List SP} {a : Addr} {kvs : List (Key × V)} (S : Star H F) (h : H a = some (.dK kvs)) (q : ∀ p H', Star H' (pt p (.dK kvs) :: F) → Q (.ref p) H') : dctX K (.ref a) H Q ∨ dtcX (.ref a) H Q := .inl (dct_S S h q)

/-! ### d.pop(k), k a tuple -/
@[irreducible] def popTX (x y : V) (H : Hp) (Q : VK) : Prop := popX x y H Q ∨ ∃ a kvs k v b, x = .ref a ∧ H a = some (.dT kvs) ∧ y = .ref b ∧ H b = some (.tup (k.map kV)) ∧ valV kvs k = some v ∧ Q v (upd H a (.dT (dropK kvs k)))
theorem d_popT {X : Cx} {pins : List (Addr × Obj)} {σ : L2.St} {H : Hp} {s : Shared} {a b : Addr} {kvs : List (List Key × V)} {k : List Key} {v : V} {A : Around} {E : Value → Shared → Prop} {Q : Value → Shared → Prop} (hu : A.units + 1 < cLine) (I : Inv X pins σ H s) (e : H a = some (.dT kvs)) (eb : H b = some (.tup (k.map kV))) (l : valV kvs k = some v)
    (h : ∀ w' s', Inv X pins σ (upd H a (.dT (dropK kvs k))) s' → RelV v w' → Q w' s') : wpAny (model X.prog X.w) A (call (.builtin "dict.pop") [.ref a, .ref b]) Q E s := by
  obtain ⟨z, hd, xs', rel, dd⟩ := dt_of I.hok e
  have hz : xs'.length ≤ sizeLine := by rw [← Paired.length rel]; exact z
  have r := rel.val k
  rw [l] at r
  obtain ⟨p0, hp, rv⟩ : ∃ p0, atKey xs' k = some p0 ∧ RelV v p0.2 := by
    cases ea : atKey xs' k with
    | none =>
      rw [ea] at r
      exact (show False from r).elim
    | some p0 =>
      rw [ea] at r
      exact ⟨p0, rfl, r⟩
  refine call_pop_heap (knd := tupleKind (mixKind X.prog X.w)) (k := k) (.inl rfl) (PySem.F.args_dict_pop_2 _ _) (tupleKind_room_in1 hu) (key_of I.hok eb) hd dd hp (fun h' dd' hs => ?_) hz
  refine h _ _ ?_ rv
  obtain ⟨o, es, ep, hq, h2, h3, h4, _, h5⟩ := dd'
  refine d_write I (by rw [e]; exact True.intro) hs ⟨o, hq⟩ ⟨Nat.le_trans (dropK_le kvs k) z, hd, _, (DX.KT_drop k rel).keeps (fun c ys ec => ?_), o, es, ep, hq, h2, h3, h4, h5⟩
  rw [upd_ne (fun z => by rw [z, e] at ec; cases ec)]
  exact ec
def eDPopT (td ty : TE) : TE := fun σ H Q => td σ H fun x H1 => isDX x H1 (ty σ H1 fun y H2 => popTX x y H2 Q)
theorem dpop1T {X : Cx} {o e : Expr} {td ty : TE} {apos cpos : Pos} (hu : X.A.units + 64 < cLine) (ho : PE X o td) (he : PE X e ty) (m : M1 X o "pop" apos e cpos := by exact ⟨rfl, rfl, rfl, rfl⟩) : PE X (.Call (.Attribute o "pop" apos) [e] [] cpos) (eDPopT td ty) := by
  refine ⟨fun pins s σ H Q I h => ?_⟩
  refine wpAny_Call_method m.base m.few m.line PySem.F.plainAttrs_dict PySem.F.slot_dict_pop PySem.F.type_dict_pop (thn (ho.run pins s σ H _ I h) fun u s1 ⟨x, H1, I1, rx, q0⟩ => ?_)
  unfold isDX at q0
  obtain ⟨a, ex, d, q1⟩ := q0
  subst ex
  obtain rfl : u = Value.ref a := rx
  obtain ⟨t1, t2, _⟩ := isD_at I1 d
  refine ⟨t1, t2, ?_⟩
  rw [m.trees]
  refine Calls.callWith_builtin rfl (Calls.evalArgs_plain (Calls.spliced_cons (thn (he.run pins s1 σ H1 _ I1 q1) fun iv s2 ⟨y, H2, I2, ry, q2⟩ => Calls.spliced_nil ?_)))
  unfold popTX at q2
  rcases q2 with q2 | ⟨a', kvs, k, v, b, ea', ea, ey, eb, l, q2⟩
  · unfold popX at q2
    obtain ⟨a', kvs, k, v, ea', ea, ey, l, q2⟩ := q2
    cases ea'
    subst ey
    exact d_pop I2 ea ry l (.inl rfl) fun w' s3 I3 rw' => ⟨v, _, I3, rw', q2⟩
  · cases ea'
    subst ey
    cases (show iv = Value.ref b from ry)
    exact d_popT (by omega) I2 ea eb l fun w' s3 I3 rw' => ⟨v, _, I3, rw', q2⟩
theorem popT_S {H : Hp} {F : List SP} {Q : VK} {a b : Addr} {kvs : List (List Key × V)} {k : List Key} {v : V} (S : Star H (pt a (.dT kvs) :: F)) (hb : H b = some (.tup (k.map kV))) (l : valV kvs k = some v) (q : ∀ H', Star H' (pt a (.dT (dropK kvs k)) :: F) → Q v H') : popTX (.ref a) (.ref b) H Q := by
  unfold popTX
  exact .inr ⟨a, kvs, k, v, b, rfl, S.get, rfl, hb, l, q _ (S.upd' id)⟩

/-! ### sorted(d), its keys pairs of whole numbers; sorted of a list of such pairs -/
/-- the pair at an address -/
def pkA (H : Hp) (b : Addr) : Int × Int := match H b with
  | some (.tup [.int i, .int j]) => (i, j)
  | _ => (0, 0)
def lexL (p q : Int × Int) : Prop := p.1 < q.1 ∨ (p.1 = q.1 ∧ p.2 ≤ q.2)
@[irreducible] def srtTX (x : V) (H : Hp) (Q : VK) : Prop := ∃ a kvs, x = .ref a ∧ H a = some (.dT kvs) ∧ (∀ kv ∈ kvs, ∃ i j : Int, kv.1 = [.inl i, .inl j]) ∧
  ∀ bs : List Addr, (∀ b ∈ bs, ∃ i j : Int, H b = some (.tup [.int i, .int j])) → (bs.map (pkA H)).Perm (kvs.map fun kv => match kv.1 with | [.inl i, .inl j] => (i, j) | _ => (0, 0)) → (bs.map (pkA H)).Pairwise lexL → nwO (.lst (bs.map V.ref)) H Q
theorem call_sortedTD {X : Cx} (hc : X.calm = true) : CallR X (.builtin "sorted") (fun xs H Q => ∃ x, xs = [x] ∧ srtTX x H Q) := by
  intro pins s σ H xs us Q I r q
  obtain ⟨x, rfl, q⟩ := q
  unfold srtTX at q
  obtain ⟨a, kvs, rfl, hd, hkv, q⟩ := q
  obtain ⟨u, rfl, rx⟩ := r.one
  cases rx
  obtain ⟨z, lo, ks, pr, o, es, ep, ho, hx, hdt, he, hn⟩ := (show ObjOk X.prog X.w H s.heap a (.dT kvs) from I.hok a _ hd)
  have l1 : es.size = ks.length := size_of_entries he
  have l2 : kvs.length = ks.length := Paired.length pr
  refine Calls.call_function_entry PyProof.Rows.kind_sorted PyProof.Rows.plain_sorted PyProof.Rows.entry_sorted (PyProof.Rows.args_sorted1 _) ?_
  unfold Builtin.«sorted»
  refine wpAny_bind (m := checkCount "sorted" 1 1 _) (wpAny_pure ?_)
  refine wpAny_bind (PySem.W.kdu_collect (A := X.A.in1) (kdl_raw lo hx hdt) (I.ok.hd hc) ho (by omega) fun h' tk acc hk hacc => ?_)
  have ea : acc.toList = (ks.map fun x => x.2.1).map Value.ref := by
    have hl : acc.toList.length = ks.length := by rw [Array.length_toList, hacc.1]; exact l1
    rw [List.map_map]
    apply List.ext_getElem?
    intro j
    rw [List.getElem?_map]
    cases hj : acc.toList[j]? with
    | none =>
      have h1 := List.getElem?_eq_none_iff.mp hj
      rw [List.getElem?_eq_none (by omega)]
      all_goals rfl
    | some v =>
      obtain ⟨en, hen, hv⟩ := hacc.2 j v (by rw [← Array.getElem?_toList]; exact hj)
      have qe := entry_at he j
      rw [hen] at qe
      cases hb : ks[j]? with
      | none =>
        rw [hb] at qe
        exact nomatch (show some en = none from qe)
      | some b =>
        rw [hb] at qe
        have e2 : en = entryOfKey (tupleKind (mixKind X.prog X.w)) b := Option.some.inj qe
        rw [hv, e2]
        all_goals rfl
  have isk := isKeys_of pr
  have hbs : ∀ b ∈ (ks.map fun x => x.2.1), ∃ i j : Int, H b = some (.tup [.int i, .int j]) := by
    have key : ∀ {l : List (List Key × V)} {m : List Addr}, IsKeys H l m → (∀ kv ∈ l, ∃ i j : Int, kv.1 = [.inl i, .inl j]) → ∀ b ∈ m, ∃ i j : Int, H b = some (.tup [.int i, .int j]) := by
      intro l m q
      induction q with
      | nil => intro _ b hb; cases hb
      | @cons p y ps qs h _ ih =>
        intro hh b hb
        rcases List.mem_cons.mp hb with e | hb
        · subst e
          obtain ⟨i, j, e2⟩ := hh p List.mem_cons_self
          refine ⟨i, j, ?_⟩
          rw [h, e2]
          rfl
        · exact ih (fun kv hkv => hh kv (List.mem_cons_of_mem _ hkv)) b hb
    exact key isk hkv
  have hmap : (ks.map fun x => x.2.1).map (pkA H) = kvs.map fun kv => match kv.1 with | [.inl i, .inl j] => (i, j) | _ => (0, 0) := by
    have key : ∀ {l : List (List Key × V)} {m : List Addr}, IsKeys H l m → (∀ kv ∈ l, ∃ i j : Int, kv.1 = [.inl i, .inl j]) → m.map (pkA H) = l.map fun kv => match kv.1 with | [.inl i, .inl j] => (i, j) | _ => (0, 0) := by
      intro l m q
      induction q with
      | nil => intro _; rfl
      | @cons p y ps qs h _ ih =>
        intro hh
        obtain ⟨i, j, e2⟩ := hh p List.mem_cons_self
        rw [List.map_cons, List.map_cons, ih (fun kv hkv => hh kv (List.mem_cons_of_mem _ hkv)), e2]
        congr 1
        unfold pkA
        rw [h, e2]
        rfl
    exact key isk hkv
  have I1 : Inv X pins σ H { s with heap := h', toks := tk } := I.kept hk
  have hzl : acc.toList.length ≤ sizeLine := by rw [ea, List.length_map, List.length_map]; omega
  refine wpAny_bind (wpAny_newList ?_ hzl)
  have hoL : (h'.push (seqObj "list" acc.toList.toArray 0)).get? h'.objs.size = some (seqObj "list" acc.toList.toArray 0) := Heap.get?_push_size _ rfl
  let kf : Value → Int × Int := fun u => match u with | .ref b => pkA H b | _ => (0, 0)
  have hp : ∀ v ∈ acc.toList, Srt.IsPair (h'.push (seqObj "list" acc.toList.toArray 0)) v (kf v).1 (kf v).2 := by
    intro v hv
    rw [ea] at hv
    obtain ⟨b, hb, rfl⟩ := List.mem_map.mp hv
    obtain ⟨i, j, eb⟩ := hbs b hb
    obtain ⟨_, its2, r2, ob, hob, hcb, n, hdb⟩ := I1.hok _ _ eb
    obtain ⟨u1, u2, rfl, ri, rj⟩ := vals2 r2
    obtain ⟨t1, rfl⟩ := ri
    obtain ⟨t2, rfl⟩ := rj
    have ek : kf (.ref b) = (i, j) := by
      show pkA H b = (i, j)
      unfold pkA
      rw [eb]
    rw [ek]
    exact ⟨b, ob, t1, t2, n, rfl, Heap.get?_push_of_some _ hob, hcb, hdb⟩
  show wpAny _ _ _ _ _ { s with heap := h'.push (seqObj "list" acc.toList.toArray 0), toks := tk }
  refine wpAny_bind (wpAny_holding (wpAny_call_entry PyProof.Rows.slot_list_sort ⟨_, hoL, rfl⟩ PyProof.Rows.entry_list_sort
    (SrtO.list_sort_ord (s := { s with heap := h'.push (seqObj "list" acc.toList.toArray 0), toks := tk }) (SrtO.swo_lex kf) hoL hzl (fun h2 => SrtO.pairs_sortableO (by omega) hp fun ob e => ?_) fun out hs hb => ⟨_, rfl, ?_⟩) (PyProof.Rows.args_list_sort _)))
  · rw [hoL] at e
    cases e
    exact fun c => absurd (Value.type.inj c) (by decide)
  · obtain ⟨e', he'⟩ := PyProof.Rows.sortedHeap_at (vs := acc.toList) (out := out.toArray) hoL
    have hall : ∀ u ∈ out, ∃ b, u = Value.ref b := fun u hu => by
      have := hb.perm.mem_iff.mp hu
      rw [ea] at this
      obtain ⟨b, _, e⟩ := List.mem_map.mp this
      exact ⟨b, e.symm⟩
    obtain ⟨cs, rfl⟩ : ∃ cs : List Addr, out = cs.map Value.ref := by
      clear hs hb he'
      induction out with
      | nil => exact ⟨[], rfl⟩
      | cons u us ih =>
        obtain ⟨b, rfl⟩ := hall u List.mem_cons_self
        obtain ⟨cs, e⟩ := ih fun v hv => hall v (List.mem_cons_of_mem _ hv)
        exact ⟨b :: cs, by rw [e]; rfl⟩
    have hperm : cs.Perm (ks.map fun x => x.2.1) := by
      have h1 := hb.perm
      rw [ea] at h1
      have h2 := h1.map fun u => match u with | Value.ref b => b | _ => (0 : Addr)
      rw [List.map_map, List.map_map] at h2
      have e1 : ∀ l : List Addr, l.map ((fun u => match u with | Value.ref b => b | _ => (0 : Addr)) ∘ Value.ref) = l := fun l => by
        induction l with
        | nil => rfl
        | cons x l ih => rw [List.map_cons, ih]; rfl
      rw [e1, e1] at h2
      exact h2
    have hlen : (cs.map V.ref).length ≤ sizeLine := by
      rw [List.length_map, hperm.length_eq, List.length_map]
      omega
    have hsrt : (cs.map (pkA H)).Pairwise lexL := by
      have h1 : (cs.map Value.ref).Pairwise fun x y => SrtO.lexB (kf y) (kf x) = false := hs
      rw [List.pairwise_map] at h1 ⊢
      refine h1.imp fun {x y} h => ?_
      have h3 := SrtO.lexB_no.mp h
      have h4 : ¬ ((pkA H y).1 < (pkA H x).1 ∨ ((pkA H y).1 = (pkA H x).1 ∧ (pkA H y).2 < (pkA H x).2)) := h3
      unfold lexL
      omega
    have q1 := q cs (fun b hb' => hbs b (hperm.mem_iff.mp hb')) (by rw [← hmap]; exact hperm.map _) hsrt
    refine wpAny_pure ⟨_, rfl, .ref h'.objs.size, upd H h'.objs.size (.lst (cs.map V.ref)), I1.laid (t' := tk) (fun b u e => ?_) (Nat.le_refl _)
      (show ObjOk X.prog X.w _ _ _ (.lst (cs.map V.ref)) from ⟨hlen, (cs.map Value.ref), e', vals_refs _, he'⟩), rfl, nwO_e q1 _ (I1.hok.fresh (Nat.le_refl _))⟩
    have hb2 : b < h'.objs.size := Heap.lt_size e
    rw [PyProof.Rows.sortedHeap_old (Nat.ne_of_lt hb2) (by rw [size_push']; exact Nat.lt_succ_of_lt hb2)]
    exact Heap.get?_push_of_some _ e
@[irreducible] def srtPX (K : PySem.W.Frag) (x : V) (H : Hp) (Q : VK) : Prop := ∃ (a : Addr) (xs : List V) (k : V → Int × Int), x = V.ref a ∧ SqL K H a xs ∧ (∀ x ∈ xs, ∃ t, x = V.ref t ∧ H t = some (.tup [.int (k x).1, .int (k x).2])) ∧
  ∀ ys : List V, SrtO.Srtd (ltP k) ys → ys.Perm xs → nwO (.lst ys) H Q
def cSortedT (K : PySem.W.Frag) : List V → Hp → VK → Prop := fun xs H Q => match xs with
  | [x] => srtX K x H Q ∨ srtTX x H Q ∨ srtPX K x H Q
  | _ => False
theorem k_sortedT {X : Cx} (hc : X.calm = true) : CallR X (.builtin "sorted") (cSortedT X.K) := call_imp (call_or k_sorted (call_or (call_sortedTD hc) cr_sortedPO)) fun xs H Q q => by
  unfold cSortedT at q
  split at q
  · rcases q with q | q | q
    · exact .inl q
    · exact .inr (.inl ⟨_, rfl, q⟩)
    · unfold srtPX at q
      obtain ⟨a, ys, k, e, h1, h2, q⟩ := q
      exact .inr (.inr ⟨a, ys, k, by rw [e], h1, h2, fun zs p hs hb hn => nwO_e (q zs hs hb.perm) p hn⟩)
  · exact q.elim
/-- a list of tuples of two numbers -/
def pD (x : Nat × Nat) : PyData := .tuple [.int (x.1 : Nat), .int (x.2 : Nat)]
def pI (x : Nat × Nat) : Int × Int := ((x.1 : Nat), (x.2 : Nat))
def lexN (p q : Nat × Nat) : Prop := p.1 < q.1 ∨ (p.1 = q.1 ∧ p.2 ≤ q.2)
abbrev prs (vs : List V) (r : List (Nat × Nat)) : SP := dats vs (r.map pD)
section
variable {K : PySem.W.Frag} {H : Hp} {F : List SP} {Q : VK} {a : Addr} {xs : List V} {L ps : List (Nat × Nat)} {kvs : List (List Key × V)}
theorem Star.dats0 {vs : List V} {ds : List PyData} (S : Star H F) (h : datA H vs ds []) : Star H (dats vs ds :: F) := by
  obtain ⟨A, hn, s⟩ := S
  exact ⟨A, hn, [], A, rfl, h, s⟩
theorem prs_mk : ∀ {bs : List Addr} {ps : List (Nat × Nat)}, bs.map (pkA H) = ps.map pI → (∀ b ∈ bs, ∃ i j : Int, H b = some (.tup [.int i, .int j])) → datA H (bs.map V.ref) (ps.map pD) []
  | [], [], _, _ => by
    show datA H [] [] []
    unfold datA
    exact ⟨rfl, rfl⟩
  | [], _ :: _, h, _ => by cases h
  | _ :: _, [], h, _ => by cases h
  | b :: bs, x :: ps, h, hb => by
    obtain ⟨h1, h2⟩ := List.cons.inj h
    obtain ⟨i, j, e⟩ := hb b List.mem_cons_self
    have ek : pkA H b = (i, j) := by
      unfold pkA
      rw [e]
    rw [ek] at h1
    have e1 : i = (x.1 : Nat) := congrArg Prod.fst h1
    have e2 : j = (x.2 : Nat) := congrArg Prod.snd h1
    subst e1 e2
    show datA H (V.ref b :: bs.map V.ref) (pD x :: ps.map pD) []
    unfold datA
    refine ⟨.ref b, bs.map V.ref, [], [], rfl, rfl, ?_, prs_mk h2 fun y hy => hb y (List.mem_cons_of_mem _ hy)⟩
    unfold pD datP
    refine ⟨b, [.int (x.1 : Nat), .int (x.2 : Nat)], rfl, e, ?_⟩
    unfold datA
    refine ⟨_, _, [], [], rfl, rfl, by unfold datP; exact ⟨rfl, rfl⟩, ?_⟩
    unfold datA
    refine ⟨_, _, [], [], rfl, rfl, by unfold datP; exact ⟨rfl, rfl⟩, ?_⟩
    unfold datA
    exact ⟨rfl, rfl⟩
theorem prs_of : ∀ {vs : List V} {ps : List (Nat × Nat)} {A : List Addr}, datA H vs (ps.map pD) A → ∃ bs : List Addr, vs = bs.map V.ref ∧ bs.map (pkA H) = ps.map pI ∧ ∀ b ∈ bs, ∃ i j : Int, H b = some (.tup [.int i, .int j])
  | vs, [], A, h => by
    have h : datA H vs [] A := h
    unfold datA at h
    exact ⟨[], h.2, rfl, fun b hb => absurd hb List.not_mem_nil⟩
  | vs, x :: ps, A, h => by
    have h : datA H vs (pD x :: ps.map pD) A := h
    unfold datA at h
    obtain ⟨v, r, A1, A2, e1, e2, h1, h2⟩ := h
    obtain ⟨bs, e3, e4, e5⟩ := prs_of h2
    unfold pD datP at h1
    obtain ⟨b, ys, e6, e7, h3⟩ := h1
    unfold datA at h3
    obtain ⟨v1, r1, _, _, ey, _, h4, h5⟩ := h3
    unfold datA at h5
    obtain ⟨v2, r2, _, _, er, _, h6, h7⟩ := h5
    unfold datA at h7
    unfold datP at h4 h6
    have e8 : H b = some (.tup [.int (x.1 : Nat), .int (x.2 : Nat)]) := by rw [e7, ey, er, h7.2, h4.2, h6.2]
    refine ⟨b :: bs, by rw [e1, e3, e6]; rfl, ?_, fun y hy => ?_⟩
    · rw [List.map_cons, List.map_cons, e4]
      congr 1
      unfold pkA
      rw [e8]
      rfl
    · rcases List.mem_cons.mp hy with e | hy
      · subst e
        exact ⟨_, _, e8⟩
      · exact e5 y hy
theorem pairs_back {bs : List Addr} (hb : (bs.map (pkA H)).Perm (L.map pI)) (hs : (bs.map (pkA H)).Pairwise lexL) : ∃ qs : List (Nat × Nat), bs.map (pkA H) = qs.map pI ∧ qs.Perm L ∧ qs.Pairwise lexN := by
  have e1 : bs.map (pkA H) = (bs.map fun b => ((pkA H b).1.toNat, (pkA H b).2.toNat)).map pI := by
    rw [List.map_map]
    refine List.map_congr_left fun b hm => ?_
    have h1 := hb.mem_iff.mp (List.mem_map.mpr ⟨b, hm, rfl⟩)
    obtain ⟨x, _, e⟩ := List.mem_map.mp h1
    show pkA H b = pI ((pkA H b).1.toNat, (pkA H b).2.toNat)
    rw [← e]
    unfold pI
    rw [Int.toNat_natCast, Int.toNat_natCast]
  refine ⟨_, e1, ?_, ?_⟩
  · have h1 := hb.map fun p : Int × Int => (p.1.toNat, p.2.toNat)
    rw [List.map_map, List.map_map] at h1
    have e2 : L.map ((fun p : Int × Int => (p.1.toNat, p.2.toNat)) ∘ pI) = L := by
      refine (List.map_congr_left fun x _ => ?_).trans (List.map_id _)
      show (((x.1 : Nat) : Int).toNat, ((x.2 : Nat) : Int).toNat) = x
      rw [Int.toNat_natCast, Int.toNat_natCast]
    rw [e2] at h1
    exact h1
  · rw [e1, List.pairwise_map] at hs
    refine hs.imp fun {x y} h => ?_
    unfold lexL pI at h
    unfold lexN
    omega
theorem srtT_S (S : Star H (pt a (.dT kvs) :: F)) (hk : kvs.map (·.1) = L.map fun x => [.inl ((x.1 : Nat) : Int), .inl ((x.2 : Nat) : Int)])
    (q : ∀ p ys qs H', qs.Perm L → qs.Pairwise lexN → Star H' (pt p (.lst ys) :: prs ys qs :: pt a (.dT kvs) :: F) → Q (.ref p) H') : srtX K (.ref a) H Q ∨ srtTX (.ref a) H Q ∨ srtPX K (.ref a) H Q := by
  refine .inr (.inl ?_)
  have hkey : ∀ {kvs : List (List Key × V)} {L : List (Nat × Nat)}, kvs.map (·.1) = L.map (fun x => [.inl ((x.1 : Nat) : Int), .inl ((x.2 : Nat) : Int)]) → (∀ kv ∈ kvs, ∃ i j : Int, kv.1 = [.inl i, .inl j]) ∧ (kvs.map fun kv => match kv.1 with | [.inl i, .inl j] => (i, j) | _ => (0, 0)) = L.map pI := by
    intro kvs
    induction kvs with
    | nil =>
      intro L h
      cases L with
      | nil => exact ⟨fun kv h => absurd h List.not_mem_nil, rfl⟩
      | cons x L => cases h
    | cons kv kvs ih =>
      intro L h
      cases L with
      | nil => cases h
      | cons x L =>
        obtain ⟨h1, h2⟩ := List.cons.inj h
        obtain ⟨i1, i2⟩ := ih h2
        refine ⟨fun y hy => ?_, ?_⟩
        · rcases List.mem_cons.mp hy with e | hy
          · subst e
            exact ⟨_, _, h1⟩
          · exact i1 y hy
        · rw [List.map_cons, List.map_cons, i2]
          congr 1
          rw [show kv.1 = [.inl ((x.1 : Nat) : Int), .inl ((x.2 : Nat) : Int)] from h1]
          rfl
  obtain ⟨k1, k2⟩ := hkey hk
  unfold srtTX
  refine ⟨a, kvs, rfl, S.get, k1, fun bs hb hp hs => nwO_i fun p hn => ?_⟩
  rw [k2] at hp
  obtain ⟨qs, e1, e2, e3⟩ := pairs_back hp hs
  exact q p _ qs _ e2 e3 ((S.dats0 (prs_mk e1 hb)).newL hn)
theorem srtP_S (S : Star H (pt a (.lst xs) :: prs xs ps :: F)) (q : ∀ p ys qs H', qs.Perm ps → qs.Pairwise lexN → Star H' (pt p (.lst ys) :: prs ys qs :: pt a (.lst xs) :: prs xs ps :: F) → Q (.ref p) H') : srtX K (.ref a) H Q ∨ srtTX (.ref a) H Q ∨ srtPX K (.ref a) H Q := by
  refine .inr (.inr ?_)
  obtain ⟨A1, A2, _, h, _⟩ := Star.split.mp S.p1
  obtain ⟨bs, e1, e2, e3⟩ := prs_of h
  let kf : V → Int × Int := fun u => match u with | .ref b => pkA H b | _ => (0, 0)
  unfold srtPX
  refine ⟨a, xs, kf, rfl, .of S.get, fun x hx => ?_, fun ys hs hp => nwO_i fun p hn => ?_⟩
  · rw [e1] at hx
    obtain ⟨b, hb, rfl⟩ := List.mem_map.mp hx
    obtain ⟨i, j, eb⟩ := e3 b hb
    have ek : kf (.ref b) = (i, j) := by
      show pkA H b = (i, j)
      unfold pkA
      rw [eb]
    rw [ek]
    exact ⟨b, rfl, eb⟩
  · have hall : ∀ u ∈ ys, ∃ b, u = V.ref b := fun u hu => by
      have := hp.mem_iff.mp hu
      rw [e1] at this
      obtain ⟨b, _, e⟩ := List.mem_map.mp this
      exact ⟨b, e.symm⟩
    obtain ⟨cs, rfl⟩ : ∃ cs : List Addr, ys = cs.map V.ref := by
      clear hs hp
      induction ys with
      | nil => exact ⟨[], rfl⟩
      | cons u us ih =>
        obtain ⟨b, rfl⟩ := hall u List.mem_cons_self
        obtain ⟨cs, e⟩ := ih fun v hv => hall v (List.mem_cons_of_mem _ hv)
        exact ⟨b :: cs, by rw [e]; rfl⟩
    have hperm : cs.Perm bs := by
      rw [e1] at hp
      have h2 := hp.map fun u => match u with | V.ref b => b | _ => (0 : Addr)
      rw [List.map_map, List.map_map] at h2
      have e1 : ∀ l : List Addr, l.map ((fun u => match u with | V.ref b => b | _ => (0 : Addr)) ∘ V.ref) = l := fun l => by
        induction l with
        | nil => rfl
        | cons x l ih => rw [List.map_cons, ih]; rfl
      rw [e1, e1] at h2
      exact h2
    have hsrt : (cs.map (pkA H)).Pairwise lexL := by
      have h1 : (cs.map V.ref).Pairwise fun x y => SrtO.lexB (kf y) (kf x) = false := hs
      rw [List.pairwise_map] at h1 ⊢
      refine h1.imp fun {x y} h => ?_
      have h3 := SrtO.lexB_no.mp h
      have h4 : ¬ ((pkA H y).1 < (pkA H x).1 ∨ ((pkA H y).1 = (pkA H x).1 ∧ (pkA H y).2 < (pkA H x).2)) := h3
      unfold lexL
      omega
    obtain ⟨qs, e4, e5, e6⟩ := pairs_back (L := ps) (by rw [← e2]; exact hperm.map _) hsrt
    exact q p _ qs _ e5 e6 ((S.dats0 (prs_mk e4 fun b hb => e3 b (hperm.mem_iff.mp hb))).newL hn)
end
end MK

namespace MK
open PySem PySem.Spec PyProof.Rows L2

/-! ### dicts walked through: locked meanwhile -/
def isDct : HO → Prop
  | .dK _ => True
  | .dT _ => True
  | _ => False
theorem isDct_mut {u : HO} (h : isDct u) : Mut (some u) := by cases u <;> first | exact True.intro | exact h.elim
theorem isDct_fix {u : HO} (h : isDct u) : ¬ isFix (some u) := by cases u <;> first | exact id | exact h.elim
def Ul (p : SP) : Prop := ∀ H d od u A, p.P H A → H d = some (.frz od u) → isDct u → d ∉ A → p.P (upd H d u) A
class UlC (p : SP) : Prop where
  h : Ul p
class UlL (ps : List SP) : Prop where
  h : ∀ H d od u A, SL H ps A → H d = some (.frz od u) → isDct u → d ∉ A → SL (upd H d u) ps A
instance : UlL [] := ⟨fun H d od u A h _ _ _ => h⟩
instance {p : SP} {ps : List SP} [a : UlC p] [b : UlL ps] : UlL (p :: ps) := ⟨fun H d od u A ⟨A1, A2, e, h1, h2⟩ hd hu hn => by
  subst e
  exact ⟨A1, A2, rfl, a.h _ _ _ _ _ h1 hd hu fun z => hn (List.mem_append_left _ z), b.h _ _ _ _ _ h2 hd hu fun z => hn (List.mem_append_right _ z)⟩⟩
theorem upd_nd {H : Hp} {a d : Addr} {o u : HO} {od : Obj} (h : H a = some o) (hd : H d = some (.frz od u)) (hne : ∀ o' u', o ≠ .frz o' u') : (upd H d u) a = some o := by
  rw [upd_ne (fun z => by rw [z, hd] at h; cases h; exact hne _ _ rfl)]
  exact h
instance {a : Addr} {o : HO} : UlC (pt a o) := ⟨fun H d od u A ⟨e, h, n⟩ hd hu hn => ⟨e, by
  rw [upd_ne (fun z => hn (by rw [e, z]; exact List.mem_singleton.mpr rfl))]
  exact h, n⟩⟩
instance {a : Addr} {xs : List V} : UlC (fx a (.tup xs)) := ⟨fun H d od u A ⟨e, h, n⟩ hd hu hn => ⟨e, upd_nd h hd (fun _ _ z => nomatch z), n⟩⟩
instance {φ : Prop} : UlC (pr φ) := ⟨fun H d od u A h _ _ _ => h⟩
instance {α : Type} {f : α → SP} [i : ∀ x, UlC (f x)] : UlC (ex f) := ⟨fun H d od u A ⟨x, h⟩ hd hu hn => ⟨x, (i x).h _ _ _ _ _ h hd hu hn⟩⟩
instance {ps : List SP} [i : UlL ps] : UlC (sep ps) := ⟨fun H d od u A h hd hu hn => i.h _ _ _ _ _ h hd hu hn⟩
mutual
theorem datP_ul {H H' : Hp} (k : ∀ a xs, H a = some (.tup xs) → H' a = some (.tup xs)) : ∀ (d : PyData) {v : V} {A : List Addr}, datP H v d A → (∀ a ∈ A, H' a = H a) → datP H' v d A
  | .none, _, _, h, _ => h
  | .bool _, _, _, h, _ => h
  | .int _, _, _, h, _ => h
  | .str _, _, _, h, _ => h
  | .list ds, _, _, ⟨b, xs, A', e1, e, hb, hs⟩, ha => ⟨b, xs, A', e1, e, by rw [ha b (by simp [e]), hb], datA_ul k ds hs fun a z => ha a (by simp [e, z])⟩
  | .tuple ds, _, _, ⟨b, xs, e1, hb, hs⟩, ha => ⟨b, xs, e1, k b xs hb, datA_ul k ds hs ha⟩
  | .dict kvs, _, _, ⟨b, ks, A', e1, e, hb, hs⟩, ha => ⟨b, ks, A', e1, e, by rw [ha b (by simp [e]), hb], datK_ul k kvs hs fun a z => ha a (by simp [e, z])⟩
theorem datA_ul {H H' : Hp} (k : ∀ a xs, H a = some (.tup xs) → H' a = some (.tup xs)) : ∀ (ds : List PyData) {vs : List V} {A : List Addr}, datA H vs ds A → (∀ a ∈ A, H' a = H a) → datA H' vs ds A
  | [], _, _, h, _ => h
  | d :: ds, _, _, ⟨v, r, A1, A2, e1, e, h1, h2⟩, ha => ⟨v, r, A1, A2, e1, e, datP_ul k d h1 fun a z => ha a (by simp [e, z]), datA_ul k ds h2 fun a z => ha a (by simp [e, z])⟩
theorem datK_ul {H H' : Hp} (k : ∀ a xs, H a = some (.tup xs) → H' a = some (.tup xs)) : ∀ (ds : List (PyData × PyData)) {vs : List (Key × V)} {A : List Addr}, datK H vs ds A → (∀ a ∈ A, H' a = H a) → datK H' vs ds A
  | [], _, _, h, _ => h
  | p :: r, _, _, ⟨x, v, t, A1, A2, e1, e2, e, h1, h2⟩, ha => ⟨x, v, t, A1, A2, e1, e2, e, datP_ul k p.2 h1 fun a z => ha a (by simp [e, z]), datK_ul k r h2 fun a z => ha a (by simp [e, z])⟩
end
theorem upd_tup {H : Hp} {d : Addr} {od : Obj} {u : HO} (hd : H d = some (.frz od u)) : ∀ a xs, H a = some (.tup xs) → (upd H d u) a = some (.tup xs) := fun a xs h => upd_nd h hd fun _ _ z => nomatch z
theorem upd_own {H : Hp} {d : Addr} {u : HO} {A : List Addr} (hn : d ∉ A) : ∀ a ∈ A, (upd H d u) a = H a := fun a ha => upd_ne fun z => hn (z ▸ ha)
instance {v : V} {d : PyData} : UlC (dat v d) := ⟨fun H d' od u A h hd hu hn => datP_ul (upd_tup hd) d h (upd_own hn)⟩
instance {vs : List V} {ds : List PyData} : UlC (dats vs ds) := ⟨fun H d' od u A h hd hu hn => datA_ul (upd_tup hd) ds h (upd_own hn)⟩
instance {ks : List (Key × V)} {kvs : List (PyData × PyData)} : UlC (datk ks kvs) := ⟨fun H d' od u A h hd hu hn => datK_ul (upd_tup hd) kvs h (upd_own hn)⟩
instance {K : PySem.W.Frag} {a : Addr} {xs : List V} : UlC (scr K a xs) := ⟨fun H d od u A h hd hu hn => ⟨h.1, h.2.imp (fun ⟨o, z⟩ => ⟨o, by
  rw [upd_ne (fun e => by rw [e, hd] at z; cases z; exact hu)]
  exact z⟩) fun z => z⟩⟩
instance {b : Bool} {a : Addr} {xs : List V} : UlC (sq b a xs) := by cases b <;> unfold sq <;> infer_instance
section
variable {H : Hp} {F : List SP} {d : Addr} {od : Obj} {u : HO}
theorem Star.lock (S : Star H (pt d u :: F)) (hu : isDct u) (od : Obj) : Star (upd H d (.frz od u)) (fx d (.frz od u) :: F) := by
  have S1 : Star (upd H d (.frz od u)) F := S.del fun b hb => upd_ne hb
  obtain ⟨A, n, h⟩ := S1
  exact ⟨A, n, [], A, rfl, ⟨rfl, upd_same .., True.intro⟩, h⟩
theorem Star.unlock [i : UlL F] (S : Star H (fx d (.frz od u) :: F)) (hu : isDct u) : Star (upd H d u) (pt d u :: F) := by
  obtain ⟨A, n, A1, A2, e, ⟨e1, hd, _⟩, h⟩ := S
  subst e1
  have e : A = A2 := by rw [e]; rfl
  subst e
  have hdA : d ∉ A := fun z => (h.dom d z).2 (by rw [hd]; exact True.intro)
  exact ⟨d :: A, List.nodup_cons.mpr ⟨hdA, n⟩, [d], A, rfl, ⟨rfl, upd_same .., isDct_fix hu⟩, i.h _ _ _ _ _ h hd hu hdA⟩
end
@[irreducible] def lkS (t : TS) : TS := tLock t
@[irreducible] def lkE (t : TE) : TE := tLockE t
/-- how a walk with the dict locked ends -/
def lkD (D : Ends) (d : Addr) (od : Obj) (u : HO) : Ends := ⟨fun σ' H' => H' d = some (.frz od u) ∧ D.nx σ' (upd H' d u), fun v H' => H' d = some (.frz od u) ∧ D.rt v (upd H' d u), fun σ' H' => H' d = some (.frz od u) ∧ D.bk σ' (upd H' d u), fun σ' H' => H' d = some (.frz od u) ∧ D.ct σ' (upd H' d u)⟩
theorem ps_lk {X : Cx} {st : Stmt} {t : TS} (h : PS X st t) : PS X st (lkS t) := by
  unfold lkS
  exact ps_lock h
theorem pe_lk {X : Cx} {e : Expr} {t : TE} (h : PE X e t) : PE X e (lkE t) := by
  unfold lkE
  exact pe_lock h
section
variable {H : Hp} {F : List SP} {d : Addr} {u : HO} {σ : L2.St} {t : TS} {te : TE} {D : Ends} {Q : VK}
theorem lk_S (S : Star H (pt d u :: F)) (hu : isDct u) (q : ∀ od H1, Star H1 (fx d (.frz od u) :: F) → t (lkD D d od u) σ H1) : lkS t D σ H := by
  unfold lkS
  exact ⟨d, u, S.get, isDct_mut hu, fun od => q od _ (S.lock hu od)⟩
theorem lk_E (S : Star H (pt d u :: F)) (hu : isDct u) (q : ∀ od H1, Star H1 (fx d (.frz od u) :: F) → te σ H1 fun v H' => H' d = some (.frz od u) ∧ Q v (upd H' d u)) : lkE te σ H Q := by
  unfold lkE
  exact ⟨d, u, S.get, isDct_mut hu, fun od => q od _ (S.lock hu od)⟩
theorem unlk {od : Obj} {R : Hp → Prop} [UlL F] (S : Star H (fx d (.frz od u) :: F)) (hu : isDct u) (q : ∀ H'', Star H'' (pt d u :: F) → R H'') : H d = some (.frz od u) ∧ R (upd H d u) := ⟨S.getF, q _ (S.unlock hu)⟩
end
@[irreducible] def keyX (x : V) (H : Hp) (R : It → Hp → Prop) : Prop := ∃ d o, x = .ref d ∧ ((∃ kvs, H d = some (.frz o (.dK kvs)) ∧ R (Itk d o kvs) H) ∨ ∃ kvs, H d = some (.frz o (.dT kvs)) ∧ R (Itkt d o kvs) H)
def iKy (td : TE) : TI := fun σ H R => td σ H fun x H1 => keyX x H1 R
theorem mky {X : Cx} {tg e : Expr} {td : TE} (he : PE X e td) : PI X tg e (iKy td) := by
  have h := pi_keys (tg := tg) he
  have e : iKy td = iKeys td := by
    funext σ H R
    unfold iKy iKeys
    congr 1
    funext x H1
    unfold keyX
    rfl
  rw [e]
  exact h
section
variable {H : Hp} {d : Addr} {o : Obj} {R : It → Hp → Prop}
theorem key_k {kvs : List (Key × V)} (h : H d = some (.frz o (.dK kvs))) (q : R (Itk d o kvs) H) : keyX (.ref d) H R := by
  unfold keyX
  exact ⟨d, o, rfl, .inl ⟨kvs, h, q⟩⟩
theorem key_t {kvs : List (List Key × V)} (h : H d = some (.frz o (.dT kvs))) (q : R (Itkt d o kvs) H) : keyX (.ref d) H R := by
  unfold keyX
  exact ⟨d, o, rfl, .inr ⟨kvs, h, q⟩⟩
end
theorem ixd_kf {K : PySem.W.Frag} {H : Hp} {Q : VK} {a : Addr} {v : V} {o : Obj} {kvs : List (Key × V)} {k : Key} (h : H a = some (.frz o (.dK kvs))) (e : valV kvs k = some v) (q : Q v H) : ixX K (.ref a) (kV k) H Q := by
  unfold ixX
  exact .inr ⟨a, v, rfl, .inl ⟨kvs, k, .inr ⟨o, h⟩, rfl, e.symm⟩, q⟩
theorem Star.addF {H : Hp} {F : List SP} {a : Addr} {xs : List V} (S : Star H F) (h : H a = some (.tup xs)) : Star H (fx a (.tup xs) :: F) := by
  obtain ⟨A, n, s⟩ := S
  exact ⟨A, n, [], A, rfl, ⟨rfl, h, True.intro⟩, s⟩
end MK

namespace MK
open PySem PySem.Spec PyProof.Rows L2
/-! tuples of whole numbers are kept for ever; comprehensions over held data -/
section
variable {H : Hp} {F : List SP} {v : V} {xs vs : List V} {ds : List PyData} {zs : List Int}
abbrev tz (zs : List Int) : PyData := .tuple (zs.map PyData.int)
theorem zints : ∀ {zs : List Int} {vs : List V} {F : List SP}, Star H (dats vs (zs.map PyData.int) :: F) ↔ vs = zs.map V.int ∧ Star H F
  | [], vs, F => dats_n
  | z :: zs, vs, F => by
    rw [List.map_cons, List.map_cons]
    constructor
    · intro S
      obtain ⟨v, r, e, S1⟩ := dats_c.mp S
      obtain ⟨e2, S2⟩ := dat_i.mp S1
      obtain ⟨e3, S3⟩ := zints.mp S2
      exact ⟨by rw [e, e2, e3], S3⟩
    · rintro ⟨e, S⟩
      subst e
      exact dats_c.mpr ⟨_, _, rfl, dat_i.mpr ⟨rfl, zints.mpr ⟨rfl, S⟩⟩⟩
theorem dat_tz : Star H (dat v (tz zs) :: F) ↔ ∃ t, v = .ref t ∧ Star H (fx t (.tup (zs.map V.int)) :: F) := by
  constructor
  · intro S
    obtain ⟨t, ys, e, S1⟩ := dat_t.mp S
    obtain ⟨e2, S2⟩ := zints.mp S1.p1
    subst e2
    exact ⟨t, e, S2⟩
  · rintro ⟨t, e, S⟩
    have S1 : Star H (dats (zs.map V.int) (zs.map PyData.int) :: fx t (.tup (zs.map V.int)) :: F) := zints.mpr ⟨rfl, S⟩
    exact dat_t.mpr ⟨t, _, e, S1.p1⟩
theorem tz_dup (S : Star H (dat v (tz zs) :: F)) : Star H (dat v (tz zs) :: dat v (tz zs) :: F) := by
  obtain ⟨t, e, S1⟩ := dat_tz.mp S
  have S2 := S1.dupF
  have S3 : Star H (dat v (tz zs) :: fx t (.tup (zs.map V.int)) :: F) := dat_tz.mpr ⟨t, e, S2⟩
  exact dat_tz.mpr ⟨t, e, S3.p1⟩
theorem Fr.tz {t : Addr} {ps qs : List SP} (h : Fr ps (fx t (.tup (zs.map V.int)) :: qs)) : Fr ps (dat (.ref t) (MK.tz zs) :: qs) := fun H S => dat_tz.mpr ⟨t, rfl, h H S⟩
theorem hole_back {i : Nat} {d : PyData} (S : Star H (dat v d :: hole vs ds i :: F)) (h1 : vs[i]? = some v) (h2 : ds[i]? = some d) : Star H (dats vs ds :: F) := by
  have S1 := S.back
  rw [set_same h1, set_same h2] at S1
  exact S1
end
section
variable {K : PySem.W.Frag} {F : List SP} {H : Hp} {Q : VK} {a D : Addr} {σ : L2.St} {g : TG} {tt : TT} {te : TE} {vs : List Nat} {xs : List V} {ds : List PyData}
/-- [f(x) for x in xs if p(x)] over held data -/
theorem lc_dat (gx : V → L2.St) (P : Nat → Bool) (f : Nat → PyData) (hg : ∀ x H Q, Q (gx x) H → g x (wipe σ vs) H Q) (hz : xs.length ≤ 100000) (hD : H D = none) (S : Star H (pt a (.lst xs) :: dats xs ds :: F)) (hw : ∀ x, wipe (gx x) vs = wipe σ vs)
    (ht : ∀ (i : Nat) v d Z H1 (R : Bool → Hp → Prop), xs[i]? = some v → ds[i]? = some d → Star H1 (dat v d :: Z :: pt a (.lst xs) :: hole xs ds i :: F) → (∀ H2, Star H2 (dat v d :: Z :: pt a (.lst xs) :: hole xs ds i :: F) → R (P i) H2) → tt (gx v) H1 R)
    (he : ∀ (i : Nat) v d Z H1 (R : VK), xs[i]? = some v → ds[i]? = some d → P i = true → Star H1 (dat v d :: Z :: pt a (.lst xs) :: hole xs ds i :: F) → (∀ H2 w, Star H2 (dat w (f i) :: dat v d :: Z :: pt a (.lst xs) :: hole xs ds i :: F) → R w H2) → te (gx v) H1 R)
    (q : ∀ H1 ys, Star H1 (pt D (.lst ys) :: dats ys (((List.range xs.length).filter P).map f) :: pt a (.lst xs) :: dats xs ds :: F) → Q (.ref D) H1) : LoopC (Itl K a) g tt te vs σ D H Q := by
  have hxl : xs.length = ds.length := S.p1.dlen
  refine LoopC.it (walk_list (a := a) (xs := xs)) (fun j H => ∃ ys, Star H (pt D (.lst ys) :: dats ys (((List.range j).filter P).map f) :: pt a (.lst xs) :: dats xs ds :: F)) ⟨[], ?_⟩ (fun j H _ ⟨ys, z⟩ => .of z.p2.get) ?_ ?_
  · have S1 : Star H (dats [] (((List.range 0).filter P).map f) :: pt a (.lst xs) :: dats xs ds :: F) := dats_n.mpr ⟨rfl, S⟩
    exact S1.newL hD
  · rintro j v H1 H2 hj ⟨ys, S⟩ ⟨rfl, hv⟩
    have hj' : j < ds.length := by omega
    obtain ⟨d, hd⟩ : ∃ d, ds[j]? = some d := ⟨_, List.getElem?_eq_getElem hj'⟩
    have hyl : ys.length ≤ j := by
      have := S.p1.dlen
      have h2 := List.length_filter_le P (List.range j)
      rw [List.length_range] at h2
      rw [List.length_map] at this
      omega
    have S0 : Star H2 (dats xs ds :: pt D (.lst ys) :: dats ys (((List.range j).filter P).map f) :: pt a (.lst xs) :: F) := S.fr (Fr.c3 (Fr.refl _))
    obtain ⟨v', hv', S1⟩ := S0.take hd
    rw [hv] at hv'
    cases hv'
    have S2 : Star H2 (sep [pt D (.lst ys), dats ys (((List.range j).filter P).map f)] :: dat v d :: hole xs ds j :: pt a (.lst xs) :: F) := Star.sep_iff.mpr (S1.fr (Fr.c2 (Fr.c2 (Fr.refl _))))
    have S3 : Star H2 (dat v d :: sep [pt D (.lst ys), dats ys (((List.range j).filter P).map f)] :: pt a (.lst xs) :: hole xs ds j :: F) := S2.fr (Fr.c1 (Fr.c0 (Fr.c1 (Fr.refl _))))
    refine hg _ _ _ ⟨hw _, ?_⟩
    refine ht j v d _ H2 _ hv hd S3 fun H3 S3 => ?_
    cases hp : P j with
    | true =>
      rw [if_pos rfl]
      refine he j v d _ H3 _ hv hd hp S3 fun H4 w S4 => ?_
      have S5 : Star H4 (sep [pt D (.lst ys), dats ys (((List.range j).filter P).map f)] :: dat w (f j) :: dat v d :: pt a (.lst xs) :: hole xs ds j :: F) := S4.fr (Fr.c2 (Fr.refl _))
      have S6 := Star.sep_iff.mp S5
      have S7 : Star H4 (pt D (.lst ys) :: dats ys (((List.range j).filter P).map f) :: dat w (f j) :: dat v d :: hole xs ds j :: pt a (.lst xs) :: F) := S6.fr (Fr.c0 (Fr.c0 (Fr.c0 (Fr.c0 (Fr.c1 (Fr.refl _))))))
      refine ⟨ys, S7.get, by rw [sizeLine_eq]; omega, ys ++ [w], ?_⟩
      have e : ((List.range (j + 1)).filter P).map f = ((List.range j).filter P).map f ++ [f j] := by
        rw [ranges_succ, List.filter_append, List.filter_cons_of_pos hp, List.filter_nil, List.map_append]
        rfl
      rw [e]
      have T1 := Star.updL (ys := ys ++ [w]) S7
      have T2 : Star _ (dats ys (((List.range j).filter P).map f) :: dat w (f j) :: pt D (.lst (ys ++ [w])) :: dat v d :: hole xs ds j :: pt a (.lst xs) :: F) := T1.fr (Fr.c1 (Fr.c1 (Fr.refl _)))
      have T3 := Star.snoc T2
      have T4 : Star _ (dat v d :: hole xs ds j :: dats (ys ++ [w]) (((List.range j).filter P).map f ++ [f j]) :: pt D (.lst (ys ++ [w])) :: pt a (.lst xs) :: F) := T3.fr (Fr.c2 (Fr.c2 (Fr.refl _)))
      have T5 := hole_back T4 hv hd
      exact T5.fr (Fr.c2 (Fr.c1 (Fr.c1 (Fr.c0 (Fr.refl _)))))
    | false =>
      rw [if_neg Bool.false_ne_true]
      have S5 : Star H3 (sep [pt D (.lst ys), dats ys (((List.range j).filter P).map f)] :: dat v d :: hole xs ds j :: pt a (.lst xs) :: F) := S3.fr (Fr.c1 (Fr.c0 (Fr.c1 (Fr.refl _))))
      have S6 := Star.sep_iff.mp S5
      have S7 : Star H3 (dat v d :: hole xs ds j :: pt D (.lst ys) :: dats ys (((List.range j).filter P).map f) :: pt a (.lst xs) :: F) := S6.fr (Fr.c2 (Fr.c2 (Fr.refl _)))
      have S8 := hole_back S7 hv hd
      refine ⟨ys, ?_⟩
      rw [ranges_succ, List.filter_append, List.filter_cons_of_neg (by rw [hp]; exact Bool.false_ne_true), List.filter_nil, List.append_nil]
      exact S8.fr (Fr.c1 (Fr.c1 (Fr.c1 (Fr.refl _))))
  · rintro H1 ⟨ys, S⟩
    exact q H1 ys S
/-- the same, where what the target takes is read off the heap -/
theorem lc_datG (gx : Nat → V → L2.St) (P : Nat → Bool) (f : Nat → PyData) (hg : ∀ (i : Nat) v d (Z : List SP) H1 (R : L2.St → Hp → Prop), xs[i]? = some v → ds[i]? = some d → Star H1 (dat v d :: Z) → R (gx i v) H1 → g v (wipe σ vs) H1 R) (hz : xs.length ≤ 100000) (hD : H D = none) (S : Star H (pt a (.lst xs) :: dats xs ds :: F)) (hw : ∀ i x, wipe (gx i x) vs = wipe σ vs)
    (ht : ∀ (i : Nat) v d Z H1 (R : Bool → Hp → Prop), xs[i]? = some v → ds[i]? = some d → Star H1 (dat v d :: Z :: pt a (.lst xs) :: hole xs ds i :: F) → (∀ H2, Star H2 (dat v d :: Z :: pt a (.lst xs) :: hole xs ds i :: F) → R (P i) H2) → tt (gx i v) H1 R)
    (he : ∀ (i : Nat) v d Z H1 (R : VK), xs[i]? = some v → ds[i]? = some d → P i = true → Star H1 (dat v d :: Z :: pt a (.lst xs) :: hole xs ds i :: F) → (∀ H2 w, Star H2 (dat w (f i) :: dat v d :: Z :: pt a (.lst xs) :: hole xs ds i :: F) → R w H2) → te (gx i v) H1 R)
    (q : ∀ H1 ys, Star H1 (pt D (.lst ys) :: dats ys (((List.range xs.length).filter P).map f) :: pt a (.lst xs) :: dats xs ds :: F) → Q (.ref D) H1) : LoopC (Itl K a) g tt te vs σ D H Q := by
  have hxl : xs.length = ds.length := S.p1.dlen
  refine LoopC.it (walk_list (a := a) (xs := xs)) (fun j H => ∃ ys, Star H (pt D (.lst ys) :: dats ys (((List.range j).filter P).map f) :: pt a (.lst xs) :: dats xs ds :: F)) ⟨[], ?_⟩ (fun j H _ ⟨ys, z⟩ => .of z.p2.get) ?_ ?_
  · have S1 : Star H (dats [] (((List.range 0).filter P).map f) :: pt a (.lst xs) :: dats xs ds :: F) := dats_n.mpr ⟨rfl, S⟩
    exact S1.newL hD
  · rintro j v H1 H2 hj ⟨ys, S⟩ ⟨rfl, hv⟩
    have hj' : j < ds.length := by omega
    obtain ⟨d, hd⟩ : ∃ d, ds[j]? = some d := ⟨_, List.getElem?_eq_getElem hj'⟩
    have hyl : ys.length ≤ j := by
      have := S.p1.dlen
      have h2 := List.length_filter_le P (List.range j)
      rw [List.length_range] at h2
      rw [List.length_map] at this
      omega
    have S0 : Star H2 (dats xs ds :: pt D (.lst ys) :: dats ys (((List.range j).filter P).map f) :: pt a (.lst xs) :: F) := S.fr (Fr.c3 (Fr.refl _))
    obtain ⟨v', hv', S1⟩ := S0.take hd
    rw [hv] at hv'
    cases hv'
    have S2 : Star H2 (sep [pt D (.lst ys), dats ys (((List.range j).filter P).map f)] :: dat v d :: hole xs ds j :: pt a (.lst xs) :: F) := Star.sep_iff.mpr (S1.fr (Fr.c2 (Fr.c2 (Fr.refl _))))
    have S3 : Star H2 (dat v d :: sep [pt D (.lst ys), dats ys (((List.range j).filter P).map f)] :: pt a (.lst xs) :: hole xs ds j :: F) := S2.fr (Fr.c1 (Fr.c0 (Fr.c1 (Fr.refl _))))
    refine hg j v d _ H2 _ hv hd S1 ⟨hw _ _, ?_⟩
    refine ht j v d _ H2 _ hv hd S3 fun H3 S3 => ?_
    cases hp : P j with
    | true =>
      rw [if_pos rfl]
      refine he j v d _ H3 _ hv hd hp S3 fun H4 w S4 => ?_
      have S5 : Star H4 (sep [pt D (.lst ys), dats ys (((List.range j).filter P).map f)] :: dat w (f j) :: dat v d :: pt a (.lst xs) :: hole xs ds j :: F) := S4.fr (Fr.c2 (Fr.refl _))
      have S6 := Star.sep_iff.mp S5
      have S7 : Star H4 (pt D (.lst ys) :: dats ys (((List.range j).filter P).map f) :: dat w (f j) :: dat v d :: hole xs ds j :: pt a (.lst xs) :: F) := S6.fr (Fr.c0 (Fr.c0 (Fr.c0 (Fr.c0 (Fr.c1 (Fr.refl _))))))
      refine ⟨ys, S7.get, by rw [sizeLine_eq]; omega, ys ++ [w], ?_⟩
      have e : ((List.range (j + 1)).filter P).map f = ((List.range j).filter P).map f ++ [f j] := by
        rw [ranges_succ, List.filter_append, List.filter_cons_of_pos hp, List.filter_nil, List.map_append]
        rfl
      rw [e]
      have T1 := Star.updL (ys := ys ++ [w]) S7
      have T2 : Star _ (dats ys (((List.range j).filter P).map f) :: dat w (f j) :: pt D (.lst (ys ++ [w])) :: dat v d :: hole xs ds j :: pt a (.lst xs) :: F) := T1.fr (Fr.c1 (Fr.c1 (Fr.refl _)))
      have T3 := Star.snoc T2
      have T4 : Star _ (dat v d :: hole xs ds j :: dats (ys ++ [w]) (((List.range j).filter P).map f ++ [f j]) :: pt D (.lst (ys ++ [w])) :: pt a (.lst xs) :: F) := T3.fr (Fr.c2 (Fr.c2 (Fr.refl _)))
      have T5 := hole_back T4 hv hd
      exact T5.fr (Fr.c2 (Fr.c1 (Fr.c1 (Fr.c0 (Fr.refl _)))))
    | false =>
      rw [if_neg Bool.false_ne_true]
      have S5 : Star H3 (sep [pt D (.lst ys), dats ys (((List.range j).filter P).map f)] :: dat v d :: hole xs ds j :: pt a (.lst xs) :: F) := S3.fr (Fr.c1 (Fr.c0 (Fr.c1 (Fr.refl _))))
      have S6 := Star.sep_iff.mp S5
      have S7 : Star H3 (dat v d :: hole xs ds j :: pt D (.lst ys) :: dats ys (((List.range j).filter P).map f) :: pt a (.lst xs) :: F) := S6.fr (Fr.c2 (Fr.c2 (Fr.refl _)))
      have S8 := hole_back S7 hv hd
      refine ⟨ys, ?_⟩
      rw [ranges_succ, List.filter_append, List.filter_cons_of_neg (by rw [hp]; exact Bool.false_ne_true), List.filter_nil, List.append_nil]
      exact S8.fr (Fr.c1 (Fr.c1 (Fr.c1 (Fr.refl _))))
  · rintro H1 ⟨ys, S⟩
    exact q H1 ys S
theorem range_at {α β : Type} {l : List α} (f : α → β) (dflt : α) : ((List.range l.length).map fun i => f (l.getD i dflt)) = l.map f := by
  refine List.ext_getElem? fun i => ?_
  rw [List.getElem?_map, List.getElem?_map]
  by_cases h : i < l.length
  · rw [List.getElem?_range h, List.getElem?_eq_getElem h]
    simp [List.getD, List.getElem?_eq_getElem h]
  · rw [List.getElem?_eq_none (by rw [List.length_range]; omega), List.getElem?_eq_none (by omega)]
    rfl
theorem range_flt {α β : Type} {l : List α} (p : α → Bool) (f : α → β) (dflt : α) : (((List.range l.length).filter fun i => p (l.getD i dflt)).map fun i => f (l.getD i dflt)) = (l.filter p).map f := by
  have e : l = (List.range l.length).map fun i => l.getD i dflt := by
    have := range_at (l := l) id dflt
    simp only [List.map_id] at this
    exact this.symm
  conv => rhs; rw [e]
  rw [List.filter_map, List.map_map]
  rfl
end
section
variable {K : PySem.W.Frag} {H : Hp} {F : List SP} {v : V} {xs vs acc : List V} {ds : List PyData}
theorem fz_dup : ∀ {ds : List PyData} {vs : List V} {F : List SP}, (∀ d ∈ ds, ∃ zs, d = tz zs) → Star H (dats vs ds :: F) → Star H (dats vs ds :: dats vs ds :: F)
  | [], vs, F, _, S => by
    obtain ⟨e, S1⟩ := dats_n.mp S
    exact dats_n.mpr ⟨e, dats_n.mpr ⟨e, S1⟩⟩
  | d :: ds, vs, F, h, S => by
    obtain ⟨v, r, e, S1⟩ := dats_c.mp S
    obtain ⟨zs, e2⟩ := h d List.mem_cons_self
    subst e2
    have S2 := tz_dup S1
    have S3 : Star H (dats r ds :: dat v (tz zs) :: dat v (tz zs) :: F) := S2.fr (Fr.c2 (Fr.refl _))
    have S4 := fz_dup (fun d hd => h d (List.mem_cons_of_mem _ hd)) S3
    have S5 : Star H (dats vs (tz zs :: ds) :: dat v (tz zs) :: dats r ds :: F) := dats_c.mpr ⟨v, r, e, S4.fr (Fr.c2 (Fr.c0 (Fr.c1 (Fr.c0 (Fr.refl _)))))⟩
    have S6 : Star H (dats vs (tz zs :: ds) :: dats vs (tz zs :: ds) :: F) := dats_c.mpr ⟨v, r, e, S5.fr (Fr.c1 (Fr.c1 (Fr.c0 (Fr.refl _))))⟩
    exact S6
theorem dats_app : ∀ {d1 d2 : List PyData} {v1 v2 : List V} {F : List SP}, Star H (dats v1 d1 :: dats v2 d2 :: F) → Star H (dats (v1 ++ v2) (d1 ++ d2) :: F)
  | [], d2, v1, v2, F, S => by
    obtain ⟨e, S1⟩ := dats_n.mp S
    subst e
    exact S1
  | d :: d1, d2, v1, v2, F, S => by
    obtain ⟨v, r, e, S1⟩ := dats_c.mp S
    subst e
    have S2 : Star H (dats r d1 :: dats v2 d2 :: dat v d :: F) := S1.fr (Fr.c1 (Fr.c1 (Fr.refl _)))
    exact dats_c.mpr ⟨v, _, rfl, (dats_app S2).p1⟩
/-- pairs of a list, for dict(..) -/
theorem dats_paired {α : Type} (fk : α → Int) (fv : α → V) (fd : α → PyData) (hfd : ∀ (a : α) {F : List SP} {v : V}, Star H (dat v (fd a) :: F) → v = fv a ∧ Star H F) :
    ∀ {l : List α} {acc : List V} {F : List SP}, Star H (dats acc (l.map fun a => .tuple [.int (fk a), fd a]) :: F) → ∃ ps : List Addr, acc = ps.map V.ref ∧ Paired (fun p kv => SqT K H p [kV kv.1, kv.2]) ps (l.map fun a => ((.inl (fk a) : Key), fv a))
  | [], acc, F, S => ⟨[], (dats_n.mp S).1, .nil⟩
  | a :: l, acc, F, S => by
    obtain ⟨v, r, e, S1⟩ := dats_c.mp S
    obtain ⟨t, ys, e0, S2⟩ := dat_t.mp S1
    obtain ⟨v1, r1, e3, S3⟩ := dats_c.mp S2.p1
    obtain ⟨v2, r2, e4, S4⟩ := dats_c.mp S3.p1
    obtain ⟨e5, S5⟩ := dats_n.mp S4.p1
    obtain ⟨e6, S6⟩ := hfd a S5
    obtain ⟨e7, S7⟩ := dat_i.mp S6
    subst e7 e6 e5
    subst e4
    subst e3
    subst e0
    subst e
    obtain ⟨ps, eps, hp⟩ := dats_paired fk fv fd hfd (l := l) (acc := r) S7.p1
    exact ⟨t :: ps, by rw [eps]; rfl, .cons (.of S7.getF) hp⟩
theorem merge_some (k : Key) : ∀ (kvs acc : List (Key × V)), (valV (mergeK acc kvs) k).isSome = ((valV acc k).isSome || kvs.any fun kv => decide (kv.1 = k))
  | [], acc => by rw [List.any_nil, Bool.or_false]; rfl
  | kv :: r, acc => by
    show (valV (mergeK (putK acc kv.1 kv.2) r) k).isSome = _
    rw [merge_some k r, valV_put, List.any_cons]
    by_cases h : k = kv.1
    · rw [if_pos h, decide_eq_true h.symm]
      simp
    · rw [if_neg h, decide_eq_false (fun z => h z.symm), Bool.false_or]
end
end MK
namespace Lawk44
open PySem PySem.Spec PyProof.Rows L2 MK
def t_L_cell_at (K : PySem.W.Frag) (W : WX) : TS := tSeq (sIf (kT (eB (opLt) (eV 1) (eF (cLen K) (aC (eV 0) (aN))))) (sRet (eB (ixX K) (eV 0) (eV 1))) (tNext)) (sRet (eB (opAdd K) (eB (opMul) (eC (.int 7919)) (eV 1)) (eC (.int 13))))
@[irreducible] def sp_L_cell_at (K : PySem.W.Frag) : Sp := fun vs H Q E => vs.length = 2 ∧ t_L_cell_at K (wE E) (endOf Q) (st0 vs 0) H
theorem sp_L_cell_at_i {K : PySem.W.Frag} {a0 a1 : V} {H : Hp} {Q : VK} {E : XK} (h : t_L_cell_at K (wE E) (endOf Q) [some a0, some a1] H) : sp_L_cell_at K [a0, a1] H Q E := by unfold sp_L_cell_at; exact ⟨rfl, h⟩
def t_L_box (K : PySem.W.Frag) (W : WX) : TS := sRet (eDis [(eC (.str "left"), eF (cMax K) (aC (eC (.int 0)) (aC (eB (opSub) (eV 0) (eB (opPow) (eC (.int 10)) (eC (.int 18)))) (aN)))), (eC (.str "seed"), eB (opMod) (eV 0) (eC (.int 2147483647))), (eC (.str "turn"), eC (.int 0))])
@[irreducible] def sp_L_box (K : PySem.W.Frag) : Sp := fun vs H Q E => vs.length = 1 ∧ t_L_box K (wE E) (endOf Q) (st0 vs 0) H
theorem sp_L_box_i {K : PySem.W.Frag} {a0 : V} {H : Hp} {Q : VK} {E : XK} (h : t_L_box K (wE E) (endOf Q) [some a0] H) : sp_L_box K [a0] H Q E := by unfold sp_L_box; exact ⟨rfl, h⟩
def t_L_take (K : PySem.W.Frag) (W : WX) : TS := tSeq (sIf (kT (eB (opGt) (eB (ixX K) (eV 0) (eC (.str "left"))) (eC (.int 0)))) (tSeq (sSet 2 (eB (opMod) (eB (ixX K) (eV 0) (eC (.str "left"))) (eV 1))) (tSeq (sSetI (eB (opDiv) (eB (ixX K) (eV 0) (eC (.str "left"))) (eV 1)) (eV 0) (eC (.str "left"))) (sRet (eV 2)))) (tNext)) (tSeq (sSetI (eB (opAdd K) (eB (ixX K) (eV 0) (eC (.str "turn"))) (eC (.int 1))) (eV 0) (eC (.str "turn"))) (tSeq (sSet 3 (eB (opMod) (eB (opPow) (eB (opAdd K) (eB (ixX K) (eV 0) (eC (.str "seed"))) (eB (opMul) (eC (.int 7919)) (eB (ixX K) (eV 0) (eC (.str "turn"))))) (eC (.int 3))) (eC (.int 2147483629)))) (tSeq (sSet 3 (eB (opMod) (eB (opPow) (eB (opAdd K) (eV 3) (eB (opMul) (eC (.int 104729)) (eB (ixX K) (eV 0) (eC (.str "turn"))))) (eC (.int 2))) (eC (.int 2147483587)))) (sRet (eB (opMod) (eB (opDiv) (eV 3) (eC (.int 8))) (eV 1))))))
@[irreducible] def sp_L_take (K : PySem.W.Frag) : Sp := fun vs H Q E => vs.length = 2 ∧ t_L_take K (wE E) (endOf Q) (st0 vs 2) H
theorem sp_L_take_i {K : PySem.W.Frag} {a0 a1 : V} {H : Hp} {Q : VK} {E : XK} (h : t_L_take K (wE E) (endOf Q) [some a0, some a1, none, none] H) : sp_L_take K [a0, a1] H Q E := by unfold sp_L_take; exact ⟨rfl, h⟩
def t_is_whole (K : PySem.W.Frag) (W : WX) : TS := sRet (eAnd (eF (cIsi K .int) (aC (eV 0) (aC (eC (.ty "int")) aN))) (eAnd (eNot (eF (cIsi K .bool) (aC (eV 0) (aC (eC (.ty "bool")) aN)))) (eChain (opLe) (opLe) (eV 1) (eV 0) (eV 2))))
@[irreducible] def sp_is_whole (K : PySem.W.Frag) : Sp := fun vs H Q E => vs.length = 3 ∧ t_is_whole K (wE E) (endOf Q) (st0 vs 0) H
theorem sp_is_whole_i {K : PySem.W.Frag} {a0 a1 a2 : V} {H : Hp} {Q : VK} {E : XK} (h : t_is_whole K (wE E) (endOf Q) [some a0, some a1, some a2] H) : sp_is_whole K [a0, a1, a2] H Q E := by unfold sp_is_whole; exact ⟨rfl, h⟩
def t_MakesError_init (K : PySem.W.Frag) (W : WX) : TS := sDrop (tVeI K (aC (eV 0) (aC (eV 1) (aN))))
@[irreducible] def sp_MakesError_init (K : PySem.W.Frag) : Sp := fun vs H Q E => vs.length = 2 ∧ t_MakesError_init K (wE E) (endOf Q) (st0 vs 0) H
theorem sp_MakesError_init_i {K : PySem.W.Frag} {a0 a1 : V} {H : Hp} {Q : VK} {E : XK} (h : t_MakesError_init K (wE E) (endOf Q) [some a0, some a1] H) : sp_MakesError_init K [a0, a1] H Q E := by unfold sp_MakesError_init; exact ⟨rfl, h⟩
def t_LeapTree_MakeTree_init (K : PySem.W.Frag) (W : WX) : TS := tSeq (sStF [(He.ga K "LeapTree")] "owners" (eL (aC (eC .non) (aN))) (eV 0)) (sStF [(He.ga K "LeapTree")] "depths" (eL (aC (eC (.int 0)) (aN))) (eV 0))
@[irreducible] def sp_LeapTree_MakeTree_init (K : PySem.W.Frag) : Sp := fun vs H Q E => vs.length = 1 ∧ t_LeapTree_MakeTree_init K (wE E) (endOf Q) (st0 vs 0) H
theorem sp_LeapTree_MakeTree_init_i {K : PySem.W.Frag} {a0 : V} {H : Hp} {Q : VK} {E : XK} (h : t_LeapTree_MakeTree_init K (wE E) (endOf Q) [some a0] H) : sp_LeapTree_MakeTree_init K [a0] H Q E := by unfold sp_LeapTree_MakeTree_init; exact ⟨rfl, h⟩
def t_Order_init (K : PySem.W.Frag) (W : WX) : TS := tSeq (sStF [(He.ga K "Order")] "standing" (eL (aC (eC (.int 0)) (aN))) (eV 0)) (tSeq (sStF [(He.ga K "Order")] "labelled" (eDis [(eC (.int 0), eC (.int 0))]) (eV 0)) (tSeq (sStF [(He.ga K "Order")] "given" (eC (.int 1)) (eV 0)) (sStF [(He.ga K "Order")] "times" (eC (.int 0)) (eV 0))))
@[irreducible] def sp_Order_init (K : PySem.W.Frag) : Sp := fun vs H Q E => vs.length = 1 ∧ t_Order_init K (wE E) (endOf Q) (st0 vs 0) H
theorem sp_Order_init_i {K : PySem.W.Frag} {a0 : V} {H : Hp} {Q : VK} {E : XK} (h : t_Order_init K (wE E) (endOf Q) [some a0] H) : sp_Order_init K [a0] H Q E := by unfold sp_Order_init; exact ⟨rfl, h⟩
def t_L_model (K : PySem.W.Frag) (W : WX) : TS := sRet (eDis [(eC (.str "rows"), eL (aC (eF (cList K) (aC (eV 0) (aN))) (aN))), (eC (.str "owners"), eL (aC (eC .non) (aN))), (eC (.str "wrote"), eL (aC (eC .non) (aN))), (eC (.str "kept"), eL (aC (eC (.int 0)) (aN)))])
@[irreducible] def sp_L_model (K : PySem.W.Frag) : Sp := fun vs H Q E => vs.length = 1 ∧ t_L_model K (wE E) (endOf Q) (st0 vs 0) H
theorem sp_L_model_i {K : PySem.W.Frag} {a0 : V} {H : Hp} {Q : VK} {E : XK} (h : t_L_model K (wE E) (endOf Q) [some a0] H) : sp_L_model K [a0] H Q E := by unfold sp_L_model; exact ⟨rfl, h⟩
def c_Boxed_makes_1 (K : PySem.W.Frag) : TE := eV 1
def t_Boxed_makes (K : PySem.W.Frag) (W : WX) : TS := sRet (eLc (iEn K (aC (eFld [(He.ga K "Boxed")] "gone" (eV 0)) (aN))) (gU K [1, 2]) (kNot (kT (eV 2))) (c_Boxed_makes_1 K) [1, 2])
@[irreducible] def sp_Boxed_makes (K : PySem.W.Frag) : Sp := fun vs H Q E => vs.length = 1 ∧ t_Boxed_makes K (wE E) (endOf Q) (st0 vs 2) H
theorem sp_Boxed_makes_i {K : PySem.W.Frag} {a0 : V} {H : Hp} {Q : VK} {E : XK} (h : t_Boxed_makes K (wE E) (endOf Q) [some a0, none, none] H) : sp_Boxed_makes K [a0] H Q E := by unfold sp_Boxed_makes; exact ⟨rfl, h⟩
def t_Boxed_size (K : PySem.W.Frag) (W : WX) : TS := sRet (eFld [(He.ga K "Boxed")] "wide" (eV 0))
@[irreducible] def sp_Boxed_size (K : PySem.W.Frag) : Sp := fun vs H Q E => vs.length = 1 ∧ t_Boxed_size K (wE E) (endOf Q) (st0 vs 0) H
theorem sp_Boxed_size_i {K : PySem.W.Frag} {a0 : V} {H : Hp} {Q : VK} {E : XK} (h : t_Boxed_size K (wE E) (endOf Q) [some a0] H) : sp_Boxed_size K [a0] H Q E := by unfold sp_Boxed_size; exact ⟨rfl, h⟩
def t_Order_marks (K : PySem.W.Frag) (W : WX) : TS := sRet (eF (cList K) (aC (eFld [(He.ga K "Order")] "standing" (eV 0)) (aN)))
@[irreducible] def sp_Order_marks (K : PySem.W.Frag) : Sp := fun vs H Q E => vs.length = 1 ∧ t_Order_marks K (wE E) (endOf Q) (st0 vs 0) H
theorem sp_Order_marks_i {K : PySem.W.Frag} {a0 : V} {H : Hp} {Q : VK} {E : XK} (h : t_Order_marks K (wE E) (endOf Q) [some a0] H) : sp_Order_marks K [a0] H Q E := by unfold sp_Order_marks; exact ⟨rfl, h⟩
def c_Boxed_is_read_1 (K : PySem.W.Frag) : TE := eB (ixX K) (eV 3) (eC (.int 1))
def t_Boxed_is_read (K : PySem.W.Frag) (W : WX) : TS := sRet (eB (inX K false) (eV 2) (eLc (iV K (eB (ixX K) (eFld [(He.ga K "Boxed")] "boxes" (eV 0)) (eV 1))) (gN 3) (tYes) (c_Boxed_is_read_1 K) [3]))
@[irreducible] def sp_Boxed_is_read (K : PySem.W.Frag) : Sp := fun vs H Q E => vs.length = 3 ∧ t_Boxed_is_read K (wE E) (endOf Q) (st0 vs 1) H
theorem sp_Boxed_is_read_i {K : PySem.W.Frag} {a0 a1 a2 : V} {H : Hp} {Q : VK} {E : XK} (h : t_Boxed_is_read K (wE E) (endOf Q) [some a0, some a1, some a2, none] H) : sp_Boxed_is_read K [a0, a1, a2] H Q E := by unfold sp_Boxed_is_read; exact ⟨rfl, h⟩
def t_LeapTree_many (K : PySem.W.Frag) (W : WX) : TS := sRet (eF (cLen K) (aC (eFld [(He.ga K "LeapTree")] "owners" (eV 0)) (aN)))
@[irreducible] def sp_LeapTree_many (K : PySem.W.Frag) : Sp := fun vs H Q E => vs.length = 1 ∧ t_LeapTree_many K (wE E) (endOf Q) (st0 vs 0) H
theorem sp_LeapTree_many_i {K : PySem.W.Frag} {a0 : V} {H : Hp} {Q : VK} {E : XK} (h : t_LeapTree_many K (wE E) (endOf Q) [some a0] H) : sp_LeapTree_many K [a0] H Q E := by unfold sp_LeapTree_many; exact ⟨rfl, h⟩
def b_LeapTree_lay_1 (K : PySem.W.Frag) (W : WX) : TS := sDrop (tBM K "list" opApp (eV 2) (aC (eB (ixX K) (eB (ixX K) (eFld [(He.ga K "LeapTree")] "leaping" (eV 0)) (eB (ixX K) (eV 2) (eU opNeg (eC (.int 1))))) (eB (opSub) (eF (cLen K) (aC (eV 2) (aN))) (eC (.int 1)))) (aN)))
def t_LeapTree_lay (K : PySem.W.Frag) (W : WX) : TS := tSeq (sDrop (tBM K "list" opApp (eFld [(He.ga K "LeapTree")] "depths" (eV 0)) (aC (eB (opAdd K) (eB (ixX K) (eFld [(He.ga K "LeapTree")] "depths" (eV 0)) (eV 1)) (eC (.int 1))) (aN)))) (tSeq (sSet 2 (eL (aC (eV 1) (aN)))) (tSeq (sWhile (kT (eB (opGe) (eF (cLen K) (aC (eB (ixX K) (eFld [(He.ga K "LeapTree")] "leaping" (eV 0)) (eB (ixX K) (eV 2) (eU opNeg (eC (.int 1))))) (aN))) (eF (cLen K) (aC (eV 2) (aN))))) (b_LeapTree_lay_1 K W)) (sDrop (tBM K "list" opApp (eFld [(He.ga K "LeapTree")] "leaping" (eV 0)) (aC (eV 2) (aN))))))
@[irreducible] def sp_LeapTree_lay (K : PySem.W.Frag) : Sp := fun vs H Q E => vs.length = 2 ∧ t_LeapTree_lay K (wE E) (endOf Q) (st0 vs 1) H
theorem sp_LeapTree_lay_i {K : PySem.W.Frag} {a0 a1 : V} {H : Hp} {Q : VK} {E : XK} (h : t_LeapTree_lay K (wE E) (endOf Q) [some a0, some a1, none] H) : sp_LeapTree_lay K [a0, a1] H Q E := by unfold sp_LeapTree_lay; exact ⟨rfl, h⟩
def t_Boxed_add_steps (K : PySem.W.Frag) (W : WX) : TS := sAgF [(He.ga K "Boxed")] "counted" agAdd (eV 0) (eV 1)
@[irreducible] def sp_Boxed_add_steps (K : PySem.W.Frag) : Sp := fun vs H Q E => vs.length = 2 ∧ t_Boxed_add_steps K (wE E) (endOf Q) (st0 vs 0) H
theorem sp_Boxed_add_steps_i {K : PySem.W.Frag} {a0 a1 : V} {H : Hp} {Q : VK} {E : XK} (h : t_Boxed_add_steps K (wE E) (endOf Q) [some a0, some a1] H) : sp_Boxed_add_steps K [a0, a1] H Q E := by unfold sp_Boxed_add_steps; exact ⟨rfl, h⟩
def t_Order_label_behind (K : PySem.W.Frag) (W : WX) : TS := tSeq (sIf (kT (eB (opLt) (eB (opAdd K) (eV 1) (eC (.int 1))) (eF (cLen K) (aC (eFld [(He.ga K "Order")] "standing" (eV 0)) (aN))))) (sRet (eB (ixX K) (eFld [(He.ga K "Order")] "labelled" (eV 0)) (eB (ixX K) (eFld [(He.ga K "Order")] "standing" (eV 0)) (eB (opAdd K) (eV 1) (eC (.int 1)))))) (tNext)) (sRet (eC (.int 1024)))
@[irreducible] def sp_Order_label_behind (K : PySem.W.Frag) : Sp := fun vs H Q E => vs.length = 2 ∧ t_Order_label_behind K (wE E) (endOf Q) (st0 vs 0) H
theorem sp_Order_label_behind_i {K : PySem.W.Frag} {a0 a1 : V} {H : Hp} {Q : VK} {E : XK} (h : t_Order_label_behind K (wE E) (endOf Q) [some a0, some a1] H) : sp_Order_label_behind K [a0, a1] H Q E := by unfold sp_Order_label_behind; exact ⟨rfl, h⟩
def b_Order_label_all_1 (K : PySem.W.Frag) (W : WX) : TS := sSetI (eB (opMul) (eV 2) (eV 1)) (eFld [(He.ga K "Order")] "labelled" (eV 0)) (eV 3)
def t_Order_label_all (K : PySem.W.Frag) (W : WX) : TS := tSeq (sSet 1 (eB (opDiv) (eC (.int 1024)) (eF (cLen K) (aC (eFld [(He.ga K "Order")] "standing" (eV 0)) (aN))))) (tSeq (sFor (iEn K (aC (eFld [(He.ga K "Order")] "standing" (eV 0)) (aN))) (gU K [2, 3]) (b_Order_label_all_1 K W)) (sAgF [(He.ga K "Order")] "times" agAdd (eV 0) (eC (.int 1))))
@[irreducible] def sp_Order_label_all (K : PySem.W.Frag) : Sp := fun vs H Q E => vs.length = 1 ∧ t_Order_label_all K (wE E) (endOf Q) (st0 vs 3) H
theorem sp_Order_label_all_i {K : PySem.W.Frag} {a0 : V} {H : Hp} {Q : VK} {E : XK} (h : t_Order_label_all K (wE E) (endOf Q) [some a0, none, none, none] H) : sp_Order_label_all K [a0] H Q E := by unfold sp_Order_label_all; exact ⟨rfl, h⟩
def t_L_written (K : PySem.W.Frag) (W : WX) : TS := tSeq (sSet 4 (eF (cList K) (aC (eB (ixX K) (eB (ixX K) (eV 0) (eC (.str "rows"))) (eV 1)) (aN)))) (tSeq (sSetI (eV 3) (eV 4) (eV 2)) (tSeq (sDrop (tBM K "list" opApp (eB (ixX K) (eV 0) (eC (.str "rows"))) (aC (eV 4) (aN)))) (tSeq (sDrop (tBM K "list" opApp (eB (ixX K) (eV 0) (eC (.str "owners"))) (aC (eV 1) (aN)))) (tSeq (sDrop (tBM K "list" opApp (eB (ixX K) (eV 0) (eC (.str "wrote"))) (aC (eV 2) (aN)))) (tSeq (sDrop (tBM K "list" opApp (eB (ixX K) (eV 0) (eC (.str "kept"))) (aC (eB (opSub) (eF (cLen K) (aC (eB (ixX K) (eV 0) (eC (.str "rows"))) (aN))) (eC (.int 1))) (aN)))) (sRet (eB (opSub) (eF (cLen K) (aC (eB (ixX K) (eV 0) (eC (.str "rows"))) (aN))) (eC (.int 1)))))))))
@[irreducible] def sp_L_written (K : PySem.W.Frag) : Sp := fun vs H Q E => vs.length = 4 ∧ t_L_written K (wE E) (endOf Q) (st0 vs 1) H
theorem sp_L_written_i {K : PySem.W.Frag} {a0 a1 a2 a3 : V} {H : Hp} {Q : VK} {E : XK} (h : t_L_written K (wE E) (endOf Q) [some a0, some a1, some a2, some a3, none] H) : sp_L_written K [a0, a1, a2, a3] H Q E := by unfold sp_L_written; exact ⟨rfl, h⟩
def b_L_model_copy_1 (K : PySem.W.Frag) (W : WX) : TS := sSetI (eF (cList K) (aC (eB (ixX K) (eV 0) (eV 2)) (aN))) (eV 1) (eV 2)
def t_L_model_copy (K : PySem.W.Frag) (W : WX) : TS := tSeq (sSet 1 (eD0)) (tSeq (lkS (sFor (iKy (eV 0)) (gN 2) (b_L_model_copy_1 K W))) (sRet (eV 1)))
@[irreducible] def sp_L_model_copy (K : PySem.W.Frag) : Sp := fun vs H Q E => vs.length = 1 ∧ t_L_model_copy K (wE E) (endOf Q) (st0 vs 2) H
theorem sp_L_model_copy_i {K : PySem.W.Frag} {a0 : V} {H : Hp} {Q : VK} {E : XK} (h : t_L_model_copy K (wE E) (endOf Q) [some a0, none, none] H) : sp_L_model_copy K [a0] H Q E := by unfold sp_L_model_copy; exact ⟨rfl, h⟩
def b_L_come_1 (K : PySem.W.Frag) (W : WX) : TS := sDrop (tBM K "list" opIns (eV 1) (aC (eB (opAdd K) (tBM K "list" (opIdx K) (eV 1) (aC (eB (ixX K) (eB (ixX K) (eV 0) (eC (.str "owners"))) (eV 2)) (aN))) (eC (.int 1))) (aC (eV 2) (aN))))
def t_L_come (K : PySem.W.Frag) (W : WX) : TS := tSeq (sSet 1 (eL (aC (eC (.int 0)) (aN)))) (tSeq (sFor (iR2 (aC (eC (.int 1)) (aC (eF (cLen K) (aC (eB (ixX K) (eV 0) (eC (.str "owners"))) (aN))) (aN)))) (gN 2) (b_L_come_1 K W)) (sRet (eV 1)))
@[irreducible] def sp_L_come (K : PySem.W.Frag) : Sp := fun vs H Q E => vs.length = 1 ∧ t_L_come K (wE E) (endOf Q) (st0 vs 2) H
theorem sp_L_come_i {K : PySem.W.Frag} {a0 : V} {H : Hp} {Q : VK} {E : XK} (h : t_L_come K (wE E) (endOf Q) [some a0, none, none] H) : sp_L_come K [a0] H Q E := by unfold sp_L_come; exact ⟨rfl, h⟩
def b_L_last_1 (K : PySem.W.Frag) (W : WX) : TS := sSet 1 (eB (ixX K) (eB (ixX K) (eV 0) (eC (.str "owners"))) (eV 1))
def t_L_last (K : PySem.W.Frag) (W : WX) : TS := tSeq (sWhile (kAnd (kT (eB (opGt) (eV 1) (eC (.int 0)))) (kT (eB (opNe K) (eB (ixX K) (eB (ixX K) (eV 0) (eC (.str "wrote"))) (eV 1)) (eV 2)))) (b_L_last_1 K W)) (sRet (eV 1))
@[irreducible] def sp_L_last (K : PySem.W.Frag) : Sp := fun vs H Q E => vs.length = 3 ∧ t_L_last K (wE E) (endOf Q) (st0 vs 0) H
theorem sp_L_last_i {K : PySem.W.Frag} {a0 a1 a2 : V} {H : Hp} {Q : VK} {E : XK} (h : t_L_last K (wE E) (endOf Q) [some a0, some a1, some a2] H) : sp_L_last K [a0, a1, a2] H Q E := by unfold sp_L_last; exact ⟨rfl, h⟩
def c_Boxed_room_1 (K : PySem.W.Frag) : TE := eF (cLen K) (aC (eV 1) (aN))
def t_Boxed_room (K : PySem.W.Frag) (W : WX) : TS := sRet (eF (cSum K) (aC (eLc (iV K (eFld [(He.ga K "Boxed")] "boxes" (eV 0))) (gN 1) (tYes) (c_Boxed_room_1 K) [1]) (aN)))
@[irreducible] def sp_Boxed_room (K : PySem.W.Frag) : Sp := fun vs H Q E => vs.length = 1 ∧ t_Boxed_room K (wE E) (endOf Q) (st0 vs 1) H
theorem sp_Boxed_room_i {K : PySem.W.Frag} {a0 : V} {H : Hp} {Q : VK} {E : XK} (h : t_Boxed_room K (wE E) (endOf Q) [some a0, none] H) : sp_Boxed_room K [a0] H Q E := by unfold sp_Boxed_room; exact ⟨rfl, h⟩
def t_L_worth (K : PySem.W.Frag) (W : WX) : TS := tSeq (sSet 1 (eCall (sp_L_take K) W (aC (eV 0) (aC (eC (.int 3)) (aN))))) (tSeq (sSet 2 (eB (opAdd K) (eB (opAdd K) (eB (opMul) (eCall (sp_L_take K) W (aC (eV 0) (aC (eB (opPow) (eC (.int 10)) (eC (.int 7))) (aN)))) (eB (opPow) (eC (.int 10)) (eC (.int 23)))) (eB (opMul) (eCall (sp_L_take K) W (aC (eV 0) (aC (eB (opPow) (eC (.int 10)) (eC (.int 7))) (aN)))) (eB (opPow) (eC (.int 10)) (eC (.int 8))))) (eCall (sp_L_take K) W (aC (eV 0) (aC (eB (opPow) (eC (.int 10)) (eC (.int 7))) (aN)))))) (sRet (eB (ixX K) (eL (aC (eB (opSub) (eB (opMod) (eV 2) (eC (.int 7))) (eC (.int 3))) (aC (eB (ixX K) (eL (aC (eB (opSub) (eB (opPow) (eC (.int 10)) (eC (.int 30))) (eC (.int 1))) (aC (eB (opSub) (eC (.int 1)) (eB (opPow) (eC (.int 10)) (eC (.int 30)))) (aC (eC (.int 0)) (aN))))) (eB (opMod) (eV 2) (eC (.int 3)))) (aC (eB (opSub) (eV 2) (eB (opPow) (eC (.int 10)) (eC (.int 29)))) (aN))))) (eV 1))))
@[irreducible] def sp_L_worth (K : PySem.W.Frag) : Sp := fun vs H Q E => vs.length = 1 ∧ t_L_worth K (wE E) (endOf Q) (st0 vs 2) H
theorem sp_L_worth_i {K : PySem.W.Frag} {a0 : V} {H : Hp} {Q : VK} {E : XK} (h : t_L_worth K (wE E) (endOf Q) [some a0, none, none] H) : sp_L_worth K [a0] H Q E := by unfold sp_L_worth; exact ⟨rfl, h⟩
def t_is_worth (K : PySem.W.Frag) (W : WX) : TS := tSeq (sSet 1 (eB (opSub) (eB (opPow) (eC (.int 10)) (eC (.int 30))) (eC (.int 1)))) (sRet (eCall (sp_is_whole K) W (aC (eV 0) (aC (eB (opSub) (eC (.int 0)) (eV 1)) (aC (eV 1) (aN))))))
@[irreducible] def sp_is_worth (K : PySem.W.Frag) : Sp := fun vs H Q E => vs.length = 1 ∧ t_is_worth K (wE E) (endOf Q) (st0 vs 1) H
theorem sp_is_worth_i {K : PySem.W.Frag} {a0 : V} {H : Hp} {Q : VK} {E : XK} (h : t_is_worth K (wE E) (endOf Q) [some a0, none] H) : sp_is_worth K [a0] H Q E := by unfold sp_is_worth; exact ⟨rfl, h⟩
def t_NoRow_init (K : PySem.W.Frag) (W : WX) : TS := tSeq (sDrop (eCall (sp_MakesError_init K) W (aC (eV 0) (aC (eC (.str "no worths of a row")) (aN))))) (tOst K "found" (eV 0) (eV 1))
@[irreducible] def sp_NoRow_init (K : PySem.W.Frag) : Sp := fun vs H Q E => vs.length = 2 ∧ t_NoRow_init K (wE E) (endOf Q) (st0 vs 0) H
theorem sp_NoRow_init_i {K : PySem.W.Frag} {a0 a1 : V} {H : Hp} {Q : VK} {E : XK} (h : t_NoRow_init K (wE E) (endOf Q) [some a0, some a1] H) : sp_NoRow_init K [a0, a1] H Q E := by unfold sp_NoRow_init; exact ⟨rfl, h⟩
def t_LeapTree_init (K : PySem.W.Frag) (W : WX) : TS := tSeq (sDrop (eCall (sp_LeapTree_MakeTree_init K) W (aC (eV 0) (aN)))) (sStF [(He.ga K "LeapTree")] "leaping" (eL (aC (eL (aN)) (aN))) (eV 0))
@[irreducible] def sp_LeapTree_init (K : PySem.W.Frag) : Sp := fun vs H Q E => vs.length = 1 ∧ t_LeapTree_init K (wE E) (endOf Q) (st0 vs 0) H
theorem sp_LeapTree_init_i {K : PySem.W.Frag} {a0 : V} {H : Hp} {Q : VK} {E : XK} (h : t_LeapTree_init K (wE E) (endOf Q) [some a0] H) : sp_LeapTree_init K [a0] H Q E := by unfold sp_LeapTree_init; exact ⟨rfl, h⟩
def t_L_one_of (K : PySem.W.Frag) (W : WX) : TS := tSeq (sSet 2 (eCall (sp_L_take K) W (aC (eV 0) (aC (eC (.int 3)) (aN))))) (sRet (eB (ixX K) (eL (aC (eB (ixX K) (eV 1) (eCall (sp_L_take K) W (aC (eV 0) (aC (eF (cLen K) (aC (eV 1) (aN))) (aN))))) (aC (eB (ixX K) (eV 1) (eC (.int 0))) (aC (eB (ixX K) (eV 1) (eU opNeg (eC (.int 1)))) (aN))))) (eV 2)))
@[irreducible] def sp_L_one_of (K : PySem.W.Frag) : Sp := fun vs H Q E => vs.length = 2 ∧ t_L_one_of K (wE E) (endOf Q) (st0 vs 1) H
theorem sp_L_one_of_i {K : PySem.W.Frag} {a0 a1 : V} {H : Hp} {Q : VK} {E : XK} (h : t_L_one_of K (wE E) (endOf Q) [some a0, some a1, none] H) : sp_L_one_of K [a0, a1] H Q E := by unfold sp_L_one_of; exact ⟨rfl, h⟩
def t_NoMake_init (K : PySem.W.Frag) (W : WX) : TS := tSeq (sDrop (eCall (sp_MakesError_init K) W (aC (eV 0) (aC (eC (.str "no kept make")) (aN))))) (tOst K "found" (eV 0) (eV 1))
@[irreducible] def sp_NoMake_init (K : PySem.W.Frag) : Sp := fun vs H Q E => vs.length = 2 ∧ t_NoMake_init K (wE E) (endOf Q) (st0 vs 0) H
theorem sp_NoMake_init_i {K : PySem.W.Frag} {a0 a1 : V} {H : Hp} {Q : VK} {E : XK} (h : t_NoMake_init K (wE E) (endOf Q) [some a0, some a1] H) : sp_NoMake_init K [a0, a1] H Q E := by unfold sp_NoMake_init; exact ⟨rfl, h⟩
def t_Alone_init (K : PySem.W.Frag) (W : WX) : TS := tSeq (sDrop (eCall (sp_MakesError_init K) W (aC (eV 0) (aC (eC (.str "the only one")) (aN))))) (tOst K "found" (eV 0) (eV 1))
@[irreducible] def sp_Alone_init (K : PySem.W.Frag) : Sp := fun vs H Q E => vs.length = 2 ∧ t_Alone_init K (wE E) (endOf Q) (st0 vs 0) H
theorem sp_Alone_init_i {K : PySem.W.Frag} {a0 a1 : V} {H : Hp} {Q : VK} {E : XK} (h : t_Alone_init K (wE E) (endOf Q) [some a0, some a1] H) : sp_Alone_init K [a0, a1] H Q E := by unfold sp_Alone_init; exact ⟨rfl, h⟩
def t_NoPlace_init (K : PySem.W.Frag) (W : WX) : TS := tSeq (sDrop (eCall (sp_MakesError_init K) W (aC (eV 0) (aC (eC (.str "no place")) (aN))))) (tOst K "found" (eV 0) (eV 1))
@[irreducible] def sp_NoPlace_init (K : PySem.W.Frag) : Sp := fun vs H Q E => vs.length = 2 ∧ t_NoPlace_init K (wE E) (endOf Q) (st0 vs 0) H
theorem sp_NoPlace_init_i {K : PySem.W.Frag} {a0 a1 : V} {H : Hp} {Q : VK} {E : XK} (h : t_NoPlace_init K (wE E) (endOf Q) [some a0, some a1] H) : sp_NoPlace_init K [a0, a1] H Q E := by unfold sp_NoPlace_init; exact ⟨rfl, h⟩
def t_NoMark_init (K : PySem.W.Frag) (W : WX) : TS := tSeq (sDrop (eCall (sp_MakesError_init K) W (aC (eV 0) (aC (eC (.str "no mark")) (aN))))) (tOst K "found" (eV 0) (eV 1))
@[irreducible] def sp_NoMark_init (K : PySem.W.Frag) : Sp := fun vs H Q E => vs.length = 2 ∧ t_NoMark_init K (wE E) (endOf Q) (st0 vs 0) H
theorem sp_NoMark_init_i {K : PySem.W.Frag} {a0 a1 : V} {H : Hp} {Q : VK} {E : XK} (h : t_NoMark_init K (wE E) (endOf Q) [some a0, some a1] H) : sp_NoMark_init K [a0, a1] H Q E := by unfold sp_NoMark_init; exact ⟨rfl, h⟩
def c_Boxed_in_order_1 (K : PySem.W.Frag) : TE := eB (ixX K) (eFld [(He.ga K "Boxed")] "owners" (eV 0)) (eV 1)
def t_Boxed_in_order (K : PySem.W.Frag) (W : WX) : TS := sRet (eLc (iV K (eMethD [((He.ga K "Order"), sp_Order_marks K)] "marks" W (eFld [(He.ga K "Boxed")] "placed" (eV 0)) aN)) (gN 1) (tYes) (c_Boxed_in_order_1 K) [1])
@[irreducible] def sp_Boxed_in_order (K : PySem.W.Frag) : Sp := fun vs H Q E => vs.length = 1 ∧ t_Boxed_in_order K (wE E) (endOf Q) (st0 vs 1) H
theorem sp_Boxed_in_order_i {K : PySem.W.Frag} {a0 : V} {H : Hp} {Q : VK} {E : XK} (h : t_Boxed_in_order K (wE E) (endOf Q) [some a0, none] H) : sp_Boxed_in_order K [a0] H Q E := by unfold sp_Boxed_in_order; exact ⟨rfl, h⟩
def t_NoWorth_init (K : PySem.W.Frag) (W : WX) : TS := tSeq (sDrop (eCall (sp_MakesError_init K) W (aC (eV 0) (aC (eC (.str "no worth")) (aN))))) (tOst K "found" (eV 0) (eV 1))
@[irreducible] def sp_NoWorth_init (K : PySem.W.Frag) : Sp := fun vs H Q E => vs.length = 2 ∧ t_NoWorth_init K (wE E) (endOf Q) (st0 vs 0) H
theorem sp_NoWorth_init_i {K : PySem.W.Frag} {a0 a1 : V} {H : Hp} {Q : VK} {E : XK} (h : t_NoWorth_init K (wE E) (endOf Q) [some a0, some a1] H) : sp_NoWorth_init K [a0, a1] H Q E := by unfold sp_NoWorth_init; exact ⟨rfl, h⟩
def t_TooMany_init (K : PySem.W.Frag) (W : WX) : TS := tSeq (sDrop (eCall (sp_MakesError_init K) W (aC (eV 0) (aC (eC (.str "too many")) (aN))))) (tOst K "count" (eV 0) (eV 1))
@[irreducible] def sp_TooMany_init (K : PySem.W.Frag) : Sp := fun vs H Q E => vs.length = 2 ∧ t_TooMany_init K (wE E) (endOf Q) (st0 vs 0) H
theorem sp_TooMany_init_i {K : PySem.W.Frag} {a0 a1 : V} {H : Hp} {Q : VK} {E : XK} (h : t_TooMany_init K (wE E) (endOf Q) [some a0, some a1] H) : sp_TooMany_init K [a0, a1] H Q E := by unfold sp_TooMany_init; exact ⟨rfl, h⟩
def t_NoChanges_init (K : PySem.W.Frag) (W : WX) : TS := tSeq (sDrop (eCall (sp_MakesError_init K) W (aC (eV 0) (aC (eC (.str "no changes")) (aN))))) (tOst K "found" (eV 0) (eV 1))
@[irreducible] def sp_NoChanges_init (K : PySem.W.Frag) : Sp := fun vs H Q E => vs.length = 2 ∧ t_NoChanges_init K (wE E) (endOf Q) (st0 vs 0) H
theorem sp_NoChanges_init_i {K : PySem.W.Frag} {a0 a1 : V} {H : Hp} {Q : VK} {E : XK} (h : t_NoChanges_init K (wE E) (endOf Q) [some a0, some a1] H) : sp_NoChanges_init K [a0, a1] H Q E := by unfold sp_NoChanges_init; exact ⟨rfl, h⟩
def b_L_runs_1 (K : PySem.W.Frag) (W : WX) : TS := sIf (kT (eB (inX K false) (eV 3) (eB (ixX K) (eV 0) (eC (.str "kept"))))) (tSeq (sSet 4 (eCall (sp_L_last K) W (aC (eV 0) (aC (eV 3) (aC (eV 1) (aN)))))) (sIf (kOr (kT (eB (opEq K) (eV 2) (eL (aN)))) (kT (eB (opNe K) (eB (ixX K) (eB (ixX K) (eV 2) (eU opNeg (eC (.int 1)))) (eC (.int 1))) (eV 4)))) (sDrop (tBM K "list" opApp (eV 2) (aC (eT (aC (eV 3) (aC (eV 4) (aC (eB (ixX K) (eB (ixX K) (eB (ixX K) (eV 0) (eC (.str "rows"))) (eV 3)) (eV 1)) (aN))))) (aN)))) (tNext))) (tNext)
def t_L_runs (K : PySem.W.Frag) (W : WX) : TS := tSeq (sSet 2 (eL (aN))) (tSeq (sFor (iV K (eCall (sp_L_come K) W (aC (eV 0) (aN)))) (gN 3) (b_L_runs_1 K W)) (sRet (eV 2)))
@[irreducible] def sp_L_runs (K : PySem.W.Frag) : Sp := fun vs H Q E => vs.length = 2 ∧ t_L_runs K (wE E) (endOf Q) (st0 vs 3) H
theorem sp_L_runs_i {K : PySem.W.Frag} {a0 a1 : V} {H : Hp} {Q : VK} {E : XK} (h : t_L_runs K (wE E) (endOf Q) [some a0, some a1, none, none, none] H) : sp_L_runs K [a0, a1] H Q E := by unfold sp_L_runs; exact ⟨rfl, h⟩
def c_L_worths_1 (K : PySem.W.Frag) : TE := eCall (sp_L_worth K) noW (aC (eV 0) (aN))
def t_L_worths (K : PySem.W.Frag) (W : WX) : TS := tSeq (sSet 1 (eB (ixX K) (eL (aC (eB (opAdd K) (eC (.int 1)) (eCall (sp_L_take K) W (aC (eV 0) (aC (eC (.int 16)) (aN))))) (aC (eC (.int 16)) (aC (eB (opAdd K) (eC (.int 1)) (eCall (sp_L_take K) W (aC (eV 0) (aC (eC (.int 3)) (aN))))) (aN))))) (eCall (sp_L_take K) W (aC (eV 0) (aC (eC (.int 3)) (aN)))))) (sRet (eLc (iR1 (aC (eV 1) (aN))) (gN 2) (tYes) (c_L_worths_1 K) [2]))
@[irreducible] def sp_L_worths (K : PySem.W.Frag) : Sp := fun vs H Q E => vs.length = 1 ∧ t_L_worths K (wE E) (endOf Q) (st0 vs 2) H
theorem sp_L_worths_i {K : PySem.W.Frag} {a0 : V} {H : Hp} {Q : VK} {E : XK} (h : t_L_worths K (wE E) (endOf Q) [some a0, none, none] H) : sp_L_worths K [a0] H Q E := by unfold sp_L_worths; exact ⟨rfl, h⟩
def c_is_worths_1 (K : PySem.W.Frag) : TE := eCall (sp_is_worth K) noW (aC (eV 1) (aN))
def t_is_worths (K : PySem.W.Frag) (W : WX) : TS := tSeq (sIf (kOr (kNot (kT (eF (cIsiT K [.list, .tuple]) (aC (eV 0) (aC (eT (aC (eC (.ty "list")) (aC (eC (.ty "tuple")) (aN)))) aN))))) (kNot (kT (eChain (opLe) (opLe) (eC (.int 1)) (eF (cLen K) (aC (eV 0) (aN))) (eC (.int 16)))))) (sRet (eC (.bl false))) (tNext)) (sRet (eF (cAll K) (aC (eLc (iV K (eV 0)) (gN 1) (tYes) (c_is_worths_1 K) [1]) (aN))))
@[irreducible] def sp_is_worths (K : PySem.W.Frag) : Sp := fun vs H Q E => vs.length = 1 ∧ t_is_worths K (wE E) (endOf Q) (st0 vs 1) H
theorem sp_is_worths_i {K : PySem.W.Frag} {a0 : V} {H : Hp} {Q : VK} {E : XK} (h : t_is_worths K (wE E) (endOf Q) [some a0, none] H) : sp_is_worths K [a0] H Q E := by unfold sp_is_worths; exact ⟨rfl, h⟩
def c_Boxed_begin_1 (K : PySem.W.Frag) : TE := eL (aC (eT (aC (eC (.int 0)) (aC (eC (.int 0)) (aC (eV 2) (aN))))) (aN))
def t_Boxed_begin (K : PySem.W.Frag) (W : WX) : TS := tSeq (sStF [(He.ga K "Boxed")] "boxes" (eLc (iV K (eV 1)) (gN 2) (tYes) (c_Boxed_begin_1 K) [2]) (eV 0)) (tSeq (sStF [(He.ga K "Boxed")] "placed" (eMake (He.ga K "Order") (sp_Order_init K) W aN) (eV 0)) (tSeq (sStF [(He.ga K "Boxed")] "owners" (eDis [(eC (.int 0), eC (.int 0))]) (eV 0)) (sStF [(He.ga K "Boxed")] "marked" (eDis [(eC (.int 0), eC (.int 0))]) (eV 0))))
@[irreducible] def sp_Boxed_begin (K : PySem.W.Frag) : Sp := fun vs H Q E => vs.length = 2 ∧ t_Boxed_begin K (wE E) (endOf Q) (st0 vs 1) H
theorem sp_Boxed_begin_i {K : PySem.W.Frag} {a0 a1 : V} {H : Hp} {Q : VK} {E : XK} (h : t_Boxed_begin K (wE E) (endOf Q) [some a0, some a1, none] H) : sp_Boxed_begin K [a0, a1] H Q E := by unfold sp_Boxed_begin; exact ⟨rfl, h⟩
def t_L_put (K : PySem.W.Frag) (W : WX) : TS := tSeq (sSet 3 (eCall (sp_L_one_of K) W (aC (eV 0) (aC (eB (ixX K) (eV 1) (eC (.str "kept"))) (aN))))) (tSeq (sSet 4 (eB (ixX K) (eL (aC (eCall (sp_L_take K) W (aC (eV 0) (aC (eV 2) (aN)))) (aC (eC (.int 0)) (aC (eB (opSub) (eV 2) (eC (.int 1))) (aN))))) (eCall (sp_L_take K) W (aC (eV 0) (aC (eC (.int 3)) (aN)))))) (tSeq (sSet 5 (eB (ixX K) (eL (aC (eCall (sp_L_worth K) W (aC (eV 0) (aN))) (aC (eB (ixX K) (eB (ixX K) (eB (ixX K) (eV 1) (eC (.str "rows"))) (eV 3)) (eV 4)) (aN)))) (eF (cInt) (aC (eB (opEq K) (eCall (sp_L_take K) W (aC (eV 0) (aC (eC (.int 4)) (aN)))) (eC (.int 0))) (aN))))) (sRet (eT (aC (eV 3) (aC (eV 4) (aC (eV 5) (aN))))))))
@[irreducible] def sp_L_put (K : PySem.W.Frag) : Sp := fun vs H Q E => vs.length = 3 ∧ t_L_put K (wE E) (endOf Q) (st0 vs 3) H
theorem sp_L_put_i {K : PySem.W.Frag} {a0 a1 a2 : V} {H : Hp} {Q : VK} {E : XK} (h : t_L_put K (wE E) (endOf Q) [some a0, some a1, some a2, none, none, none] H) : sp_L_put K [a0, a1, a2] H Q E := by unfold sp_L_put; exact ⟨rfl, h⟩
def t_is_change (K : PySem.W.Frag) (W : WX) : TS := tSeq (sIf (kOr (kNot (kT (eF (cIsi K .tuple) (aC (eV 0) (aC (eC (.ty "tuple")) aN))))) (kT (eB (opNe K) (eF (cLen K) (aC (eV 0) (aN))) (eC (.int 2))))) (sRet (eC (.bl false))) (tNext)) (sRet (eAnd (eCall (sp_is_whole K) W (aC (eB (ixX K) (eV 0) (eC (.int 0))) (aC (eC (.int 0)) (aC (eB (opSub) (eV 1) (eC (.int 1))) (aN))))) (eCall (sp_is_worth K) W (aC (eB (ixX K) (eV 0) (eC (.int 1))) (aN)))))
@[irreducible] def sp_is_change (K : PySem.W.Frag) : Sp := fun vs H Q E => vs.length = 2 ∧ t_is_change K (wE E) (endOf Q) (st0 vs 0) H
theorem sp_is_change_i {K : PySem.W.Frag} {a0 a1 : V} {H : Hp} {Q : VK} {E : XK} (h : t_is_change K (wE E) (endOf Q) [some a0, some a1] H) : sp_is_change K [a0, a1] H Q E := by unfold sp_is_change; exact ⟨rfl, h⟩
def t_Order_copied (K : PySem.W.Frag) (W : WX) : TS := tSeq (sSet 1 (eMake (He.ga K "Order") (sp_Order_init K) W aN)) (tSeq (sStF [(He.ga K "Order")] "standing" (eF (cList K) (aC (eFld [(He.ga K "Order")] "standing" (eV 0)) (aN))) (eV 1)) (tSeq (sStF [(He.ga K "Order")] "labelled" (eF (cDict K) (aC (eFld [(He.ga K "Order")] "labelled" (eV 0)) (aN))) (eV 1)) (tSeq (sStF [(He.ga K "Order")] "given" (eFld [(He.ga K "Order")] "given" (eV 0)) (eV 1)) (tSeq (sStF [(He.ga K "Order")] "times" (eFld [(He.ga K "Order")] "times" (eV 0)) (eV 1)) (sRet (eV 1))))))
@[irreducible] def sp_Order_copied (K : PySem.W.Frag) : Sp := fun vs H Q E => vs.length = 1 ∧ t_Order_copied K (wE E) (endOf Q) (st0 vs 1) H
theorem sp_Order_copied_i {K : PySem.W.Frag} {a0 : V} {H : Hp} {Q : VK} {E : XK} (h : t_Order_copied K (wE E) (endOf Q) [some a0, none] H) : sp_Order_copied K [a0] H Q E := by unfold sp_Order_copied; exact ⟨rfl, h⟩
def t_Boxed_Rows_init (K : PySem.W.Frag) (W : WX) : TS := tSeq (sIf (kNot (kT (eCall (sp_is_worths K) W (aC (eV 1) (aN))))) (sRaise (He.ga K "NoRow") ["found"] W (aC (eV 1) (aN))) (tNext)) (tSeq (sStF [(He.ga K "Boxed")] "wide" (eF (cLen K) (aC (eV 1) (aN))) (eV 0)) (tSeq (sStF [(He.ga K "Boxed")] "grown" (eMake (He.ga K "LeapTree") (sp_LeapTree_init K) W aN) (eV 0)) (tSeq (sStF [(He.ga K "Boxed")] "wrote" (eL (aC (eC .non) (aN))) (eV 0)) (tSeq (sStF [(He.ga K "Boxed")] "gone" (eL (aC (eC (.bl false)) (aN))) (eV 0)) (tSeq (sStF [(He.ga K "Boxed")] "counted" (eC (.int 0)) (eV 0)) (sDrop (eMethD [((He.ga K "Boxed"), sp_Boxed_begin K)] "begin" W (eV 0) (aC (eF (cList K) (aC (eV 1) (aN))) (aN)))))))))
@[irreducible] def sp_Boxed_Rows_init (K : PySem.W.Frag) : Sp := fun vs H Q E => vs.length = 2 ∧ t_Boxed_Rows_init K (wE E) (endOf Q) (st0 vs 0) H
theorem sp_Boxed_Rows_init_i {K : PySem.W.Frag} {a0 a1 : V} {H : Hp} {Q : VK} {E : XK} (h : t_Boxed_Rows_init K (wE E) (endOf Q) [some a0, some a1] H) : sp_Boxed_Rows_init K [a0, a1] H Q E := by unfold sp_Boxed_Rows_init; exact ⟨rfl, h⟩
def t_Boxed_need_make (K : PySem.W.Frag) (W : WX) : TS := sIf (kOr (kNot (kT (eCall (sp_is_whole K) W (aC (eV 1) (aC (eC (.int 0)) (aC (eB (opSub) (eF (cLen K) (aC (eFld [(He.ga K "Boxed")] "gone" (eV 0)) (aN))) (eC (.int 1))) (aN))))))) (kT (eB (ixX K) (eFld [(He.ga K "Boxed")] "gone" (eV 0)) (eV 1)))) (sRaise (He.ga K "NoMake") ["found"] W (aC (eV 1) (aN))) (tNext)
@[irreducible] def sp_Boxed_need_make (K : PySem.W.Frag) : Sp := fun vs H Q E => vs.length = 2 ∧ t_Boxed_need_make K (wE E) (endOf Q) (st0 vs 0) H
theorem sp_Boxed_need_make_i {K : PySem.W.Frag} {a0 a1 : V} {H : Hp} {Q : VK} {E : XK} (h : t_Boxed_need_make K (wE E) (endOf Q) [some a0, some a1] H) : sp_Boxed_need_make K [a0, a1] H Q E := by unfold sp_Boxed_need_make; exact ⟨rfl, h⟩
def t_Boxed_need_place (K : PySem.W.Frag) (W : WX) : TS := sIf (kNot (kT (eCall (sp_is_whole K) W (aC (eV 1) (aC (eC (.int 0)) (aC (eB (opSub) (eFld [(He.ga K "Boxed")] "wide" (eV 0)) (eC (.int 1))) (aN))))))) (sRaise (He.ga K "NoPlace") ["found"] W (aC (eV 1) (aN))) (tNext)
@[irreducible] def sp_Boxed_need_place (K : PySem.W.Frag) : Sp := fun vs H Q E => vs.length = 2 ∧ t_Boxed_need_place K (wE E) (endOf Q) (st0 vs 0) H
theorem sp_Boxed_need_place_i {K : PySem.W.Frag} {a0 a1 : V} {H : Hp} {Q : VK} {E : XK} (h : t_Boxed_need_place K (wE E) (endOf Q) [some a0, some a1] H) : sp_Boxed_need_place K [a0, a1] H Q E := by unfold sp_Boxed_need_place; exact ⟨rfl, h⟩
def t_LeapTree_need_make (K : PySem.W.Frag) (W : WX) : TS := sIf (kNot (kT (eCall (sp_is_whole K) W (aC (eV 1) (aC (eC (.int 0)) (aC (eB (opSub) (eF (cLen K) (aC (eFld [(He.ga K "LeapTree")] "owners" (eV 0)) (aN))) (eC (.int 1))) (aN))))))) (sRaise (He.ga K "NoMake") ["found"] W (aC (eV 1) (aN))) (tNext)
@[irreducible] def sp_LeapTree_need_make (K : PySem.W.Frag) : Sp := fun vs H Q E => vs.length = 2 ∧ t_LeapTree_need_make K (wE E) (endOf Q) (st0 vs 0) H
theorem sp_LeapTree_need_make_i {K : PySem.W.Frag} {a0 a1 : V} {H : Hp} {Q : VK} {E : XK} (h : t_LeapTree_need_make K (wE E) (endOf Q) [some a0, some a1] H) : sp_LeapTree_need_make K [a0, a1] H Q E := by unfold sp_LeapTree_need_make; exact ⟨rfl, h⟩
def t_Order_need_mark (K : PySem.W.Frag) (W : WX) : TS := sIf (kOr (kNot (kT (eCall (sp_is_whole K) W (aC (eV 1) (aC (eC (.int 0)) (aC (eB (opSub) (eFld [(He.ga K "Order")] "given" (eV 0)) (eC (.int 1))) (aN))))))) (kT (eB (inX K true) (eV 1) (eFld [(He.ga K "Order")] "labelled" (eV 0))))) (sRaise (He.ga K "NoMark") ["found"] W (aC (eV 1) (aN))) (tNext)
@[irreducible] def sp_Order_need_mark (K : PySem.W.Frag) : Sp := fun vs H Q E => vs.length = 2 ∧ t_Order_need_mark K (wE E) (endOf Q) (st0 vs 0) H
theorem sp_Order_need_mark_i {K : PySem.W.Frag} {a0 a1 : V} {H : Hp} {Q : VK} {E : XK} (h : t_Order_need_mark K (wE E) (endOf Q) [some a0, some a1] H) : sp_Order_need_mark K [a0, a1] H Q E := by unfold sp_Order_need_mark; exact ⟨rfl, h⟩
def t_Boxed_need_room (K : PySem.W.Frag) (W : WX) : TS := sIf (kT (eB (opGt) (eB (opAdd K) (eMethD [((He.ga K "LeapTree"), sp_LeapTree_many K)] "many" W (eFld [(He.ga K "Boxed")] "grown" (eV 0)) aN) (eV 1)) (eC (.int 64)))) (sRaise (He.ga K "TooMany") ["count"] W (aC (eB (opAdd K) (eMethD [((He.ga K "LeapTree"), sp_LeapTree_many K)] "many" W (eFld [(He.ga K "Boxed")] "grown" (eV 0)) aN) (eV 1)) (aN))) (tNext)
@[irreducible] def sp_Boxed_need_room (K : PySem.W.Frag) : Sp := fun vs H Q E => vs.length = 2 ∧ t_Boxed_need_room K (wE E) (endOf Q) (st0 vs 0) H
theorem sp_Boxed_need_room_i {K : PySem.W.Frag} {a0 a1 : V} {H : Hp} {Q : VK} {E : XK} (h : t_Boxed_need_room K (wE E) (endOf Q) [some a0, some a1] H) : sp_Boxed_need_room K [a0, a1] H Q E := by unfold sp_Boxed_need_room; exact ⟨rfl, h⟩
def c_is_changes_1 (K : PySem.W.Frag) : TE := eCall (sp_is_change K) noW (aC (eV 2) (aC (eV 1) (aN)))
def t_is_changes (K : PySem.W.Frag) (W : WX) : TS := tSeq (sIf (kOr (kNot (kT (eF (cIsiT K [.list, .tuple]) (aC (eV 0) (aC (eT (aC (eC (.ty "list")) (aC (eC (.ty "tuple")) (aN)))) aN))))) (kT (eB (opGt) (eF (cLen K) (aC (eV 0) (aN))) (eC (.int 20))))) (sRet (eC (.bl false))) (tNext)) (sRet (eF (cAll K) (aC (eLc (iV K (eV 0)) (gN 2) (tYes) (c_is_changes_1 K) [2]) (aN))))
@[irreducible] def sp_is_changes (K : PySem.W.Frag) : Sp := fun vs H Q E => vs.length = 2 ∧ t_is_changes K (wE E) (endOf Q) (st0 vs 1) H
theorem sp_is_changes_i {K : PySem.W.Frag} {a0 a1 : V} {H : Hp} {Q : VK} {E : XK} (h : t_is_changes K (wE E) (endOf Q) [some a0, some a1, none] H) : sp_is_changes K [a0, a1] H Q E := by unfold sp_is_changes; exact ⟨rfl, h⟩
def c_LeapTree_copied_1 (K : PySem.W.Frag) : TE := eF (cList K) (aC (eV 2) (aN))
def t_LeapTree_copied (K : PySem.W.Frag) (W : WX) : TS := tSeq (sSet 1 (eMake (He.ga K "LeapTree") (sp_LeapTree_init K) W aN)) (tSeq (sStF [(He.ga K "LeapTree")] "owners" (eF (cList K) (aC (eFld [(He.ga K "LeapTree")] "owners" (eV 0)) (aN))) (eV 1)) (tSeq (sStF [(He.ga K "LeapTree")] "depths" (eF (cList K) (aC (eFld [(He.ga K "LeapTree")] "depths" (eV 0)) (aN))) (eV 1)) (tSeq (sStF [(He.ga K "LeapTree")] "leaping" (eLc (iV K (eFld [(He.ga K "LeapTree")] "leaping" (eV 0))) (gN 2) (tYes) (c_LeapTree_copied_1 K) [2]) (eV 1)) (sRet (eV 1)))))
@[irreducible] def sp_LeapTree_copied (K : PySem.W.Frag) : Sp := fun vs H Q E => vs.length = 1 ∧ t_LeapTree_copied K (wE E) (endOf Q) (st0 vs 2) H
theorem sp_LeapTree_copied_i {K : PySem.W.Frag} {a0 : V} {H : Hp} {Q : VK} {E : XK} (h : t_LeapTree_copied K (wE E) (endOf Q) [some a0, none, none] H) : sp_LeapTree_copied K [a0] H Q E := by unfold sp_LeapTree_copied; exact ⟨rfl, h⟩
def t_LeapTree_own (K : PySem.W.Frag) (W : WX) : TS := tSeq (sDrop (eMethD [((He.ga K "LeapTree"), sp_LeapTree_need_make K)] "need_make" W (eV 0) (aC (eV 1) (aN)))) (sRet (eB (ixX K) (eFld [(He.ga K "LeapTree")] "owners" (eV 0)) (eV 1)))
@[irreducible] def sp_LeapTree_own (K : PySem.W.Frag) : Sp := fun vs H Q E => vs.length = 2 ∧ t_LeapTree_own K (wE E) (endOf Q) (st0 vs 0) H
theorem sp_LeapTree_own_i {K : PySem.W.Frag} {a0 a1 : V} {H : Hp} {Q : VK} {E : XK} (h : t_LeapTree_own K (wE E) (endOf Q) [some a0, some a1] H) : sp_LeapTree_own K [a0, a1] H Q E := by unfold sp_LeapTree_own; exact ⟨rfl, h⟩
def t_Order_drop (K : PySem.W.Frag) (W : WX) : TS := tSeq (sDrop (eMethD [((He.ga K "Order"), sp_Order_need_mark K)] "need_mark" W (eV 0) (aC (eV 1) (aN)))) (tSeq (sIf (kT (eB (opEq K) (eF (cLen K) (aC (eFld [(He.ga K "Order")] "standing" (eV 0)) (aN))) (eC (.int 1)))) (sRaise (He.ga K "Alone") ["found"] W (aC (eV 1) (aN))) (tNext)) (tSeq (sDrop (tBM K "list" opRem (eFld [(He.ga K "Order")] "standing" (eV 0)) (aC (eV 1) (aN)))) (sDrop (eDPop (eFld [(He.ga K "Order")] "labelled" (eV 0)) (eV 1)))))
@[irreducible] def sp_Order_drop (K : PySem.W.Frag) : Sp := fun vs H Q E => vs.length = 2 ∧ t_Order_drop K (wE E) (endOf Q) (st0 vs 0) H
theorem sp_Order_drop_i {K : PySem.W.Frag} {a0 a1 : V} {H : Hp} {Q : VK} {E : XK} (h : t_Order_drop K (wE E) (endOf Q) [some a0, some a1] H) : sp_Order_drop K [a0, a1] H Q E := by unfold sp_Order_drop; exact ⟨rfl, h⟩
def t_Boxed_need_new (K : PySem.W.Frag) (W : WX) : TS := sDrop (eMethD [((He.ga K "Boxed"), sp_Boxed_need_make K)] "need_make" W (eV 0) (aC (eV 1) (aN)))
@[irreducible] def sp_Boxed_need_new (K : PySem.W.Frag) : Sp := fun vs H Q E => vs.length = 2 ∧ t_Boxed_need_new K (wE E) (endOf Q) (st0 vs 0) H
theorem sp_Boxed_need_new_i {K : PySem.W.Frag} {a0 a1 : V} {H : Hp} {Q : VK} {E : XK} (h : t_Boxed_need_new K (wE E) (endOf Q) [some a0, some a1] H) : sp_Boxed_need_new K [a0, a1] H Q E := by unfold sp_Boxed_need_new; exact ⟨rfl, h⟩
def t_LeapTree_grow (K : PySem.W.Frag) (W : WX) : TS := tSeq (sDrop (eMethD [((He.ga K "LeapTree"), sp_LeapTree_need_make K)] "need_make" W (eV 0) (aC (eV 1) (aN)))) (tSeq (sIf (kT (eB (opEq K) (eF (cLen K) (aC (eFld [(He.ga K "LeapTree")] "owners" (eV 0)) (aN))) (eC (.int 64)))) (sRaise (He.ga K "TooMany") ["count"] W (aC (eB (opAdd K) (eC (.int 64)) (eC (.int 1))) (aN))) (tNext)) (tSeq (sDrop (tBM K "list" opApp (eFld [(He.ga K "LeapTree")] "owners" (eV 0)) (aC (eV 1) (aN)))) (tSeq (sDrop (eMethD [((He.ga K "LeapTree"), sp_LeapTree_lay K)] "lay" W (eV 0) (aC (eV 1) (aN)))) (sRet (eB (opSub) (eF (cLen K) (aC (eFld [(He.ga K "LeapTree")] "owners" (eV 0)) (aN))) (eC (.int 1)))))))
@[irreducible] def sp_LeapTree_grow (K : PySem.W.Frag) : Sp := fun vs H Q E => vs.length = 2 ∧ t_LeapTree_grow K (wE E) (endOf Q) (st0 vs 0) H
theorem sp_LeapTree_grow_i {K : PySem.W.Frag} {a0 a1 : V} {H : Hp} {Q : VK} {E : XK} (h : t_LeapTree_grow K (wE E) (endOf Q) [some a0, some a1] H) : sp_LeapTree_grow K [a0, a1] H Q E := by unfold sp_LeapTree_grow; exact ⟨rfl, h⟩
def t_Order_ahead (K : PySem.W.Frag) (W : WX) : TS := tSeq (sDrop (eMethD [((He.ga K "Order"), sp_Order_need_mark K)] "need_mark" W (eV 0) (aC (eV 1) (aN)))) (tSeq (sDrop (eMethD [((He.ga K "Order"), sp_Order_need_mark K)] "need_mark" W (eV 0) (aC (eV 2) (aN)))) (sRet (eB (opLt) (eB (ixX K) (eFld [(He.ga K "Order")] "labelled" (eV 0)) (eV 1)) (eB (ixX K) (eFld [(He.ga K "Order")] "labelled" (eV 0)) (eV 2)))))
@[irreducible] def sp_Order_ahead (K : PySem.W.Frag) : Sp := fun vs H Q E => vs.length = 3 ∧ t_Order_ahead K (wE E) (endOf Q) (st0 vs 0) H
theorem sp_Order_ahead_i {K : PySem.W.Frag} {a0 a1 a2 : V} {H : Hp} {Q : VK} {E : XK} (h : t_Order_ahead K (wE E) (endOf Q) [some a0, some a1, some a2] H) : sp_Order_ahead K [a0, a1, a2] H Q E := by unfold sp_Order_ahead; exact ⟨rfl, h⟩
def t_Order_behind (K : PySem.W.Frag) (W : WX) : TS := tSeq (sDrop (eMethD [((He.ga K "Order"), sp_Order_need_mark K)] "need_mark" W (eV 0) (aC (eV 1) (aN)))) (tSeq (sIf (kT (eB (opEq K) (eF (cLen K) (aC (eFld [(He.ga K "Order")] "standing" (eV 0)) (aN))) (eC (.int 200)))) (sRaise (He.ga K "TooMany") ["count"] W (aC (eB (opAdd K) (eC (.int 200)) (eC (.int 1))) (aN))) (tNext)) (tSeq (sSet 2 (tBM K "list" (opIdx K) (eFld [(He.ga K "Order")] "standing" (eV 0)) (aC (eV 1) (aN)))) (tSeq (sIf (kT (eB (opLt) (eB (opSub) (eMethD [((He.ga K "Order"), sp_Order_label_behind K)] "label_behind" W (eV 0) (aC (eV 2) (aN))) (eB (ixX K) (eFld [(He.ga K "Order")] "labelled" (eV 0)) (eV 1))) (eC (.int 2)))) (sDrop (eMethD [((He.ga K "Order"), sp_Order_label_all K)] "label_all" W (eV 0) aN)) (tNext)) (tSeq (sSet 3 (eFld [(He.ga K "Order")] "given" (eV 0))) (tSeq (sSetI (eB (opDiv) (eB (opAdd K) (eB (ixX K) (eFld [(He.ga K "Order")] "labelled" (eV 0)) (eV 1)) (eMethD [((He.ga K "Order"), sp_Order_label_behind K)] "label_behind" W (eV 0) (aC (eV 2) (aN)))) (eC (.int 2))) (eFld [(He.ga K "Order")] "labelled" (eV 0)) (eV 3)) (tSeq (sDrop (tBM K "list" opIns (eFld [(He.ga K "Order")] "standing" (eV 0)) (aC (eB (opAdd K) (eV 2) (eC (.int 1))) (aC (eV 3) (aN))))) (tSeq (sAgF [(He.ga K "Order")] "given" agAdd (eV 0) (eC (.int 1))) (sRet (eV 3)))))))))
@[irreducible] def sp_Order_behind (K : PySem.W.Frag) : Sp := fun vs H Q E => vs.length = 2 ∧ t_Order_behind K (wE E) (endOf Q) (st0 vs 2) H
theorem sp_Order_behind_i {K : PySem.W.Frag} {a0 a1 : V} {H : Hp} {Q : VK} {E : XK} (h : t_Order_behind K (wE E) (endOf Q) [some a0, some a1, none, none] H) : sp_Order_behind K [a0, a1] H Q E := by unfold sp_Order_behind; exact ⟨rfl, h⟩
def t_Boxed_same_makes (K : PySem.W.Frag) (W : WX) : TS := tSeq (sStF [(He.ga K "Boxed")] "grown" (eMethD [((He.ga K "LeapTree"), sp_LeapTree_copied K)] "copied" W (eFld [(He.ga K "Boxed")] "grown" (eV 0)) aN) (eV 1)) (tSeq (sStF [(He.ga K "Boxed")] "wrote" (eF (cList K) (aC (eFld [(He.ga K "Boxed")] "wrote" (eV 0)) (aN))) (eV 1)) (tSeq (sStF [(He.ga K "Boxed")] "gone" (eF (cList K) (aC (eFld [(He.ga K "Boxed")] "gone" (eV 0)) (aN))) (eV 1)) (tSeq (sStF [(He.ga K "Boxed")] "counted" (eFld [(He.ga K "Boxed")] "counted" (eV 0)) (eV 1)) (sRet (eV 1)))))
@[irreducible] def sp_Boxed_same_makes (K : PySem.W.Frag) : Sp := fun vs H Q E => vs.length = 2 ∧ t_Boxed_same_makes K (wE E) (endOf Q) (st0 vs 0) H
theorem sp_Boxed_same_makes_i {K : PySem.W.Frag} {a0 a1 : V} {H : Hp} {Q : VK} {E : XK} (h : t_Boxed_same_makes K (wE E) (endOf Q) [some a0, some a1] H) : sp_Boxed_same_makes K [a0, a1] H Q E := by unfold sp_Boxed_same_makes; exact ⟨rfl, h⟩
def t_Boxed_box (K : PySem.W.Frag) (W : WX) : TS := tSeq (sDrop (eMethD [((He.ga K "Boxed"), sp_Boxed_need_place K)] "need_place" W (eV 0) (aC (eV 1) (aN)))) (sRet (eF (cList K) (aC (eB (ixX K) (eFld [(He.ga K "Boxed")] "boxes" (eV 0)) (eV 1)) (aN))))
@[irreducible] def sp_Boxed_box (K : PySem.W.Frag) : Sp := fun vs H Q E => vs.length = 2 ∧ t_Boxed_box K (wE E) (endOf Q) (st0 vs 0) H
theorem sp_Boxed_box_i {K : PySem.W.Frag} {a0 a1 : V} {H : Hp} {Q : VK} {E : XK} (h : t_Boxed_box K (wE E) (endOf Q) [some a0, some a1] H) : sp_Boxed_box K [a0, a1] H Q E := by unfold sp_Boxed_box; exact ⟨rfl, h⟩
def b_Boxed_writer_of_1 (K : PySem.W.Frag) (W : WX) : TS := sSet 1 (eMethD [((He.ga K "LeapTree"), sp_LeapTree_own K)] "own" W (eFld [(He.ga K "Boxed")] "grown" (eV 0)) (aC (eV 1) (aN)))
def t_Boxed_writer_of (K : PySem.W.Frag) (W : WX) : TS := tSeq (sWhile (kAnd (kT (eB (opGt) (eV 1) (eC (.int 0)))) (kT (eB (opNe K) (eB (ixX K) (eFld [(He.ga K "Boxed")] "wrote" (eV 0)) (eV 1)) (eV 2)))) (b_Boxed_writer_of_1 K W)) (sRet (eV 1))
@[irreducible] def sp_Boxed_writer_of (K : PySem.W.Frag) : Sp := fun vs H Q E => vs.length = 3 ∧ t_Boxed_writer_of K (wE E) (endOf Q) (st0 vs 0) H
theorem sp_Boxed_writer_of_i {K : PySem.W.Frag} {a0 a1 a2 : V} {H : Hp} {Q : VK} {E : XK} (h : t_Boxed_writer_of K (wE E) (endOf Q) [some a0, some a1, some a2] H) : sp_Boxed_writer_of K [a0, a1, a2] H Q E := by unfold sp_Boxed_writer_of; exact ⟨rfl, h⟩
def b_Boxed_spot_of_1 (K : PySem.W.Frag) (W : WX) : TS := tSeq (sSet 6 (eB (opDiv) (eB (opAdd K) (eV 4) (eV 5)) (eC (.int 2)))) (tSeq (sDrop (eMethD [((He.ga K "Boxed"), sp_Boxed_add_steps K)] "add_steps" W (eV 0) (aC (eC (.int 1)) (aN)))) (sIf (kT (eMethD [((He.ga K "Order"), sp_Order_ahead K)] "ahead" W (eFld [(He.ga K "Boxed")] "placed" (eV 0)) (aC (eB (ixX K) (eFld [(He.ga K "Boxed")] "marked" (eV 0)) (eV 1)) (aC (eB (ixX K) (eFld [(He.ga K "Boxed")] "marked" (eV 0)) (eB (ixX K) (eB (ixX K) (eV 3) (eV 6)) (eC (.int 0)))) (aN))))) (sSet 5 (eV 6)) (sSet 4 (eV 6))))
def t_Boxed_spot_of (K : PySem.W.Frag) (W : WX) : TS := tSeq (sSet 3 (eB (ixX K) (eFld [(He.ga K "Boxed")] "boxes" (eV 0)) (eV 2))) (tSeq (sSet 4 (eC (.int 0))) (tSeq (sSet 5 (eF (cLen K) (aC (eV 3) (aN)))) (tSeq (sDrop (eMethD [((He.ga K "Boxed"), sp_Boxed_add_steps K)] "add_steps" W (eV 0) (aC (eC (.int 1)) (aN)))) (tSeq (sWhile (kT (eB (opGt) (eB (opSub) (eV 5) (eV 4)) (eC (.int 1)))) (b_Boxed_spot_of_1 K W)) (sRet (eV 4))))))
@[irreducible] def sp_Boxed_spot_of (K : PySem.W.Frag) : Sp := fun vs H Q E => vs.length = 3 ∧ t_Boxed_spot_of K (wE E) (endOf Q) (st0 vs 4) H
theorem sp_Boxed_spot_of_i {K : PySem.W.Frag} {a0 a1 a2 : V} {H : Hp} {Q : VK} {E : XK} (h : t_Boxed_spot_of K (wE E) (endOf Q) [some a0, some a1, some a2, none, none, none, none] H) : sp_Boxed_spot_of K [a0, a1, a2] H Q E := by unfold sp_Boxed_spot_of; exact ⟨rfl, h⟩
def c_Boxed_copied_1 (K : PySem.W.Frag) : TE := eF (cList K) (aC (eV 2) (aN))
def t_Boxed_copied (K : PySem.W.Frag) (W : WX) : TS := tSeq (sSet 1 (eMake (He.ga K "Boxed") (sp_Boxed_Rows_init K) W (aC (eB (opMul) (eL (aC (eC (.int 0)) (aN))) (eMethD [((He.ga K "Boxed"), sp_Boxed_size K)] "size" W (eV 0) aN)) (aN)))) (tSeq (sStF [(He.ga K "Boxed")] "boxes" (eLc (iV K (eFld [(He.ga K "Boxed")] "boxes" (eV 0))) (gN 2) (tYes) (c_Boxed_copied_1 K) [2]) (eV 1)) (tSeq (sStF [(He.ga K "Boxed")] "placed" (eMethD [((He.ga K "Order"), sp_Order_copied K)] "copied" W (eFld [(He.ga K "Boxed")] "placed" (eV 0)) aN) (eV 1)) (tSeq (sStF [(He.ga K "Boxed")] "owners" (eF (cDict K) (aC (eFld [(He.ga K "Boxed")] "owners" (eV 0)) (aN))) (eV 1)) (tSeq (sStF [(He.ga K "Boxed")] "marked" (eF (cDict K) (aC (eFld [(He.ga K "Boxed")] "marked" (eV 0)) (aN))) (eV 1)) (sRet (eMethD [((He.ga K "Boxed"), sp_Boxed_same_makes K)] "same_makes" W (eV 0) (aC (eV 1) (aN))))))))
@[irreducible] def sp_Boxed_copied (K : PySem.W.Frag) : Sp := fun vs H Q E => vs.length = 1 ∧ t_Boxed_copied K (wE E) (endOf Q) (st0 vs 2) H
theorem sp_Boxed_copied_i {K : PySem.W.Frag} {a0 : V} {H : Hp} {Q : VK} {E : XK} (h : t_Boxed_copied K (wE E) (endOf Q) [some a0, none, none] H) : sp_Boxed_copied K [a0] H Q E := by unfold sp_Boxed_copied; exact ⟨rfl, h⟩
def c_L_tells_1 (K : PySem.W.Frag) : TE := eCall (sp_L_runs K) noW (aC (eV 1) (aC (eV 3) (aN)))
def c_L_tells_2 (K : PySem.W.Frag) : TE := eMethD [((He.ga K "Boxed"), sp_Boxed_box K)] "box" noW (eV 0) (aC (eV 3) (aN))
def c_L_tells_3 (K : PySem.W.Frag) : TE := eV 7
def b_L_tells_1 (K : PySem.W.Frag) (W : WX) : TS := tSeq (sSet 5 (eLc (iR1 (aC (eF (cLen K) (aC (eV 2) (aN))) (aN))) (gN 3) (tYes) (c_L_tells_2 K) [3])) (tSeq (sSet 6 (eMethD [((He.ga K "Boxed"), sp_Boxed_in_order K)] "in_order" W (eV 0) aN)) (tSeq (sIf (kT (eB (opNe K) (eF (cRepr K) (aC (eV 5) (aN))) (eF (cRepr K) (aC (eV 2) (aN))))) (sRet (eC (.bl false))) (tNext)) (tSeq (sIf (kT (eB (opNe K) (eF (cRepr K) (aC (eV 6) (aN))) (eF (cRepr K) (aC (eLc (iV K (eCall (sp_L_come K) W (aC (eV 1) (aN)))) (gN 7) (kT (eB (inX K false) (eV 7) (eB (ixX K) (eV 1) (eC (.str "kept"))))) (c_L_tells_3 K) [7]) (aN))))) (sRet (eC (.bl false))) (tNext)) (tSeq (sDrop (tBM0 K "list" opClr (eB (ixX K) (eV 5) (eU opNeg (eC (.int 1)))))) (sDrop (tBM K "list" opApp (eV 6) (aC (eC (.int 0)) (aN))))))))
def c_L_tells_4 (K : PySem.W.Frag) : TE := eF (cLen K) (aC (eV 8) (aN))
def t_L_tells (K : PySem.W.Frag) (W : WX) : TS := tSeq (sSet 2 (eLc (iR1 (aC (eF (cLen K) (aC (eB (ixX K) (eB (ixX K) (eV 1) (eC (.str "rows"))) (eC (.int 0))) (aN))) (aN))) (gN 3) (tYes) (c_L_tells_1 K) [3])) (tSeq (sFor (iR1 (aC (eC (.int 2)) (aN))) (gN 4) (b_L_tells_1 K W)) (sRet (eB (opEq K) (eF (cRepr K) (aC (eMethD [((He.ga K "Boxed"), sp_Boxed_room K)] "room" W (eV 0) aN) (aN))) (eF (cRepr K) (aC (eF (cSum K) (aC (eLc (iV K (eV 2)) (gN 8) (tYes) (c_L_tells_4 K) [8]) (aN))) (aN))))))
@[irreducible] def sp_L_tells (K : PySem.W.Frag) : Sp := fun vs H Q E => vs.length = 2 ∧ t_L_tells K (wE E) (endOf Q) (st0 vs 7) H
theorem sp_L_tells_i {K : PySem.W.Frag} {a0 a1 : V} {H : Hp} {Q : VK} {E : XK} (h : t_L_tells K (wE E) (endOf Q) [some a0, some a1, none, none, none, none, none, none, none] H) : sp_L_tells K [a0, a1] H Q E := by unfold sp_L_tells; exact ⟨rfl, h⟩
def y_L_refused_1 (K : PySem.W.Frag) (W1 : WX) : TS := sDrop (eMethD [((He.ga K "Boxed"), sp_Boxed_box K)] "box" W1 (eV 0) (aC (eV 1) (aN)))
def z_L_refused_1 (K : PySem.W.Frag) (a1 : Addr) (cls1 : Value) (d1 : Option Addr) : TS := sIf (kT (eF (cIsE a1 cls1 d1 (He.ga K "NoPlace") [((He.ga K "NoRow"), false), ((He.ga K "NoWorth"), false), ((He.ga K "NoPlace"), true), ((He.ga K "NoStretch"), false), ((He.ga K "NoMake"), false), ((He.ga K "NoMark"), false), ((He.ga K "NoNumber"), false), ((He.ga K "NoChanges"), false), ((He.ga K "TooMany"), false), ((He.ga K "Alone"), false)]) (aC (eV 3) (aC (eC (.ref (He.ga K "NoPlace"))) aN)))) (sSet 2 (eL (aC (eXf a1 cls1 d1 [(He.ga K "NoRow"), (He.ga K "NoWorth"), (He.ga K "NoPlace"), (He.ga K "NoMake"), (He.ga K "NoMark"), (He.ga K "NoNumber"), (He.ga K "NoChanges"), (He.ga K "Alone")] "found" (eV 3)) (aN)))) (tNext)
def t_L_refused (K : PySem.W.Frag) (W : WX) : TS := tSeq (sSet 2 (eC .non)) (tSeq (sTryAs [(.ref (He.ga K "NoRow"), true), (.ref (He.ga K "NoWorth"), true), (.ref (He.ga K "NoPlace"), true), (.ref (He.ga K "NoStretch"), true), (.ref (He.ga K "NoMake"), true), (.ref (He.ga K "NoMark"), true), (.ref (He.ga K "NoNumber"), true), (.ref (He.ga K "NoChanges"), true), (.ref (He.ga K "TooMany"), true), (.ref (He.ga K "Alone"), true)] 3 W (fun W1 => y_L_refused_1 K W1) (fun a1 cls1 d1 => z_L_refused_1 K a1 cls1 d1)) (sRet (eV 2)))
@[irreducible] def sp_L_refused (K : PySem.W.Frag) : Sp := fun vs H Q E => vs.length = 2 ∧ t_L_refused K (wE E) (endOf Q) (st0 vs 2) H
theorem sp_L_refused_i {K : PySem.W.Frag} {a0 a1 : V} {H : Hp} {Q : VK} {E : XK} (h : t_L_refused K (wE E) (endOf Q) [some a0, some a1, none, none] H) : sp_L_refused K [a0, a1] H Q E := by unfold sp_L_refused; exact ⟨rfl, h⟩
def t_Boxed_writer (K : PySem.W.Frag) (W : WX) : TS := tSeq (sIf (kNot (kT (eCall (sp_is_whole K) W (aC (eV 1) (aC (eC (.int 0)) (aC (eB (opSub) (eF (cLen K) (aC (eFld [(He.ga K "Boxed")] "wrote" (eV 0)) (aN))) (eC (.int 1))) (aN))))))) (sRaise (He.ga K "NoMake") ["found"] W (aC (eV 1) (aN))) (tNext)) (tSeq (sDrop (eMethD [((He.ga K "Boxed"), sp_Boxed_need_place K)] "need_place" W (eV 0) (aC (eV 2) (aN)))) (sRet (eMethD [((He.ga K "Boxed"), sp_Boxed_writer_of K)] "writer_of" W (eV 0) (aC (eV 1) (aC (eV 2) (aN))))))
@[irreducible] def sp_Boxed_writer (K : PySem.W.Frag) : Sp := fun vs H Q E => vs.length = 3 ∧ t_Boxed_writer K (wE E) (endOf Q) (st0 vs 0) H
theorem sp_Boxed_writer_i {K : PySem.W.Frag} {a0 a1 a2 : V} {H : Hp} {Q : VK} {E : XK} (h : t_Boxed_writer K (wE E) (endOf Q) [some a0, some a1, some a2] H) : sp_Boxed_writer K [a0, a1, a2] H Q E := by unfold sp_Boxed_writer; exact ⟨rfl, h⟩
def c_Boxed_store_1 (K : PySem.W.Frag) : TE := eB (ixX K) (eV 11) (eC (.int 0))
def c_Boxed_store_2 (K : PySem.W.Frag) : TE := eB (opAdd K) (eT (aC (eV 10) (aN))) (tSl (slX K) (eB (ixX K) (eV 6) (eV 5)) (tPart (eC (.int 1))) tNoPart)
def t_Boxed_store (K : PySem.W.Frag) (W : WX) : TS := tSeq (sSet 5 (eMethD [((He.ga K "Boxed"), sp_Boxed_spot_of K)] "spot_of" W (eV 0) (aC (eV 1) (aC (eV 3) (aN))))) (tSeq (sSet 6 (eB (ixX K) (eFld [(He.ga K "Boxed")] "boxes" (eV 0)) (eV 3))) (tSeq (sSet 7 (eMethD [((He.ga K "Boxed"), sp_Boxed_in_order K)] "in_order" W (eV 0) aN)) (tSeq (sSet 8 (tSl (slX K) (tSl (slX K) (eV 7) (tPart (eB (opAdd K) (tBM K "list" (opIdx K) (eV 7) (aC (eV 1) (aN))) (eC (.int 1)))) tNoPart) tNoPart (tPart (eC (.int 1))))) (tSeq (sSet 9 (eLc (iV K (eV 8)) (gN 10) (kT (eB (inX K true) (eV 10) (eLc (iV K (eV 6)) (gN 11) (tYes) (c_Boxed_store_1 K) [11]))) (c_Boxed_store_2 K) [10])) (tSeq (sSetI (eB (opAdd K) (eB (opAdd K) (eB (opAdd K) (tSl (slX K) (eV 6) tNoPart (tPart (eB (opAdd K) (eV 5) (eC (.int 1))))) (eL (aC (eT (aC (eV 2) (aC (eV 2) (aC (eV 4) (aN))))) (aN)))) (eV 9)) (tSl (slX K) (eV 6) (tPart (eB (opAdd K) (eV 5) (eC (.int 1)))) tNoPart)) (eFld [(He.ga K "Boxed")] "boxes" (eV 0)) (eV 3)) (tSeq (sSetI (eMethD [((He.ga K "Order"), sp_Order_behind K)] "behind" W (eFld [(He.ga K "Boxed")] "placed" (eV 0)) (aC (eB (ixX K) (eFld [(He.ga K "Boxed")] "marked" (eV 0)) (eV 1)) (aN))) (eFld [(He.ga K "Boxed")] "marked" (eV 0)) (eV 2)) (sSetI (eV 2) (eFld [(He.ga K "Boxed")] "owners" (eV 0)) (eB (ixX K) (eFld [(He.ga K "Boxed")] "marked" (eV 0)) (eV 2)))))))))
@[irreducible] def sp_Boxed_store (K : PySem.W.Frag) : Sp := fun vs H Q E => vs.length = 5 ∧ t_Boxed_store K (wE E) (endOf Q) (st0 vs 7) H
theorem sp_Boxed_store_i {K : PySem.W.Frag} {a0 a1 a2 a3 a4 : V} {H : Hp} {Q : VK} {E : XK} (h : t_Boxed_store K (wE E) (endOf Q) [some a0, some a1, some a2, some a3, some a4, none, none, none, none, none, none, none] H) : sp_Boxed_store K [a0, a1, a2, a3, a4] H Q E := by unfold sp_Boxed_store; exact ⟨rfl, h⟩
def c_Boxed_runs_1 (K : PySem.W.Frag) : TE := eT (aC (eB (ixX K) (eV 4) (eC (.int 1))) (aC (eB (ixX K) (eV 4) (eC (.int 2))) (aN)))
def b_Boxed_runs_1 (K : PySem.W.Frag) (W : WX) : TS := tSeq (sSet 7 (eMethD [((He.ga K "Boxed"), sp_Boxed_writer K)] "writer" W (eV 0) (aC (eV 6) (aC (eV 1) (aN))))) (sIf (kOr (kT (eB (opEq K) (eV 5) (eL (aN)))) (kT (eB (opNe K) (eB (ixX K) (eB (ixX K) (eV 5) (eU opNeg (eC (.int 1)))) (eC (.int 1))) (eV 7)))) (sDrop (tBM K "list" opApp (eV 5) (aC (eT (aC (eV 6) (aC (eV 7) (aC (eB (ixX K) (eV 3) (eV 7)) (aN))))) (aN)))) (tNext))
def t_Boxed_runs (K : PySem.W.Frag) (W : WX) : TS := tSeq (sSet 3 (eF (cDict K) (aC (eLc (iV K (eB (ixX K) (eFld [(He.ga K "Boxed")] "boxes" (eV 0)) (eV 1))) (gN 4) (tYes) (c_Boxed_runs_1 K) [4]) (aN)))) (tSeq (sSet 5 (eL (aN))) (tSeq (sFor (iV K (eV 2)) (gN 6) (b_Boxed_runs_1 K W)) (sRet (eV 5))))
@[irreducible] def sp_Boxed_runs (K : PySem.W.Frag) : Sp := fun vs H Q E => vs.length = 3 ∧ t_Boxed_runs K (wE E) (endOf Q) (st0 vs 5) H
theorem sp_Boxed_runs_i {K : PySem.W.Frag} {a0 a1 a2 : V} {H : Hp} {Q : VK} {E : XK} (h : t_Boxed_runs K (wE E) (endOf Q) [some a0, some a1, some a2, none, none, none, none, none] H) : sp_Boxed_runs K [a0, a1, a2] H Q E := by unfold sp_Boxed_runs; exact ⟨rfl, h⟩
def t_Boxed_written (K : PySem.W.Frag) (W : WX) : TS := tSeq (sSet 4 (eMethD [((He.ga K "LeapTree"), sp_LeapTree_grow K)] "grow" W (eFld [(He.ga K "Boxed")] "grown" (eV 0)) (aC (eV 1) (aN)))) (tSeq (sDrop (tBM K "list" opApp (eFld [(He.ga K "Boxed")] "wrote" (eV 0)) (aC (eV 2) (aN)))) (tSeq (sDrop (tBM K "list" opApp (eFld [(He.ga K "Boxed")] "gone" (eV 0)) (aC (eC (.bl false)) (aN)))) (tSeq (sDrop (eMethD [((He.ga K "Boxed"), sp_Boxed_store K)] "store" W (eV 0) (aC (eV 1) (aC (eV 4) (aC (eV 2) (aC (eV 3) (aN))))))) (sRet (eV 4)))))
@[irreducible] def sp_Boxed_written (K : PySem.W.Frag) : Sp := fun vs H Q E => vs.length = 4 ∧ t_Boxed_written K (wE E) (endOf Q) (st0 vs 1) H
theorem sp_Boxed_written_i {K : PySem.W.Frag} {a0 a1 a2 a3 : V} {H : Hp} {Q : VK} {E : XK} (h : t_Boxed_written K (wE E) (endOf Q) [some a0, some a1, some a2, some a3, none] H) : sp_Boxed_written K [a0, a1, a2, a3] H Q E := by unfold sp_Boxed_written; exact ⟨rfl, h⟩
def c_Boxed_freed_1 (K : PySem.W.Frag) : TE := eT (aC (eV 3) (aC (eMethD [((He.ga K "Boxed"), sp_Boxed_writer K)] "writer" noW (eV 0) (aC (eV 1) (aC (eV 3) (aN)))) (aN)))
def b_Boxed_freed_1 (K : PySem.W.Frag) (W : WX) : TS := sSetI (eMethD [((He.ga K "Boxed"), sp_Boxed_runs K)] "runs" W (eV 0) (aC (eV 3) (aC (eV 5) (aN)))) (eFld [(He.ga K "Boxed")] "boxes" (eV 0)) (eV 3)
def c_Boxed_freed_2 (K : PySem.W.Frag) : TE := eT (aC (eV 3) (aC (eV 6) (aN)))
def t_Boxed_freed (K : PySem.W.Frag) (W : WX) : TS := tSeq (sSet 2 (eLc (iR1 (aC (eMethD [((He.ga K "Boxed"), sp_Boxed_size K)] "size" W (eV 0) aN) (aN))) (gN 3) (tYes) (c_Boxed_freed_1 K) [3])) (tSeq (sSet 4 (eDPop (eFld [(He.ga K "Boxed")] "marked" (eV 0)) (eV 1))) (tSeq (sDrop (eMethD [((He.ga K "Order"), sp_Order_drop K)] "drop" W (eFld [(He.ga K "Boxed")] "placed" (eV 0)) (aC (eV 4) (aN)))) (tSeq (sDrop (eDPop (eFld [(He.ga K "Boxed")] "owners" (eV 0)) (eV 4))) (tSeq (sSet 5 (eMethD [((He.ga K "Boxed"), sp_Boxed_in_order K)] "in_order" W (eV 0) aN)) (tSeq (sFor (iR1 (aC (eMethD [((He.ga K "Boxed"), sp_Boxed_size K)] "size" W (eV 0) aN) (aN))) (gN 3) (b_Boxed_freed_1 K W)) (sRet (eLc (iV K (eV 2)) (gU K [3, 6]) (kNot (kT (eMethD [((He.ga K "Boxed"), sp_Boxed_is_read K)] "is_read" noW (eV 0) (aC (eV 3) (aC (eV 6) (aN)))))) (c_Boxed_freed_2 K) [3, 6])))))))
@[irreducible] def sp_Boxed_freed (K : PySem.W.Frag) : Sp := fun vs H Q E => vs.length = 2 ∧ t_Boxed_freed K (wE E) (endOf Q) (st0 vs 5) H
theorem sp_Boxed_freed_i {K : PySem.W.Frag} {a0 a1 : V} {H : Hp} {Q : VK} {E : XK} (h : t_Boxed_freed K (wE E) (endOf Q) [some a0, some a1, none, none, none, none, none] H) : sp_Boxed_freed K [a0, a1] H Q E := by unfold sp_Boxed_freed; exact ⟨rfl, h⟩
def t_Boxed_put (K : PySem.W.Frag) (W : WX) : TS := tSeq (sDrop (eMethD [((He.ga K "Boxed"), sp_Boxed_need_make K)] "need_make" W (eV 0) (aC (eV 1) (aN)))) (tSeq (sDrop (eMethD [((He.ga K "Boxed"), sp_Boxed_need_place K)] "need_place" W (eV 0) (aC (eV 2) (aN)))) (tSeq (sIf (kNot (kT (eCall (sp_is_worth K) W (aC (eV 3) (aN))))) (sRaise (He.ga K "NoWorth") ["found"] W (aC (eV 3) (aN))) (tNext)) (tSeq (sDrop (eMethD [((He.ga K "Boxed"), sp_Boxed_need_new K)] "need_new" W (eV 0) (aC (eV 1) (aN)))) (tSeq (sDrop (eMethD [((He.ga K "Boxed"), sp_Boxed_need_room K)] "need_room" W (eV 0) (aC (eC (.int 1)) (aN)))) (sRet (eMethD [((He.ga K "Boxed"), sp_Boxed_written K)] "written" W (eV 0) (aC (eV 1) (aC (eV 2) (aC (eV 3) (aN))))))))))
@[irreducible] def sp_Boxed_put (K : PySem.W.Frag) : Sp := fun vs H Q E => vs.length = 4 ∧ t_Boxed_put K (wE E) (endOf Q) (st0 vs 0) H
theorem sp_Boxed_put_i {K : PySem.W.Frag} {a0 a1 a2 a3 : V} {H : Hp} {Q : VK} {E : XK} (h : t_Boxed_put K (wE E) (endOf Q) [some a0, some a1, some a2, some a3] H) : sp_Boxed_put K [a0, a1, a2, a3] H Q E := by unfold sp_Boxed_put; exact ⟨rfl, h⟩
def b_Boxed_put_all_1 (K : PySem.W.Frag) (W : WX) : TS := sDrop (tBM K "list" opApp (eV 3) (aC (eMethD [((He.ga K "Boxed"), sp_Boxed_written K)] "written" W (eV 0) (aC (eB (ixX K) (eV 3) (eU opNeg (eC (.int 1)))) (aC (eV 4) (aC (eV 5) (aN))))) (aN)))
def t_Boxed_put_all (K : PySem.W.Frag) (W : WX) : TS := tSeq (sDrop (eMethD [((He.ga K "Boxed"), sp_Boxed_need_make K)] "need_make" W (eV 0) (aC (eV 1) (aN)))) (tSeq (sIf (kNot (kT (eCall (sp_is_changes K) W (aC (eV 2) (aC (eFld [(He.ga K "Boxed")] "wide" (eV 0)) (aN)))))) (sRaise (He.ga K "NoChanges") ["found"] W (aC (eV 2) (aN))) (tNext)) (tSeq (sIf (kT (eB (opEq K) (eF (cLen K) (aC (eV 2) (aN))) (eC (.int 0)))) (sRet (eL (aN))) (tNext)) (tSeq (sDrop (eMethD [((He.ga K "Boxed"), sp_Boxed_need_new K)] "need_new" W (eV 0) (aC (eV 1) (aN)))) (tSeq (sDrop (eMethD [((He.ga K "Boxed"), sp_Boxed_need_room K)] "need_room" W (eV 0) (aC (eF (cLen K) (aC (eV 2) (aN))) (aN)))) (tSeq (sSet 3 (eL (aC (eV 1) (aN)))) (tSeq (sFor (iV K (eV 2)) (gU K [4, 5]) (b_Boxed_put_all_1 K W)) (sRet (tSl (slX K) (eV 3) (tPart (eC (.int 1))) tNoPart))))))))
@[irreducible] def sp_Boxed_put_all (K : PySem.W.Frag) : Sp := fun vs H Q E => vs.length = 3 ∧ t_Boxed_put_all K (wE E) (endOf Q) (st0 vs 3) H
theorem sp_Boxed_put_all_i {K : PySem.W.Frag} {a0 a1 a2 : V} {H : Hp} {Q : VK} {E : XK} (h : t_Boxed_put_all K (wE E) (endOf Q) [some a0, some a1, some a2, none, none, none] H) : sp_Boxed_put_all K [a0, a1, a2] H Q E := by unfold sp_Boxed_put_all; exact ⟨rfl, h⟩
def t_Boxed_let_go (K : PySem.W.Frag) (W : WX) : TS := tSeq (sDrop (eMethD [((He.ga K "Boxed"), sp_Boxed_need_make K)] "need_make" W (eV 0) (aC (eV 1) (aN)))) (tSeq (sIf (kT (eB (opEq K) (eF (cLen K) (aC (eMethD [((He.ga K "Boxed"), sp_Boxed_makes K)] "makes" W (eV 0) aN) (aN))) (eC (.int 1)))) (sRaise (He.ga K "Alone") ["found"] W (aC (eV 1) (aN))) (tNext)) (tSeq (sSetI (eC (.bl true)) (eFld [(He.ga K "Boxed")] "gone" (eV 0)) (eV 1)) (sRet (eMethD [((He.ga K "Boxed"), sp_Boxed_freed K)] "freed" W (eV 0) (aC (eV 1) (aN))))))
@[irreducible] def sp_Boxed_let_go (K : PySem.W.Frag) : Sp := fun vs H Q E => vs.length = 2 ∧ t_Boxed_let_go K (wE E) (endOf Q) (st0 vs 0) H
theorem sp_Boxed_let_go_i {K : PySem.W.Frag} {a0 a1 : V} {H : Hp} {Q : VK} {E : XK} (h : t_Boxed_let_go K (wE E) (endOf Q) [some a0, some a1] H) : sp_Boxed_let_go K [a0, a1] H Q E := by unfold sp_Boxed_let_go; exact ⟨rfl, h⟩
def b_L_all_put_1 (K : PySem.W.Frag) (W : WX) : TS := sDrop (tBM K "list" opApp (eV 9) (aC (eCall (sp_L_written K) W (aC (eV 2) (aC (eB (ixX K) (eB (opAdd K) (eL (aC (eV 4) (aN))) (eV 9)) (eU opNeg (eC (.int 1)))) (aC (eV 5) (aC (eV 6) (aN)))))) (aN)))
def t_L_all_put (K : PySem.W.Frag) (W : WX) : TS := tSeq (sAsg (eV 3) (gU K [4, 5, 6])) (tSeq (sSet 7 (eB (opSub) (eC (.int 64)) (eF (cLen K) (aC (eB (ixX K) (eV 2) (eC (.str "rows"))) (aN))))) (tSeq (sIf (kT (eB (opEq K) (eV 7) (eC (.int 0)))) (sRet (eC (.bl true))) (tNext)) (tSeq (sSet 8 (eL (aC (eT (aC (eV 5) (aC (eV 6) (aN)))) (aC (eT (aC (eCall (sp_L_take K) W (aC (eV 0) (aC (eF (cLen K) (aC (eB (ixX K) (eB (ixX K) (eV 2) (eC (.str "rows"))) (eC (.int 0))) (aN))) (aN)))) (aC (eV 6) (aN)))) (aC (eT (aC (eC (.int 0)) (aC (eCall (sp_L_worth K) W (aC (eV 0) (aN))) (aN)))) (aN)))))) (tSeq (sIf (kT (eB (opGt) (eCall (sp_L_take K) W (aC (eV 0) (aC (eC (.int 3)) (aN)))) (eC (.int 0)))) (sRet (eB (opEq K) (eF (cRepr K) (aC (eMethD [((He.ga K "Boxed"), sp_Boxed_put K)] "put" W (eV 1) (aC (eV 4) (aC (eV 5) (aC (eV 6) (aN))))) (aN))) (eF (cRepr K) (aC (eCall (sp_L_written K) W (aC (eV 2) (aC (eV 4) (aC (eV 5) (aC (eV 6) (aN)))))) (aN))))) (tNext)) (tSeq (sSet 9 (eL (aN))) (tSeq (sFor (iV K (tSl (slX K) (eV 8) tNoPart (tPart (eF (cMin K) (aC (eV 7) (aC (eCall (sp_L_take K) W (aC (eV 0) (aC (eC (.int 4)) (aN)))) (aN))))))) (gU K [5, 6]) (b_L_all_put_1 K W)) (sRet (eB (opEq K) (eF (cRepr K) (aC (eMethD [((He.ga K "Boxed"), sp_Boxed_put_all K)] "put_all" W (eV 1) (aC (eV 4) (aC (tSl (slX K) (eV 8) tNoPart (tPart (eF (cLen K) (aC (eV 9) (aN))))) (aN)))) (aN))) (eF (cRepr K) (aC (eV 9) (aN)))))))))))
@[irreducible] def sp_L_all_put (K : PySem.W.Frag) : Sp := fun vs H Q E => vs.length = 4 ∧ t_L_all_put K (wE E) (endOf Q) (st0 vs 6) H
theorem sp_L_all_put_i {K : PySem.W.Frag} {a0 a1 a2 a3 : V} {H : Hp} {Q : VK} {E : XK} (h : t_L_all_put K (wE E) (endOf Q) [some a0, some a1, some a2, some a3, none, none, none, none, none, none] H) : sp_L_all_put K [a0, a1, a2, a3] H Q E := by unfold sp_L_all_put; exact ⟨rfl, h⟩
def b_law_1 (K : PySem.W.Frag) (W : WX) : TS := tSeq (sSet 6 (eCall (sp_L_box K) W (aC (eCall (sp_L_cell_at K) W (aC (eV 0) (aC (eV 5) (aN)))) (aN)))) (tSeq (sSet 7 (eB (opEq K) (eCall (sp_L_take K) W (aC (eV 6) (aC (eC (.int 4)) (aN)))) (eC (.int 0)))) (tSeq (sSet 8 (eB (opEq K) (eCall (sp_L_take K) W (aC (eV 6) (aC (eC (.int 4)) (aN)))) (eC (.int 0)))) (tSeq (sSet 9 (eCall (sp_L_take K) W (aC (eV 6) (aC (eC (.int 2)) (aN))))) (tSeq (sPar 11 12 (aC (eB (ixX K) (eV 2) (eV 9)) (aC (eB (ixX K) (eV 3) (eV 9)) (aN)))) (tSeq (sAsg (eCall (sp_L_put K) W (aC (eV 6) (aC (eV 12) (aC (eV 4) (aN))))) (gU K [13, 14, 15])) (tSeq (sIf (kAnd (kT (eV 7)) (kT (eB (opGt) (eF (cLen K) (aC (eB (ixX K) (eV 12) (eC (.str "kept"))) (aN))) (eC (.int 1))))) (tSeq (sDrop (tBM K "list" opRem (eB (ixX K) (eV 12) (eC (.str "kept"))) (aC (eV 13) (aN)))) (sDrop (eMethD [((He.ga K "Boxed"), sp_Boxed_let_go K)] "let_go" W (eV 11) (aC (eV 13) (aN))))) (sIf (kNot (kT (eCall (sp_L_all_put K) W (aC (eV 6) (aC (eV 11) (aC (eV 12) (aC (eL (aC (eV 13) (aC (eV 14) (aC (eV 15) (aN))))) (aN)))))))) (sRet (eC (.bl false))) (tNext))) (tSeq (sIf (kT (eV 8)) (tSeq (sSetI (eMethD [((He.ga K "Order"), sp_Order_copied K), ((He.ga K "LeapTree"), sp_LeapTree_copied K), ((He.ga K "Boxed"), sp_Boxed_copied K)] "copied" W (eV 11) aN) (eV 2) (eB (opSub) (eC (.int 1)) (eV 9))) (sSetI (eCall (sp_L_model_copy K) W (aC (eV 12) (aN))) (eV 3) (eB (opSub) (eC (.int 1)) (eV 9)))) (tNext)) (tSeq (sIf (kOr (kNot (kT (eCall (sp_L_tells K) W (aC (eB (ixX K) (eV 2) (eC (.int 0))) (aC (eB (ixX K) (eV 3) (eC (.int 0))) (aN)))))) (kNot (kT (eCall (sp_L_tells K) W (aC (eB (ixX K) (eV 2) (eC (.int 1))) (aC (eB (ixX K) (eV 3) (eC (.int 1))) (aN))))))) (sRet (eC (.bl false))) (tNext)) (tSeq (sSet 10 (eB (ixX K) (eL (aC (eV 4) (aC (eU opNeg (eC (.int 1))) (aC (eC .non) (aC (eC (.bl false)) (aC (eC (.str "0")) (aC (eL (aC (eC (.int 0)) (aN))) (aC (eB (opSub) (eC (.int 0)) (eB (opPow) (eC (.int 10)) (eC (.int 39)))) (aN))))))))) (eCall (sp_L_take K) W (aC (eV 6) (aC (eC (.int 7)) (aN)))))) (sIf (kT (eB (opNe K) (eF (cRepr K) (aC (eCall (sp_L_refused K) W (aC (eV 11) (aC (eV 10) (aN)))) (aN))) (eF (cRepr K) (aC (eL (aC (eV 10) (aN))) (aN))))) (sRet (eC (.bl false))) (tNext)))))))))))
def t_law (K : PySem.W.Frag) (W : WX) : TS := tSeq (sSet 1 (eCall (sp_L_worths K) W (aC (eCall (sp_L_box K) W (aC (eCall (sp_L_cell_at K) W (aC (eV 0) (aC (eC (.int 0)) (aN)))) (aN))) (aN)))) (tSeq (sSet 2 (eL (aC (eMake (He.ga K "Boxed") (sp_Boxed_Rows_init K) W (aC (eF (cList K) (aC (eV 1) (aN))) (aN))) (aC (eMake (He.ga K "Boxed") (sp_Boxed_Rows_init K) W (aC (eF (cList K) (aC (eV 1) (aN))) (aN))) (aN))))) (tSeq (sSet 3 (eL (aC (eCall (sp_L_model K) W (aC (eV 1) (aN))) (aC (eCall (sp_L_model K) W (aC (eV 1) (aN))) (aN))))) (tSeq (sSet 4 (eF (cLen K) (aC (eV 1) (aN)))) (tSeq (sFor (iR2 (aC (eC (.int 1)) (aC (eF (cMax K) (aC (eC (.int 3)) (aC (eF (cMin K) (aC (eC (.int 24)) (aC (eF (cLen K) (aC (eV 0) (aN))) (aN)))) (aN)))) (aN)))) (gN 5) (b_law_1 K W)) (sRet (eC (.bl true)))))))
@[irreducible] def sp_law (K : PySem.W.Frag) : Sp := fun vs H Q E => vs.length = 1 ∧ t_law K (wE E) (endOf Q) (st0 vs 15) H
theorem sp_law_i {K : PySem.W.Frag} {a0 : V} {H : Hp} {Q : VK} {E : XK} (h : t_law K (wE E) (endOf Q) [some a0, none, none, none, none, none, none, none, none, none, none, none, none, none, none, none] H) : sp_law K [a0] H Q E := by unfold sp_law; exact ⟨rfl, h⟩
end Lawk44
local macro_rules | `(tactic| walk_at "w") => `(tactic| conv => whnf)
local macro_rules | `(tactic| walk_at "pk") => `(tactic| first | assumption | exact MK.Star.p1 (by assumption) | exact MK.Star.p2 (by assumption) | exact MK.Star.p3 (by assumption) | exact MK.Star.p4 (by assumption) | exact MK.Star.p5 (by assumption) | exact MK.Star.p6 (by assumption) | exact MK.Star.p7 (by assumption) | exact MK.Star.p8 (by assumption) | exact MK.Star.p9 (by assumption))
local macro_rules | `(tactic| walk_at "sd") => `(tactic| first | exact MK.mul1 (by omega) | exact MK.mul2 (by omega) | exact MK.div1 (by omega) | exact MK.pow1 (by omega) | exact MK.rng1 (by omega) | exact MK.sz1 (Nat.le_of_ble_eq_true rfl) | exact MK.Star.getF (by walk_at "pk") | exact MK.Star.get (by walk_at "pk") | exact MK.tyv_l (MK.Star.get (by walk_at "pk")) | assumption | omega | rfl | decide)
local macro_rules | `(tactic| walk_at "ix") => `(tactic| first
  | (refine' MK.ix_l ?hk ?he ?_; (case hk => exact MK.Star.get (by walk_at "pk")); (case he => rfl))
  | (refine' MK.ix_t ?hk ?he ?_; (case hk => exact MK.Star.getF (by walk_at "pk")); (case he => rfl))
  | (refine' MK.Star.ix_sq ?hk ?he ?_; (case hk => walk_at "pk"); (case he => rfl)))
local macro_rules | `(tactic| walk_at "len") => `(tactic| first
  | (refine' MK.len_l ?hk ?_; (case hk => exact MK.Star.get (by walk_at "pk")))
  | (refine' MK.len_t ?hk ?_; (case hk => exact MK.Star.getF (by walk_at "pk")))
  | (refine' MK.len_q ?hk ?_; (case hk => exact MK.Star.getS (by walk_at "pk")))
  | (refine' MK.Star.len_sq ?hk ?_; (case hk => walk_at "pk")))
local macro_rules | `(tactic| walk_at "isi") => `(tactic| first
  | (refine' MK.isi_l ?hk ?_; (case hk => exact MK.Star.get (by walk_at "pk")))
  | (refine' MK.isi_t ?hk ?_; (case hk => exact MK.Star.getF (by walk_at "pk")))
  | (refine' MK.isi_d ?hk ?_; (case hk => exact MK.Star.get (by walk_at "pk")))
  | (refine' MK.Star.isi_sq2 ?hk ?_; (case hk => walk_at "pk")))
local macro_rules | `(tactic| walk_at "mem") => `(tactic| first | exact List.mem_cons_self | exact List.mem_cons_of_mem _ List.mem_cons_self | exact List.mem_cons_of_mem _ (List.mem_cons_of_mem _ List.mem_cons_self))
local macro_rules | `(tactic| walk_at "fld") => `(tactic| (refine' MK.fld_i ?hk ?hc ?hl ?_; (case hk => exact MK.Star.get (by walk_at "pk")); (case hc => walk_at "mem"); (case hl => first | rfl | decide +kernel)))
local macro_rules | `(tactic| walk_at "dsp") => `(tactic| (refine' MK.dsp_i ?hk ?hm ?hl ?_; (case hk => exact MK.Star.get (by walk_at "pk")); (case hm => walk_at "mem"); (case hl => first | rfl | decide +kernel)))
local macro_rules | `(tactic| walk_at "go1") => `(tactic| first | walk_at "fld" | walk_at "dsp" | walk_at "ix" | walk_at "len" | walk_at "isi" | (refine And.intro (by walk_at "sd") ?_))
local macro_rules | `(tactic| walk_at "go") => `(tactic| ((conv => whnf); repeat (walk_at "go1"; (conv => whnf))))
local macro_rules | `(tactic| walk_at "fr") => `(tactic| repeat (first | exact MK.Fr.refl _ | exact MK.Fr.nil _ | apply MK.Fr.c0 | apply MK.Fr.c1 | apply MK.Fr.c2 | apply MK.Fr.c3 | apply MK.Fr.c4 | apply MK.Fr.c5 | apply MK.Fr.c6 | apply MK.Fr.c7 | apply MK.Fr.c8 | apply MK.Fr.c9 | apply MK.Fr.ca | apply MK.Fr.cb | apply MK.Fr.tup | apply MK.Fr.lst | apply MK.Fr.dct | apply MK.Fr.int | apply MK.Fr.bl | apply MK.Fr.non | apply MK.Fr.str | apply MK.Fr.ds0 | apply MK.Fr.dsc | apply MK.Fr.drop))
local macro_rules | `(tactic| walk_at "tn") => `(tactic| (simp only [MK.isB, Bool.not_true, Bool.not_false, cond_true, cond_false]; refine (fun h => h : ∀ {D : L2.Ends} {σ : L2.St} {H : L2.Hp}, D.nx σ H → L2.tNext D σ H) ?_; dsimp only))
local macro_rules | `(tactic| walk_at "mm") => `(tactic| repeat (first | exact List.mem_cons_self | apply List.mem_cons_of_mem))
namespace Lawk44
open PySem PySem.Spec PyProof.Rows L2 MK
def bxk (a b c : Int) : List (Key × V) := [(.inr "left", .int a), (.inr "seed", .int b), (.inr "turn", .int c)]
/-- a box that is good for n draws more -/
def box2 (q : Addr) (n : Nat) : SP := ex fun a : Int => ex fun b : Int => ex fun c : Int => sep [pr ((0 ≤ b ∧ b < 2147483647) ∧ 0 ≤ c ∧ c + (n : Int) ≤ 1000000000), pt q (.dK (bxk a b c))]
theorem box2_iff {H : Hp} {q : Addr} {n : Nat} {F : List SP} : Star H (box2 q n :: F) ↔ ∃ a b c : Int, ((0 ≤ b ∧ b < 2147483647) ∧ 0 ≤ c ∧ c + (n : Int) ≤ 1000000000) ∧ Star H (pt q (.dK (bxk a b c)) :: F) := by
  unfold box2
  simp only [Star.ex_iff, Star.sep_iff, List.cons_append, List.nil_append, Star.pr_iff]
theorem bxk_left (a b c : Int) : valV (bxk a b c) (.inr "left") = some (.int a) := rfl
theorem bxk_seed (a b c : Int) : valV (bxk a b c) (.inr "seed") = some (.int b) := rfl
theorem bxk_turn (a b c : Int) : valV (bxk a b c) (.inr "turn") = some (.int c) := rfl
theorem bxk_putl (a b c d : Int) : putK (bxk a b c) (.inr "left") (.int d) = bxk d b c := rfl
theorem bxk_putt (a b c d : Int) : putK (bxk a b c) (.inr "turn") (.int d) = bxk a b d := rfl
theorem box2_le {H : Hp} {q : Addr} {n m : Nat} {F : List SP} (h : m ≤ n) (S : Star H (box2 q n :: F)) : Star H (box2 q m :: F) := by
  obtain ⟨a, b, c, ⟨h1, h2, h3⟩, S⟩ := box2_iff.mp S
  exact box2_iff.mpr ⟨a, b, c, ⟨h1, h2, by omega⟩, S⟩
theorem take2_ok {K : PySem.W.Frag} {q : Addr} {F : List SP} {H : Hp} {m : Int} {n : Nat} {Q : VK} {E : XK} (S : Star H (box2 q (n + 1) :: F)) (hm : 0 < m ∧ m < 18446744073709551616) (k : ∀ H' (d : Nat), (d : Int) < m → Star H' (box2 q n :: F) → Q (.int (d : Nat)) H') :
    sp_L_take K [.ref q, .int m] H Q E := by
  obtain ⟨a, b, c, ⟨hb, hc, hn⟩, S⟩ := box2_iff.mp S
  have fin : ∀ {H' : Hp} {z a c : Int}, 0 ≤ c → c + (n : Int) ≤ 1000000000 → Star H' (pt q (.dK (bxk a b c)) :: F) → Q (.int (z % m)) H' := fun {H' z a c} hc hn S => by
    have h0 := Int.emod_nonneg z (show m ≠ 0 by omega)
    obtain ⟨d, hd⟩ := Int.eq_ofNat_of_zero_le h0
    rw [hd]
    exact k H' d (by rw [← hd]; exact Int.emod_lt_of_pos _ hm.1) (box2_iff.mpr ⟨_, _, _, ⟨hb, hc, hn⟩, S⟩)
  refine sp_L_take_i ?_
  walk_at "go"
  refine ixd_s S.get (bxk_left a b c) ?_
  walk_at "go"
  refine brd (fun h => ?_) (fun h => ?_)
  · walk_at "go"
    refine ixd_s S.get (bxk_left a b c) ?_
    walk_at "go"
    refine ixd_s S.get (bxk_left a b c) ?_
    walk_at "go"
    refine setd_s S (show 3 < 16777216 by decide) fun H1 S => ?_
    rw [bxk_putl] at S
    walk_at "go"
    exact fin hc (by omega) S
  · walk_at "go"
    refine ixd_s S.get (bxk_turn a b c) ?_
    walk_at "go"
    refine setd_s S (show 3 < 16777216 by decide) fun H1 S => ?_
    rw [bxk_putt] at S
    obtain ⟨c1, hc1⟩ : ∃ c1, c1 = c + 1 := ⟨_, rfl⟩
    rw [← hc1] at S
    walk_at "go"
    refine ixd_s S.get (bxk_seed a b c1) ?_
    walk_at "go"
    refine ixd_s S.get (bxk_turn a b c1) ?_
    walk_at "go"
    have h0 := Int.emod_nonneg ((b + 7919 * c1) ^ (3 : Int).toNat) (show (2147483629 : Int) ≠ 0 by decide)
    have h1 := Int.emod_lt_of_pos ((b + 7919 * c1) ^ (3 : Int).toNat) (show (0 : Int) < 2147483629 by decide)
    obtain ⟨y, hy⟩ : ∃ y, y = (b + 7919 * c1) ^ (3 : Int).toNat % 2147483629 := ⟨_, rfl⟩
    rw [← hy] at h0 h1
    first
      | rw [← hy]
      | skip
    refine ixd_s S.get (bxk_turn a b c1) ?_
    walk_at "go"
    exact fin (by omega) (by omega) S
theorem box2_ok {K : PySem.W.Frag} {F : List SP} {H : Hp} {z : Int} {Q : VK} {E : XK} (n : Nat) (hn : n ≤ 1000000000) (S : Star H F) (k : ∀ H' q, Star H' (box2 q n :: F) → Q (.ref q) H') : sp_L_box K [.int z] H Q E := by
  refine sp_L_box_i ?_
  walk_at "go"
  refine al_d S fun q H1 S => ?_
  walk_at "go"
  refine dis_S (bxk _ _ _) S rfl rfl (show 3 ≤ 15 by decide) fun H2 S => ?_
  exact k _ _ (box2_iff.mpr ⟨_, _, _, ⟨⟨Int.emod_nonneg _ (by decide), Int.emod_lt_of_pos _ (by decide)⟩, by decide, by omega⟩, S⟩)
theorem cell_at_ok {K : PySem.W.Frag} {a : Addr} {ns : List Int} {F : List SP} {H : Hp} {z : Int} {Q : VK} {E : XK} (S : Star H (scr K a (ns.map V.int) :: F)) (hz : 0 ≤ z) (k : ∀ c, Q (.int c) H) : sp_L_cell_at K [.ref a, .int z] H Q E := by
  refine sp_L_cell_at_i ?_
  walk_at "go"
  refine brd (fun h => ?_) (fun h => ?_)
  · walk_at "go"
    rw [List.length_map] at h
    obtain ⟨j, rfl⟩ := Int.eq_ofNat_of_zero_le hz
    have hj : j < ns.length := by omega
    exact ix_q S.getS (atI_nat (by rw [List.getElem?_map, List.getElem?_eq_getElem hj]; rfl)) (k _)
  · walk_at "go"
    exact k _
end Lawk44

namespace Lawk44
open PySem PySem.Spec PyProof.Rows L2 MK
def wholeD (d : PyData) (lo hi : Int) : Bool := match d with
  | .int i => decide (lo ≤ i) && decide (i ≤ hi)
  | _ => false
theorem wholeD_int (i lo hi : Int) : wholeD (.int i) lo hi = (decide (lo ≤ i) && decide (i ≤ hi)) := rfl
theorem is_whole_ok {K : PySem.W.Frag} {F : List SP} {H : Hp} {v : V} {d : PyData} {lo hi : Int} {Q : VK} {E : XK} (S : Star H (dat v d :: F)) (k : Q (.bl (wholeD d lo hi)) H) : sp_is_whole K [v, .int lo, .int hi] H Q E := by
  refine sp_is_whole_i ?_
  cases d with
  | none =>
    obtain ⟨rfl, S⟩ := dat_n.mp S
    walk_at "go"
    exact k
  | bool b =>
    obtain ⟨rfl, S⟩ := dat_b.mp S
    walk_at "go"
    exact k
  | int i =>
    obtain ⟨rfl, S⟩ := dat_i.mp S
    walk_at "go"
    refine br (fun h => ?_) (fun h => ?_)
    · walk_at "go"
      rw [wholeD_int, h, Bool.true_and] at k
      exact k
    · rw [wholeD_int, h, Bool.false_and] at k
      exact k
  | str x =>
    obtain ⟨rfl, S⟩ := dat_s.mp S
    walk_at "go"
    exact k
  | list ds =>
    obtain ⟨a, xs, rfl, S⟩ := dat_l.mp S
    walk_at "go"
    exact k
  | tuple ds =>
    obtain ⟨a, xs, rfl, S⟩ := dat_t.mp S
    walk_at "go"
    exact k
  | dict kvs =>
    obtain ⟨a, ks, rfl, S⟩ := dat_k.mp S
    walk_at "go"
    exact k
end Lawk44
namespace Lawk44
open PySem PySem.Spec PyProof.Rows L2 MK
def worthD (d : PyData) : Bool := wholeD d (1 - 1000000000000000000000000000000) (1000000000000000000000000000000 - 1)
theorem is_worth_ok {K : PySem.W.Frag} {F : List SP} {H : Hp} {v : V} {d : PyData} {Q : VK} {E : XK} (S : Star H (dat v d :: F)) (k : Q (.bl (worthD d)) H) : sp_is_worth K [v] H Q E := by
  refine sp_is_worth_i ?_
  walk_at "go"
  refine is_whole_ok S ?_
  exact k
end Lawk44

namespace Lawk44
open PySem PySem.Spec PyProof.Rows L2 MK

abbrev nV (k : Nat) : V := .int (k : Int)
def osV (tr : List Nat) : List V := .non :: tr.map nV
def tyD (tr : List Nat) : List PyData := .none :: tr.map fun k => .int (k : Nat)
structure TreeOk (tr dl : List Nat) : Prop where
  len : dl.length = tr.length + 1
  zero : dl[0]? = some 0
  step : ∀ i k, tr[i]? = some k → k ≤ i ∧ dl[i + 1]? = some (dl.getD k 0 + 1)
theorem osV_len (tr : List Nat) : (osV tr).length = tr.length + 1 := by simp [osV]
theorem osV_zero (tr : List Nat) : (osV tr)[0]? = some .non := rfl
theorem osV_succ (tr : List Nat) (i : Nat) : (osV tr)[i + 1]? = tr[i]?.map nV := by simp [osV]
theorem osV_app (tr : List Nat) (k : Nat) : osV tr ++ [nV k] = osV (tr ++ [k]) := by simp [osV]
theorem TreeOk.app {tr dl : List Nat} (h : TreeOk tr dl) {k : Nat} (hk : k ≤ tr.length) : TreeOk (tr ++ [k]) (dl ++ [dl.getD k 0 + 1]) := by
  have hl := h.len
  refine ⟨by simp [hl], ?_, ?_⟩
  · rw [List.getElem?_append_left (by omega)]
    exact h.zero
  · intro i j e
    by_cases hi : i < tr.length
    · rw [List.getElem?_append_left hi] at e
      obtain ⟨h1, h2⟩ := h.step i j e
      refine ⟨h1, ?_⟩
      rw [List.getElem?_append_left (by omega), h2]
      have : j < dl.length := by omega
      simp [List.getD, List.getElem?_append_left this]
    · have e1 : i = tr.length := by
        have := (List.getElem?_eq_some_iff.mp e).1
        simp at this
        omega
      subst e1
      simp at e
      subst e
      refine ⟨hk, ?_⟩
      have h3 : tr.length + 1 = dl.length := by omega
      rw [h3, List.getElem?_concat_length]
      have : k < dl.length := by omega
      simp [List.getD, List.getElem?_append_left this]
theorem tree0 : TreeOk [] [0] := ⟨rfl, rfl, fun i k e => by simp at e⟩
theorem atI_n {α : Type} {xs : List α} {i : Nat} {x : α} (h : xs[i]? = some x) : atI xs (i : Int) = some x := atI_nat h
def dep (tr : List Nat) : List Nat := tr.foldl (fun dl k => dl ++ [dl.getD k 0 + 1]) [0]
theorem dep_app (tr : List Nat) (k : Nat) : dep (tr ++ [k]) = dep tr ++ [(dep tr).getD k 0 + 1] := by
  unfold dep
  rw [List.foldl_append]
  rfl
theorem TreeOk.le {tr dl : List Nat} (h : TreeOk tr dl) : ∀ i, dl.getD i 0 ≤ i := by
  intro i
  induction i using Nat.strongRecOn with
  | _ i ih =>
    cases i with
    | zero => simp [List.getD, h.zero]
    | succ i =>
      by_cases hi : i < tr.length
      · obtain ⟨k, hk⟩ : ∃ k, tr[i]? = some k := ⟨_, List.getElem?_eq_getElem hi⟩
        obtain ⟨h1, h2⟩ := h.step i k hk
        have h3 := ih k (by omega)
        have e : dl.getD (i + 1) 0 = dl.getD k 0 + 1 := by simp [List.getD, h2]
        rw [e]
        omega
      · have : dl[i + 1]? = none := List.getElem?_eq_none (by rw [h.len]; omega)
        simp [List.getD, this]
theorem TreeOk.at' {tr dl : List Nat} (h : TreeOk tr dl) {m : Nat} (hm : m < tr.length + 1) : dl[m]? = some (dl.getD m 0) := by
  rw [← h.len] at hm
  simp [List.getD, List.getElem?_eq_getElem hm]
def onP (tr : List Nat) (m i : Nat) : Bool := decide ((osV tr)[i]? = some (nV m))
def onN (tr : List Nat) (m : Nat) : List Nat := (List.range (tr.length + 1)).filter (onP tr m)
end Lawk44

namespace Lawk44
open PySem PySem.Spec PyProof.Rows L2 MK
/-! the makes above a make -/
def up1 (tr : List Nat) : Nat → Nat
  | 0 => 0
  | m + 1 => tr.getD m 0
def anc (tr : List Nat) : Nat → Nat → Nat
  | m, 0 => m
  | m, s + 1 => anc tr (up1 tr m) s
abbrev dp (tr : List Nat) (m : Nat) : Nat := (dep tr).getD m 0
section
variable {tr : List Nat} {m s a b k : Nat}
theorem anc_zero : anc tr m 0 = m := rfl
theorem anc_one : anc tr m 1 = up1 tr m := rfl
theorem anc_add : ∀ (a m : Nat), anc tr m (a + b) = anc tr (anc tr m a) b
  | 0, m => by rw [Nat.zero_add]; rfl
  | a + 1, m => by
    rw [Nat.succ_add]
    exact anc_add a (up1 tr m)
theorem up1_lt (h : TreeOk tr (dep tr)) (hm : m < tr.length + 1) (h0 : 0 < m) : up1 tr m < m := by
  cases m with
  | zero => cases h0
  | succ m =>
    obtain ⟨j, hj⟩ : ∃ j, tr[m]? = some j := ⟨_, List.getElem?_eq_getElem (by omega)⟩
    have := (h.step m j hj).1
    show tr.getD m 0 < m + 1
    rw [List.getD, hj]
    show j < m + 1
    omega
theorem up1_le (h : TreeOk tr (dep tr)) (hm : m < tr.length + 1) : up1 tr m ≤ m := by
  by_cases h0 : 0 < m
  · exact Nat.le_of_lt (up1_lt h hm h0)
  · have : m = 0 := by omega
    subst this
    exact Nat.le_refl _
theorem anc_le (h : TreeOk tr (dep tr)) : ∀ (s m : Nat), m < tr.length + 1 → anc tr m s ≤ m
  | 0, m, _ => Nat.le_refl _
  | s + 1, m, hm => by
    have h1 := up1_le h hm
    exact Nat.le_trans (anc_le h s (up1 tr m) (by omega)) h1
theorem dp_zero (h : TreeOk tr (dep tr)) : dp tr 0 = 0 := by
  have : (dep tr).getD 0 0 ≤ 0 := h.le 0
  exact Nat.le_zero.mp this
theorem dp_up (h : TreeOk tr (dep tr)) (hm : m < tr.length + 1) (h0 : 0 < m) : dp tr m = dp tr (up1 tr m) + 1 := by
  cases m with
  | zero => cases h0
  | succ m =>
    obtain ⟨j, hj⟩ : ∃ j, tr[m]? = some j := ⟨_, List.getElem?_eq_getElem (by omega)⟩
    have h2 := (h.step m j hj).2
    have e : up1 tr (m + 1) = j := by
      show tr.getD m 0 = j
      rw [List.getD, hj]
      rfl
    rw [e]
    show (dep tr).getD (m + 1) 0 = _
    rw [List.getD, h2]
    rfl
theorem dp_pos (h : TreeOk tr (dep tr)) (hm : m < tr.length + 1) : 0 < dp tr m ↔ 0 < m := by
  constructor
  · intro z
    by_cases h0 : 0 < m
    · exact h0
    · have : m = 0 := by omega
      subst this
      rw [dp_zero h] at z
      exact z
  · intro h0
    rw [dp_up h hm h0]
    omega
theorem dp_anc (h : TreeOk tr (dep tr)) : ∀ (s m : Nat), m < tr.length + 1 → s ≤ dp tr m → dp tr (anc tr m s) = dp tr m - s
  | 0, m, _, _ => rfl
  | s + 1, m, hm, hs => by
    have h0 : 0 < m := (dp_pos h hm).mp (by omega)
    have h1 := dp_up h hm h0
    have h2 := up1_le h hm
    have h3 := dp_anc h s (up1 tr m) (by omega) (by omega)
    show dp tr (anc tr (up1 tr m) s) = _
    rw [h3]
    omega
theorem anc_root (h : TreeOk tr (dep tr)) (hm : m < tr.length + 1) : anc tr m (dp tr m) = 0 := by
  have h1 := dp_anc h (dp tr m) m hm (Nat.le_refl _)
  have h2 := anc_le h (dp tr m) m hm
  by_cases h0 : 0 < anc tr m (dp tr m)
  · have := (dp_pos h (by omega)).mpr h0
    omega
  · omega
theorem up1_app (hm : m < tr.length + 1) : up1 (tr ++ [k]) m = up1 tr m := by
  cases m with
  | zero => rfl
  | succ m =>
    show (tr ++ [k]).getD m 0 = tr.getD m 0
    rw [List.getD, List.getD, List.getElem?_append_left (by omega)]
theorem anc_app (h : TreeOk tr (dep tr)) : ∀ (s m : Nat), m < tr.length + 1 → anc (tr ++ [k]) m s = anc tr m s
  | 0, m, _ => rfl
  | s + 1, m, hm => by
    have h1 := up1_le h hm
    show anc (tr ++ [k]) (up1 (tr ++ [k]) m) s = anc tr (up1 tr m) s
    rw [up1_app hm]
    exact anc_app h s (up1 tr m) (by omega)
theorem dp_app (h : TreeOk tr (dep tr)) (hm : m < tr.length + 1) : dp (tr ++ [k]) m = dp tr m := by
  have hl := h.len
  show (dep (tr ++ [k])).getD m 0 = (dep tr).getD m 0
  rw [dep_app, List.getD, List.getElem?_append_left (by omega)]
  rfl
theorem up1_new : up1 (tr ++ [k]) (tr.length + 1) = k := by
  show (tr ++ [k]).getD tr.length 0 = k
  rw [List.getD, List.getElem?_concat_length]
  rfl
theorem dp_new (h : TreeOk tr (dep tr)) : dp (tr ++ [k]) (tr.length + 1) = dp tr k + 1 := by
  have hl := h.len
  show (dep (tr ++ [k])).getD (tr.length + 1) 0 = (dep tr).getD k 0 + 1
  rw [dep_app, List.getD, ← hl, List.getElem?_concat_length]
  rfl
theorem osV_up (h : TreeOk tr (dep tr)) (hm : m < tr.length + 1) (h0 : 0 < m) : (osV tr)[m]? = some (nV (up1 tr m)) := by
  cases m with
  | zero => cases h0
  | succ m =>
    rw [osV_succ]
    obtain ⟨j, hj⟩ : ∃ j, tr[m]? = some j := ⟨_, List.getElem?_eq_getElem (by omega)⟩
    have e : up1 tr (m + 1) = j := by
      show tr.getD m 0 = j
      rw [List.getD, hj]
      rfl
    rw [e, hj]
    rfl
end
end Lawk44

namespace Lawk44
open PySem PySem.Spec PyProof.Rows L2 MK
/-! leaps: the makes 1, 2, 4, .. above -/
def lpD (tr : List Nat) (i n : Nat) : List Nat := (List.range n).map fun p => anc tr i (2 ^ p)
structure LpOk (tr : List Nat) (ld : List PyData) : Prop where
  len : ld.length = tr.length + 1
  at_ : ∀ i d, ld[i]? = some d → ∃ n, d = .list ((lpD tr i n).map fun k => .int (k : Nat)) ∧ dp tr i < 2 ^ n ∧ ∀ p, p < n → 2 ^ p ≤ dp tr i
def lpp (tr : List Nat) (l : Addr) : SP := ex fun lv : List V => ex fun ld : List PyData => sep [pr (LpOk tr ld), pt l (.lst lv), dats lv ld]
theorem lpp_iff {H : Hp} {l : Addr} {tr : List Nat} {F : List SP} : Star H (lpp tr l :: F) ↔ ∃ lv ld, LpOk tr ld ∧ Star H (pt l (.lst lv) :: dats lv ld :: F) := by
  unfold lpp
  simp only [Star.ex_iff, Star.sep_iff, List.cons_append, List.nil_append, Star.pr_iff]
theorem lpD_at {tr : List Nat} {i n p : Nat} (h : p < n) : (lpD tr i n)[p]? = some (anc tr i (2 ^ p)) := by
  unfold lpD
  rw [List.getElem?_map, List.getElem?_range h]
  rfl
theorem lpD_len (tr : List Nat) (i n : Nat) : (lpD tr i n).length = n := by
  unfold lpD
  rw [List.length_map, List.length_range]
theorem lpD_succ (tr : List Nat) (i n : Nat) : lpD tr i (n + 1) = lpD tr i n ++ [anc tr i (2 ^ n)] := by
  unfold lpD
  rw [List.range_succ, List.map_append]
  rfl
theorem LpOk.app {tr : List Nat} {ld : List PyData} (o : LpOk tr ld) (h : TreeOk tr (dep tr)) {k n : Nat} (hk : k < tr.length + 1) (h1 : dp tr k + 1 < 2 ^ n) (h2 : ∀ p, p < n → 2 ^ p ≤ dp tr k + 1) :
    LpOk (tr ++ [k]) (ld ++ [.list ((lpD (tr ++ [k]) (tr.length + 1) n).map fun k => .int (k : Nat))]) := by
  refine ⟨by simp [o.len], fun i d e => ?_⟩
  by_cases hi : i < ld.length
  · rw [List.getElem?_append_left hi] at e
    have hil : i < tr.length + 1 := by rw [← o.len]; exact hi
    obtain ⟨m, e1, e2, e3⟩ := o.at_ i d e
    refine ⟨m, ?_, by rw [dp_app h hil]; exact e2, by rw [dp_app h hil]; exact e3⟩
    rw [e1]
    have : lpD (tr ++ [k]) i m = lpD tr i m := by
      unfold lpD
      exact List.map_congr_left fun p _ => anc_app h _ _ hil
    rw [this]
  · have e1 : i = ld.length := by
      have := (List.getElem?_eq_some_iff.mp e).1
      simp at this
      omega
    have e2 : i = tr.length + 1 := by rw [e1]; exact o.len
    rw [e1, List.getElem?_concat_length] at e
    cases e
    refine ⟨n, by rw [e2], ?_, ?_⟩
    · rw [e2, dp_new h]
      exact h1
    · rw [e2, dp_new h]
      exact h2
theorem lp00 : LpOk [] [.list []] := ⟨rfl, fun i d e => by
  cases i with
  | zero =>
    cases e
    exact ⟨0, rfl, by decide, fun p hp => absurd hp (Nat.not_lt_zero _)⟩
  | succ i => simp at e⟩
abbrev MakeTree_o (K : PySem.W.Frag) (t dx o p l : Addr) : SP := pt t (.ins (He.ga K "MakeTree") dx (("owners", .ref o) :: ("depths", .ref p) :: []))
abbrev LeapTree_o (K : PySem.W.Frag) (t dx o p l : Addr) : SP := pt t (.ins (He.ga K "LeapTree") dx (("owners", .ref o) :: ("depths", .ref p) :: [("leaping", .ref l)]))
section
variable {K : PySem.W.Frag} {F : List SP} {H : Hp} {Q : VK} {E : XK} {t dx o p l : Addr} {tr dl : List Nat} {b : Bool}
theorem pow_pos' (q : Nat) : 1 ≤ 2 ^ q := Nat.one_le_two_pow
theorem LeapTree_lay_ok {m : Nat} (S : Star H (LeapTree_o K t dx o p l :: pt p (.lst ((dep tr).map nV)) :: lpp tr l :: F)) (h : TreeOk tr (dep tr)) (hm : m < tr.length + 1) (hz : tr.length < 1000)
    (k : ∀ H', Star H' (LeapTree_o K t dx o p l :: pt p (.lst ((dep (tr ++ [m])).map nV)) :: lpp (tr ++ [m]) l :: F) → Q .non H') : sp_LeapTree_lay K [.ref t, nV m] H Q E := by
  have hdl := h.len
  have hdm : dp tr m ≤ m := h.le m
  refine sp_LeapTree_lay_i ?_
  walk_at "go"
  refine ix_l S.p1.get (atI_n (by rw [List.getElem?_map, h.at' hm]; rfl)) ?_
  walk_at "go"
  refine app_S S.p1 (by rw [List.length_map]; omega) fun H1 S => ?_
  walk_at "go"
  have e : (dep tr).map nV ++ [.int (((dep tr).getD m 0 : Nat) + 1)] = (dep (tr ++ [m])).map nV := by rw [dep_app]; simp
  rw [e] at S
  refine al_l S fun f H1 S => ?_
  walk_at "w"
  obtain ⟨lv, ld, hl, S⟩ := lpp_iff.mp S.p3
  have hll := hl.len
  refine while_i (fun z σ H => ∃ q, z = dp tr m + 1 - 2 ^ q ∧ 2 ^ q ≤ dp tr m + 1 ∧ q < 1000 ∧ σ = [some (.ref t), some (nV m), some (.ref f)] ∧
    Star H (pt f (.lst ((lpD (tr ++ [m]) (tr.length + 1) (q + 1)).map nV)) :: LeapTree_o K t dx o p l :: pt p (.lst ((dep (tr ++ [m])).map nV)) :: pt l (.lst lv) :: dats lv ld :: F)) (dp tr m + 1 - 2 ^ 0) ⟨0, rfl, by rw [Nat.pow_zero]; omega, by decide, rfl, ?_⟩ ?_
  · have e1 : lpD (tr ++ [m]) (tr.length + 1) (0 + 1) = [m] := by
      show [anc (tr ++ [m]) (tr.length + 1) 1] = [m]
      rw [anc_one, up1_new]
    rw [e1]
    exact S.fr (by walk_at "fr")
  rintro z0 σ H2 ⟨q, rfl, hq, hq1, rfl, S⟩
  have hp1 := pow_pos' q
  -- the last one found
  obtain ⟨z, ez⟩ : ∃ z, z = anc tr m (2 ^ q - 1) := ⟨_, rfl⟩
  have hanc : ∀ s, 1 ≤ s → anc (tr ++ [m]) (tr.length + 1) s = anc tr m (s - 1) := fun s hs => by
    obtain ⟨s', rfl⟩ : ∃ s', s = s' + 1 := ⟨s - 1, by omega⟩
    show anc (tr ++ [m]) (up1 (tr ++ [m]) (tr.length + 1)) s' = anc tr m (s' + 1 - 1)
    rw [up1_new, anc_app h _ _ hm, Nat.add_sub_cancel]
  have hzm : z ≤ m := by rw [ez]; exact anc_le h _ _ hm
  have hdz : dp tr z = dp tr m + 1 - 2 ^ q := by
    rw [ez, dp_anc h _ _ hm (by omega)]
    omega
  have hlast : atI ((lpD (tr ++ [m]) (tr.length + 1) (q + 1)).map nV) (-1) = some (nV z) := by
    refine atI_last ?_
    rw [lpD_succ, List.map_append, ez, hanc _ hp1]
    simp
  obtain ⟨dz, hdz'⟩ := get_of (i := z) (ds := ld) (by rw [hll]; omega)
  obtain ⟨v, hv, T⟩ := Star.take (S.p4) hdz'
  obtain ⟨n, rfl, hn1, hn2⟩ := hl.at_ z dz hdz'
  obtain ⟨g, xs, rfl, T2⟩ := dat_l.mp T
  obtain ⟨e2, _⟩ := ints_of T2.p1
  subst e2
  have Tg := T2.get
  walk_at "go"
  refine ix_l S.get hlast ?_
  walk_at "go"
  refine ix_l S.p3.get (atI_n hv) ?_
  walk_at "go"
  rw [List.length_map, List.length_map, lpD_len, lpD_len]
  refine brd (fun hc => ?_) (fun hc => ?_)
  · have hqn : q < n := by omega
    have hle := hn2 q hqn
    walk_at "go"
    refine ix_l S.get hlast ?_
    walk_at "go"
    refine ix_l S.p3.get (atI_n hv) ?_
    walk_at "go"
    refine ix_l Tg (v := nV (anc tr z (2 ^ q))) ?_ ?_
    · have e3 : ((((lpD (tr ++ [m]) (tr.length + 1) (q + 1)).map nV).length : Nat) : Int) - 1 = (q : Int) := by
        rw [List.length_map, lpD_len]
        omega
      rw [e3]
      exact atI_n (by rw [List.getElem?_map, lpD_at hqn]; rfl)
    walk_at "go"
    refine app_S S (by rw [List.length_map, lpD_len]; omega) fun H3 S => ?_
    walk_at "w"
    have e4 : (2 : Nat) ^ (q + 1) = 2 ^ q + 2 ^ q := by rw [Nat.pow_succ]; omega
    have e5 : anc tr z (2 ^ q) = anc (tr ++ [m]) (tr.length + 1) (2 ^ (q + 1)) := by
      rw [hanc _ (by omega), ez, ← anc_add]
      congr 1
      omega
    have hb : q + 1 < 1000 := by
      have : q < 2 ^ q := Nat.lt_two_pow_self
      omega
    refine ⟨dp tr m + 1 - 2 ^ (q + 1), by omega, q + 1, rfl, by omega, hb, rfl, ?_⟩
    rw [lpD_succ _ _ (q + 1), List.map_append, ← e5]
    exact S
  · have hqn : n ≤ q := by omega
    have hle : 2 ^ n ≤ 2 ^ q := Nat.pow_le_pow_right (by decide) hqn
    have e4 : (2 : Nat) ^ (q + 1) = 2 ^ q + 2 ^ q := by rw [Nat.pow_succ]; omega
    walk_at "go"
    refine app_S S.p3 (by have := S.p4.dlen; omega) fun H3 S => ?_
    walk_at "w"
    have S2 : Star H3 (dats lv ld :: dat (.ref f) (.list ((lpD (tr ++ [m]) (tr.length + 1) (q + 1)).map fun k => PyData.int (k : Nat))) :: pt l (.lst (lv ++ [.ref f])) :: LeapTree_o K t dx o p l :: pt p (.lst ((dep (tr ++ [m])).map nV)) :: F) :=
      S.fr (Fr.c4 (Fr.lst (xs := (lpD (tr ++ [m]) (tr.length + 1) (q + 1)).map nV) (Fr.c1 (Fr.ints (by walk_at "fr")))))
    have ok := hl.app h (k := m) (n := q + 1) hm (by omega) fun p' hp' => by
      have : 2 ^ p' ≤ 2 ^ q := Nat.pow_le_pow_right (by decide) (by omega)
      omega
    exact k _ (Star.fr (lpp_iff.mpr ⟨_, _, ok, S2.snoc.p1⟩) (Fr.c1 (Fr.c1 (Fr.c0 (Fr.refl _)))))
end
end Lawk44

namespace Lawk44
open PySem PySem.Spec PyProof.Rows L2 MK
def ancs (tr : List Nat) (m n : Nat) : List Nat := (List.range n).map (anc tr m)
def lineN (tr : List Nat) (m : Nat) : List Nat := (ancs tr m (dp tr m + 1)).reverse
theorem ancs_len (tr : List Nat) (m n : Nat) : (ancs tr m n).length = n := by
  unfold ancs
  rw [List.length_map, List.length_range]
theorem ancs_succ (tr : List Nat) (m n : Nat) : ancs tr m (n + 1) = ancs tr m n ++ [anc tr m n] := by
  unfold ancs
  rw [List.range_succ, List.map_append]
  rfl
theorem ancs_at {tr : List Nat} {m n s : Nat} (hs : s < n) : (ancs tr m n)[s]? = some (anc tr m s) := by
  unfold ancs
  rw [List.getElem?_map, List.getElem?_range hs]
  rfl
theorem anc_succ {tr : List Nat} {m s : Nat} : anc tr m (s + 1) = up1 tr (anc tr m s) := by
  rw [anc_add]
  rfl
theorem lineN_len (tr : List Nat) (m : Nat) : (lineN tr m).length = dp tr m + 1 := by
  unfold lineN
  rw [List.length_reverse, ancs_len]
theorem lineN_at {tr : List Nat} {m s : Nat} (hs : s ≤ dp tr m) : (lineN tr m)[dp tr m - s]? = some (anc tr m s) := by
  unfold lineN
  rw [List.getElem?_reverse (by rw [ancs_len]; omega), ancs_len]
  have e : dp tr m + 1 - 1 - (dp tr m - s) = s := by omega
  rw [e]
  exact ancs_at (by omega)
end Lawk44

namespace Lawk44
open PySem PySem.Spec PyProof.Rows L2 MK
/-! the make of a line at a depth; where two lines part -/
def lv (tr : List Nat) (a j : Nat) : Nat := anc tr a (dp tr a - j)
section
variable {tr : List Nat} {a b j i : Nat}
theorem lv_dp (h : TreeOk tr (dep tr)) (ha : a < tr.length + 1) (hj : j ≤ dp tr a) : dp tr (lv tr a j) = j := by
  unfold lv
  rw [dp_anc h _ a ha (by omega)]
  omega
theorem lv_lt (h : TreeOk tr (dep tr)) (ha : a < tr.length + 1) : lv tr a j < tr.length + 1 := by
  have := anc_le h (dp tr a - j) a ha
  unfold lv
  omega
theorem lv_self : lv tr a (dp tr a) = a := by
  unfold lv
  rw [Nat.sub_self]
  rfl
theorem lv_lv (h : TreeOk tr (dep tr)) (ha : a < tr.length + 1) (hj : j ≤ dp tr a) (hi : i ≤ j) : lv tr (lv tr a j) i = lv tr a i := by
  have e := lv_dp h ha hj
  unfold lv at e ⊢
  rw [e, ← anc_add]
  congr 1
  omega
theorem lv_anc (h : TreeOk tr (dep tr)) (ha : a < tr.length + 1) {s : Nat} (hs : s ≤ dp tr a) : anc tr a s = lv tr a (dp tr a - s) := by
  unfold lv
  congr 1
  omega
theorem lv_zero (h : TreeOk tr (dep tr)) (ha : a < tr.length + 1) : lv tr a 0 = 0 := by
  unfold lv
  rw [Nat.sub_zero]
  exact anc_root h ha
theorem lv_down (h : TreeOk tr (dep tr)) (ha : a < tr.length + 1) (hb : b < tr.length + 1) (hj : j ≤ dp tr a) (hj2 : j ≤ dp tr b) (e : lv tr a j = lv tr b j) (hi : i ≤ j) : lv tr a i = lv tr b i := by
  rw [← lv_lv h ha hj hi, e, lv_lv h hb hj2 hi]
/-- j is the depth at which the lines of a and b part -/
structure Com (tr : List Nat) (a b j : Nat) : Prop where
  la : j ≤ dp tr a
  lb : j ≤ dp tr b
  eq : lv tr a j = lv tr b j
  no : ∀ i, j < i → i ≤ dp tr a → i ≤ dp tr b → lv tr a i ≠ lv tr b i
theorem Com.uniq {j' : Nat} (c : Com tr a b j) (c' : Com tr a b j') : j = j' := by
  rcases Nat.lt_trichotomy j j' with h | h | h
  · exact absurd c'.eq (c.no j' h c'.la c'.lb)
  · exact h
  · exact absurd c.eq (c'.no j h c.la c.lb)
theorem Com.symm (c : Com tr a b j) : Com tr b a j := ⟨c.lb, c.la, c.eq.symm, fun i h1 h2 h3 e => c.no i h1 h3 h2 e.symm⟩
theorem com_ex (h : TreeOk tr (dep tr)) (ha : a < tr.length + 1) (hb : b < tr.length + 1) : ∃ j, Com tr a b j := by
  have key : ∀ n, (∃ j, j ≤ dp tr a ∧ j ≤ dp tr b ∧ lv tr a j = lv tr b j ∧ dp tr a - j ≤ n) → ∃ j, Com tr a b j := by
    intro n
    induction n with
    | zero =>
      rintro ⟨j, h1, h2, h3, h4⟩
      exact ⟨j, h1, h2, h3, fun i hi hia _ => absurd hi (by omega)⟩
    | succ n ih =>
      rintro ⟨j, h1, h2, h3, h4⟩
      by_cases hx : ∃ i, j < i ∧ i ≤ dp tr a ∧ i ≤ dp tr b ∧ lv tr a i = lv tr b i
      · obtain ⟨i, i1, i2, i3, i4⟩ := hx
        exact ih ⟨i, i2, i3, i4, by omega⟩
      · exact ⟨j, h1, h2, h3, fun i hi hia hib e => hx ⟨i, hi, hia, hib, e⟩⟩
  exact key (dp tr a) ⟨0, Nat.zero_le _, Nat.zero_le _, by rw [lv_zero h ha, lv_zero h hb], by omega⟩
theorem com_self : Com tr a a (dp tr a) := ⟨Nat.le_refl _, Nat.le_refl _, rfl, fun i h1 h2 _ => absurd h1 (by omega)⟩
/-- going up from the greater one keeps where they part -/
theorem Com.up (h : TreeOk tr (dep tr)) (ha : a < tr.length + 1) (hb : b < tr.length + 1) (hab : b < a) (c : Com tr (up1 tr a) b j) : Com tr a b j := by
  have h0 : 0 < a := by omega
  have hd := dp_up h ha h0
  have hul := up1_lt h ha h0
  have e1 : ∀ i, i ≤ dp tr (up1 tr a) → lv tr a i = lv tr (up1 tr a) i := fun i hi => by
    unfold lv
    have : dp tr a - i = (dp tr (up1 tr a) - i) + 1 := by omega
    rw [this]
    rfl
  refine ⟨by have := c.la; omega, c.lb, by rw [e1 j c.la]; exact c.eq, fun i h1 h2 h3 => ?_⟩
  by_cases hi : i ≤ dp tr (up1 tr a)
  · rw [e1 i hi]
    exact c.no i h1 hi h3
  · have ei : i = dp tr a := by omega
    rw [ei, lv_self]
    intro e
    have := anc_le h (dp tr b - dp tr a) b hb
    unfold lv at e
    omega
end
end Lawk44

namespace Lawk44
open PySem PySem.Spec PyProof.Rows L2 MK
section
variable {K : PySem.W.Frag} {F : List SP} {H : Hp} {Q : VK} {E : XK} {t dx o p l q a u w : Addr} {tr dl : List Nat} {b : Bool}
end
end Lawk44

namespace Lawk44
open PySem PySem.Spec PyProof.Rows L2 MK
section
variable {K : PySem.W.Frag} {F : List SP} {H : Hp} {Q : VK} {E : XK} {t dx o p l q a u w : Addr} {tr dl : List Nat} {b : Bool}
theorem LeapTree_need_ok {m : Nat} (S : Star H (LeapTree_o K t dx o p l :: pt o (.lst (osV tr)) :: F)) (hm : m < tr.length + 1) (k : Q .non H) : sp_LeapTree_need_make K [.ref t, nV m] H Q E := by
  refine sp_LeapTree_need_make_i ?_
  walk_at "go"
  have S1 : Star H (dat (nV m) (.int (m : Nat)) :: F) := S.fr (by walk_at "fr")
  refine is_whole_ok S1 ?_
  rw [wholeD_int, decide_eq_true (by omega), decide_eq_true (by rw [osV_len]; omega)]
  walk_at "go"
  exact k
theorem LeapTree_many_ok (S : Star H (LeapTree_o K t dx o p l :: pt o (.lst (osV tr)) :: F)) (k : Q (nV (tr.length + 1)) H) : sp_LeapTree_many K [.ref t] H Q E := by
  refine sp_LeapTree_many_i ?_
  walk_at "go"
  rw [osV_len]
  exact k
theorem LeapTree_own_ok {m : Nat} {v : V} (S : Star H (LeapTree_o K t dx o p l :: pt o (.lst (osV tr)) :: F)) (hm : (osV tr)[m]? = some v) (k : Q v H) : sp_LeapTree_own K [.ref t, nV m] H Q E := by
  refine sp_LeapTree_own_i ?_
  have h1 := (List.getElem?_eq_some_iff.mp hm).1
  rw [osV_len] at h1
  walk_at "go"
  refine LeapTree_need_ok S h1 ?_
  walk_at "go"
  exact ix_l S.p1.get (atI_n hm) k
theorem LeapTree_need_bad {v : V} {d : PyData} (S : Star H (dat v d :: LeapTree_o K t dx o p l :: pt o (.lst (osV tr)) :: F)) (hb : wholeD d 0 (tr.length : Nat) = false) (k : ∀ H' e, Star H' (pt e (.xd [("found", v)]) :: dat v d :: LeapTree_o K t dx o p l :: pt o (.lst (osV tr)) :: F) → E (.ref (He.ga K "NoMake")) (some e) H') : sp_LeapTree_need_make K [.ref t, v] H Q E := by
  refine sp_LeapTree_need_make_i ?_
  walk_at "go"
  refine is_whole_ok S ?_
  have e : (((osV tr).length : Nat) : Int) - 1 = ((tr.length : Nat) : Int) := by
    rw [osV_len]
    omega
  rw [e, hb]
  walk_at "go"
  refine nwx_S (fs' := [("found", v)]) S fun e H1 S => ?_
  exact k _ _ S
theorem LeapTree_grow_bad {v : V} {d : PyData} (S : Star H (dat v d :: LeapTree_o K t dx o p l :: pt o (.lst (osV tr)) :: F)) (hb : wholeD d 0 (tr.length : Nat) = false) (k : ∀ H' e, Star H' (pt e (.xd [("found", v)]) :: dat v d :: LeapTree_o K t dx o p l :: pt o (.lst (osV tr)) :: F) → E (.ref (He.ga K "NoMake")) (some e) H') : sp_LeapTree_grow K [.ref t, v] H Q E := by
  refine sp_LeapTree_grow_i ?_
  walk_at "go"
  exact LeapTree_need_bad S hb k
theorem LeapTree_own_bad {v : V} {d : PyData} (S : Star H (dat v d :: LeapTree_o K t dx o p l :: pt o (.lst (osV tr)) :: F)) (hb : wholeD d 0 (tr.length : Nat) = false) (k : ∀ H' e, Star H' (pt e (.xd [("found", v)]) :: dat v d :: LeapTree_o K t dx o p l :: pt o (.lst (osV tr)) :: F) → E (.ref (He.ga K "NoMake")) (some e) H') : sp_LeapTree_own K [.ref t, v] H Q E := by
  refine sp_LeapTree_own_i ?_
  walk_at "go"
  exact LeapTree_need_bad S hb k
end
end Lawk44

namespace Lawk44
open PySem PySem.Spec PyProof.Rows L2 MK
section
variable {K : PySem.W.Frag} {F : List SP} {H : Hp} {Q : VK} {E : XK} {t dx o p l : Addr} {tr dl : List Nat}
theorem half (s p : Nat) : s / 2 ^ p = 2 * (s / 2 ^ (p + 1)) + s / 2 ^ p % 2 := by
  have e : s / 2 ^ (p + 1) = s / 2 ^ p / 2 := by rw [Nat.pow_succ, Nat.div_div_eq_div_mul]
  rw [e]
  omega
theorem last_app {α : Type} (xs : List α) (x : α) : (xs ++ [x]).getLast? = some x := by simp
theorem ar1 (A P : Nat) : (2 * A + 1) * P = A * (2 * P) + P := by rw [Nat.add_mul, Nat.one_mul, Nat.mul_comm 2 A, Nat.mul_assoc]
theorem ar0 (A P : Nat) : (2 * A + 0) * P = A * (2 * P) := by rw [Nat.add_zero, Nat.mul_comm 2 A, Nat.mul_assoc]
theorem bitc (s p : Nat) : Builtin.bitAnd ((s : Int) / 2 ^ (((p : Nat) : Int)).toNat) 1 = ((s / 2 ^ p % 2 : Nat) : Int) := by
  rw [bitAnd_m1, Int.toNat_natCast]
  push_cast
  rfl
end
end Lawk44

namespace Lawk44
open PySem PySem.Spec PyProof.Rows L2 MK
section
variable {K : PySem.W.Frag} {F : List SP} {H : Hp} {Q : VK} {E : XK} {t dx o p l q a u w : Addr} {tr dl : List Nat} {b : Bool}
end
end Lawk44

namespace Lawk44
open PySem PySem.Spec PyProof.Rows L2 MK
section
variable {K : PySem.W.Frag} {F : List SP} {H : Hp} {Q : VK} {E : XK} {t dx o p l : Addr} {tr dl : List Nat}
end
end Lawk44

namespace Lawk44
open PySem PySem.Spec PyProof.Rows L2 MK
section
variable {K : PySem.W.Frag} {F : List SP} {H : Hp} {Q : VK} {E : XK} {t dx o p l : Addr} {tr dl : List Nat}
theorem anc_lv (h : TreeOk tr (dep tr)) {x y s j : Nat} (hx : x < tr.length + 1) (hy : y < tr.length + 1) (c : Com tr x y j) (hd : dp tr x = dp tr y) (hs : s ≤ dp tr x) : anc tr x s = anc tr y s ↔ dp tr x - s ≤ j := by
  rw [lv_anc h hx hs, lv_anc h hy (by omega), ← hd]
  constructor
  · intro e
    by_cases z : dp tr x - s ≤ j
    · exact z
    · exact absurd e (c.no _ (by omega) (by omega) (by omega))
  · intro z
    exact lv_down h hx hy c.la c.lb c.eq z
/-- both go up alike, and still are two -/
theorem com_both (h : TreeOk tr (dep tr)) {x y s j : Nat} (hx : x < tr.length + 1) (hy : y < tr.length + 1) (c : Com tr x y j) (hd : dp tr x = dp tr y) (hs : j < dp tr x - s) (hs2 : s ≤ dp tr x) : Com tr (anc tr x s) (anc tr y s) j := by
  have e1 := dp_anc h s x hx hs2
  have e2 := dp_anc h s y hy (by omega)
  have f1 : ∀ i, i ≤ dp tr x - s → lv tr (anc tr x s) i = lv tr x i := fun i hi => by
    rw [lv_anc h hx hs2]
    exact lv_lv h hx (by omega) hi
  have f2 : ∀ i, i ≤ dp tr x - s → lv tr (anc tr y s) i = lv tr y i := fun i hi => by
    rw [lv_anc h hy (by omega)]
    exact lv_lv h hy (by omega) (by omega)
  refine ⟨by omega, by omega, ?_, fun i h1 h2 h3 => ?_⟩
  · rw [f1 j (by omega), f2 j (by omega)]
    exact c.eq
  · rw [f1 i (by omega), f2 i (by omega)]
    exact c.no i h1 (by omega) (by omega)
end
end Lawk44

namespace Lawk44
open PySem PySem.Spec PyProof.Rows L2 MK
section
variable {K : PySem.W.Frag} {F : List SP} {H : Hp} {Q : VK} {E : XK} {t dx o p l : Addr} {tr dl : List Nat}
theorem lpp_at {z : Nat} (S : Star H (lpp tr l :: F)) (hz : z < tr.length + 1) : ∃ lv g n, H l = some (.lst lv) ∧ lv[z]? = some (.ref g) ∧ H g = some (.lst ((lpD tr z n).map nV)) ∧ dp tr z < 2 ^ n ∧ ∀ p, p < n → 2 ^ p ≤ dp tr z := by
  obtain ⟨lv, ld, hl, S⟩ := lpp_iff.mp S
  obtain ⟨dz, hdz⟩ := get_of (i := z) (ds := ld) (by rw [hl.len]; exact hz)
  obtain ⟨v, hv, T⟩ := Star.take (S.p1) hdz
  obtain ⟨n, rfl, hn1, hn2⟩ := hl.at_ z dz hdz
  obtain ⟨g, xs, rfl, T2⟩ := dat_l.mp T
  obtain ⟨e2, _⟩ := ints_of T2.p1
  subst e2
  exact ⟨lv, g, n, S.get, hv, T2.get, hn1, hn2⟩
abbrev LT (K : PySem.W.Frag) (t dx o p l : Addr) (tr : List Nat) (F : List SP) : List SP := LeapTree_o K t dx o p l :: pt o (.lst (osV tr)) :: pt p (.lst ((dep tr).map nV)) :: lpp tr l :: F
end
end Lawk44

namespace Lawk44
open PySem PySem.Spec PyProof.Rows L2 MK
section
variable {K : PySem.W.Frag} {F : List SP} {H : Hp} {Q : VK} {E : XK} {t dx o p l q a u w : Addr} {tr dl : List Nat} {b : Bool}
end
end Lawk44

namespace Lawk44
open PySem PySem.Spec PyProof.Rows L2 MK
def wayN (tr : List Nat) (a b j : Nat) : List Nat := ((lineN tr a).drop j).reverse ++ (lineN tr b).drop (j + 1)
theorem wayN_len {tr : List Nat} {a b j : Nat} (ha : j ≤ dp tr a) (hb : j ≤ dp tr b) : (wayN tr a b j).length = dp tr a + dp tr b + 1 - 2 * j := by
  unfold wayN
  rw [List.length_append, List.length_reverse, List.length_drop, List.length_drop, lineN_len, lineN_len]
  omega
theorem lineN_lv {tr : List Nat} {m i : Nat} (hi : i ≤ dp tr m) : (lineN tr m)[i]? = some (lv tr m i) := by
  have e := lineN_at (tr := tr) (m := m) (s := dp tr m - i) (by omega)
  have e2 : dp tr m - (dp tr m - i) = i := by omega
  rw [e2] at e
  exact e
theorem lineN_mem {tr : List Nat} {m x : Nat} (h : TreeOk tr (dep tr)) (hm : m < tr.length + 1) (hx : x ∈ lineN tr m) : x ≤ m := by
  unfold lineN ancs at hx
  obtain ⟨s, _, rfl⟩ := List.mem_map.mp (List.mem_reverse.mp hx)
  exact anc_le h s m hm
theorem wayN_mem {tr : List Nat} {a b j x : Nat} (h : TreeOk tr (dep tr)) (ha : a < tr.length + 1) (hb : b < tr.length + 1) (hx : x ∈ wayN tr a b j) : x ≤ tr.length := by
  unfold wayN at hx
  rcases List.mem_append.mp hx with z | z
  · have := lineN_mem h ha (List.mem_of_mem_drop (List.mem_reverse.mp z))
    omega
  · have := lineN_mem h hb (List.mem_of_mem_drop z)
    omega
section
variable {K : PySem.W.Frag} {F : List SP} {H : Hp} {Q : VK} {E : XK} {t dx o p l : Addr} {tr dl : List Nat}
abbrev MT (K : PySem.W.Frag) (t dx o p l : Addr) (tr : List Nat) (F : List SP) : List SP := MakeTree_o K t dx o p l :: pt o (.lst (osV tr)) :: pt p (.lst ((dep tr).map nV)) :: F
end
end Lawk44

namespace Lawk44
open PySem PySem.Spec PyProof.Rows L2 MK
section
variable {K : PySem.W.Frag} {F : List SP} {H : Hp} {Q : VK} {E : XK} {t dx o p l : Addr} {tr dl : List Nat}
end
end Lawk44

namespace Lawk44
open PySem PySem.Spec PyProof.Rows L2 MK
section
variable {K : PySem.W.Frag} {F : List SP} {H : Hp} {Q : VK} {E : XK} {t dx o p l : Addr} {tr dl : List Nat}
end
end Lawk44

namespace Lawk44
open PySem PySem.Spec PyProof.Rows L2 MK
section
variable {K : PySem.W.Frag} {F : List SP} {H : Hp} {Q : VK} {E : XK} {t dx o p l q a u w : Addr} {tr dl : List Nat} {b : Bool}
def treM (K : PySem.W.Frag) (t : Addr) (tr : List Nat) : SP := ex fun dx : Addr => ex fun o : Addr => ex fun p : Addr => sep [pr (TreeOk tr (dep tr)), MakeTree_o K t dx o p 0, pt o (.lst (osV tr)), pt p (.lst ((dep tr).map nV))]
def treL (K : PySem.W.Frag) (t : Addr) (tr : List Nat) : SP := ex fun dx : Addr => ex fun o : Addr => ex fun p : Addr => ex fun l : Addr => sep [pr (TreeOk tr (dep tr)), LeapTree_o K t dx o p l, pt o (.lst (osV tr)), pt p (.lst ((dep tr).map nV)), lpp tr l]
def tre (K : PySem.W.Frag) (b : Bool) (t : Addr) (tr : List Nat) : SP := match b with
  | true => treL K t tr
  | false => treM K t tr
theorem treM_iff : Star H (treM K t tr :: F) ↔ ∃ dx o p, TreeOk tr (dep tr) ∧ Star H (MakeTree_o K t dx o p 0 :: pt o (.lst (osV tr)) :: pt p (.lst ((dep tr).map nV)) :: F) := by
  unfold treM
  simp only [Star.ex_iff, Star.sep_iff, List.cons_append, List.nil_append, Star.pr_iff]
theorem treL_iff : Star H (treL K t tr :: F) ↔ ∃ dx o p l, TreeOk tr (dep tr) ∧ Star H (LeapTree_o K t dx o p l :: pt o (.lst (osV tr)) :: pt p (.lst ((dep tr).map nV)) :: lpp tr l :: F) := by
  unfold treL
  simp only [Star.ex_iff, Star.sep_iff, List.cons_append, List.nil_append, Star.pr_iff]
theorem tre_ok (S : Star H (tre K b t tr :: F)) : TreeOk tr (dep tr) := by
  cases b with
  | true =>
    obtain ⟨_, _, _, _, h, _⟩ := treL_iff.mp S
    exact h
  | false =>
    obtain ⟨_, _, _, h, _⟩ := treM_iff.mp S
    exact h
abbrev isOwn (m : Str) : Prop := m ≠ "owners" ∧ m ≠ "depths" ∧ m ≠ "leaping"
theorem look2 {m : Str} {v u : V} (h : isOwn m) : List.lookup m [("owners", v), ("depths", u)] = none := by
  have h1 : (m == ("owners" : Str)) = false := beq_eq_false_iff_ne.mpr h.1
  have h2 : (m == ("depths" : Str)) = false := beq_eq_false_iff_ne.mpr h.2.1
  simp [List.lookup, h1, h2]
theorem look3 {m : Str} {v u x : V} (h : isOwn m) : List.lookup m [("owners", v), ("depths", u), ("leaping", x)] = none := by
  have h1 : (m == ("owners" : Str)) = false := beq_eq_false_iff_ne.mpr h.1
  have h2 : (m == ("depths" : Str)) = false := beq_eq_false_iff_ne.mpr h.2.1
  have h3 : (m == ("leaping" : Str)) = false := beq_eq_false_iff_ne.mpr h.2.2
  simp [List.lookup, h1, h2, h3]
theorem dsp_b {spM spL : Sp} {m : Str} {R : Sp → Prop} (S : Star H (tre K b t tr :: F)) (h : isOwn m) (q : R (bif b then spL else spM)) : dspX [(He.ga K "MakeTree", spM), (He.ga K "LeapTree", spL)] m (.ref t) H R := by
  cases b with
  | true =>
    obtain ⟨dx, o, p, l, _, S⟩ := treL_iff.mp S
    exact dsp_i S.get (List.mem_cons_of_mem _ List.mem_cons_self) (look3 h) q
  | false =>
    obtain ⟨dx, o, p, _, S⟩ := treM_iff.mp S
    exact dsp_i S.get List.mem_cons_self (look2 h) q
theorem treM_i (h : TreeOk tr (dep tr)) : Fr (MakeTree_o K t dx o p l :: pt o (.lst (osV tr)) :: pt p (.lst ((dep tr).map nV)) :: F) (tre K false t tr :: F) := fun H S => treM_iff.mpr ⟨dx, o, p, h, S⟩
theorem treL_i (h : TreeOk tr (dep tr)) : Fr (LeapTree_o K t dx o p l :: pt o (.lst (osV tr)) :: pt p (.lst ((dep tr).map nV)) :: lpp tr l :: F) (tre K true t tr :: F) := fun H S => treL_iff.mpr ⟨dx, o, p, l, h, S⟩
theorem LeapTree_grow_ok {m : Nat} (S : Star H (treL K t tr :: F)) (hm : m < tr.length + 1) (hz : tr.length + 1 < 64) (k : ∀ H', Star H' (tre K true t (tr ++ [m]) :: F) → Q (nV (tr.length + 1)) H') : sp_LeapTree_grow K [.ref t, nV m] H Q E := by
  obtain ⟨dx, o, p, l, h, S⟩ := treL_iff.mp S
  refine sp_LeapTree_grow_i ?_
  walk_at "go"
  refine LeapTree_need_ok S hm ?_
  walk_at "go"
  rw [osV_len]
  refine brd (fun hc => absurd hc (by omega)) (fun _ => ?_)
  walk_at "go"
  refine app_S S.p1 (by rw [osV_len]; omega) fun H1 S => ?_
  rw [osV_app] at S
  walk_at "go"
  refine LeapTree_lay_ok (S.fr (Fr.c1 (Fr.c1 (Fr.c1 (Fr.refl _))))) h hm (by omega) fun H1 S => ?_
  walk_at "go"
  have h2 := h.app (k := m) (by omega)
  rw [← dep_app] at h2
  rw [osV_len, List.length_append, List.length_singleton]
  have e : (((tr.length + 1 + 1 : Nat) : Int) - 1) = ((tr.length + 1 : Nat) : Int) := by omega
  rw [e]
  exact k _ ((S.fr (Fr.c0 (Fr.c2 (Fr.c0 (Fr.c0 (Fr.refl _)))))).fr (treL_i h2))
theorem LeapTree_full_ok {m : Nat} (S : Star H (treL K t tr :: F)) (hm : m < tr.length + 1) (hz : tr.length + 1 = 64) (k : ∀ H' d, Star H' (pt d (.xd [("count", .int 65)]) :: tre K true t tr :: F) → E (.ref (He.ga K "TooMany")) (some d) H') : sp_LeapTree_grow K [.ref t, nV m] H Q E := by
  obtain ⟨dx, o, p, l, h, S⟩ := treL_iff.mp S
  refine sp_LeapTree_grow_i ?_
  walk_at "go"
  refine LeapTree_need_ok S hm ?_
  walk_at "go"
  rw [osV_len]
  refine brd (fun _ => ?_) (fun hc => absurd (by omega) hc)
  walk_at "go"
  refine nwx_S (fs' := [("count", .int 65)]) S fun d H1 S => ?_
  exact k _ _ (S.fr (Fr.c0 (treL_i h)))
theorem LeapTree_init_ok (S : Star H (pt t (.ins (He.ga K "LeapTree") dx []) :: F)) (k : ∀ H', Star H' (tre K true t [] :: F) → Q .non H') : sp_LeapTree_init K [.ref t] H Q E := by
  refine sp_LeapTree_init_i ?_
  walk_at "go"
  refine sp_LeapTree_MakeTree_init_i ?_
  walk_at "go"
  refine al_l S fun o H1 S => ?_
  walk_at "go"
  refine stf_S S.p1 List.mem_cons_self (by decide) fun H1 S => ?_
  walk_at "go"
  refine al_l S fun p H1 S => ?_
  walk_at "go"
  refine stf_S S.p1 List.mem_cons_self (by show 1 < 1000; decide) fun H1 S => ?_
  walk_at "go"
  refine al_l S fun e H1 S => ?_
  walk_at "go"
  refine al_l S fun l H1 S => ?_
  walk_at "go"
  refine stf_S S.p2 List.mem_cons_self (by show 2 < 1000; decide) fun H1 S => ?_
  walk_at "w"
  have S2 : Star H1 (pt l (.lst [.ref e]) :: dats [.ref e] [.list []] :: LeapTree_o K t dx o p l :: pt o (.lst (osV [])) :: pt p (.lst ((dep []).map nV)) :: F) := S.fr (Fr.c1 (Fr.dsc (Fr.lst (xs := []) (Fr.c1 (Fr.ds0 (Fr.ds0 (Fr.c0 (Fr.c1 (Fr.c0 (Fr.refl _))))))))))
  exact k _ (Star.fr (Star.fr (lpp_iff.mpr ⟨_, _, lp00, S2⟩) (Fr.c1 (Fr.c1 (Fr.c1 (Fr.c0 (Fr.refl _)))))) (treL_i tree0))
theorem LeapTree_copied_ok (S : Star H (tre K true t tr :: F)) (hz : tr.length < 1000) (k : ∀ H' u, Star H' (tre K true u tr :: tre K true t tr :: F) → Q (.ref u) H') : sp_LeapTree_copied K [.ref t] H Q E := by
  obtain ⟨dx, o, p, l, h, S⟩ := treL_iff.mp S
  refine sp_LeapTree_copied_i ?_
  walk_at "w"
  intro x dx1 hx hd hne
  refine LeapTree_init_ok (S.mkI hx hd hne) fun H1 S => ?_
  obtain ⟨dx2, o2, p2, l2, _, S⟩ := treL_iff.mp S
  walk_at "go"
  refine list_S S S.p5.get fun o3 H1 S => ?_
  walk_at "go"
  refine stf_S S.p1 List.mem_cons_self (by show 3 < 1000; decide) fun H1 S => ?_
  walk_at "go"
  refine list_S S S.p7.get fun p3 H1 S => ?_
  walk_at "go"
  refine stf_S S.p1 List.mem_cons_self (by show 3 < 1000; decide) fun H1 S => ?_
  have S2 : Star H1 (lpp tr l :: LeapTree_o K x dx2 o3 p3 l2 :: pt o3 (.lst (osV tr)) :: pt p3 (.lst ((dep tr).map nV)) :: LeapTree_o K t dx o p l :: pt o (.lst (osV tr)) :: pt p (.lst ((dep tr).map nV)) :: F) :=
    S.fr (Fr.trans (a := _) (b := _) (by walk_at "fr") (Fr.refl _))
  obtain ⟨lv, ld, hl, S⟩ := lpp_iff.mp S2
  have hlen : lv.length = ld.length := S.p1.dlen
  have hll := hl.len
  walk_at "go"
  refine it_l S.get ?_
  intro D hD
  refine lc_turns _ (fun x H Q q => q) walk_list (by omega) hD (fun i acc => dats acc (ld.take i) :: pt l (.lst lv) :: dats lv ld :: LeapTree_o K x dx2 o3 p3 l2 :: pt o3 (.lst (osV tr)) :: pt p3 (.lst ((dep tr).map nV)) :: LeapTree_o K t dx o p l :: pt o (.lst (osV tr)) :: pt p (.lst ((dep tr).map nV)) :: F)
    (dats_n.mpr ⟨rfl, S⟩) (fun i acc H1 S => .of S.p2.get) (fun x => rfl) ?_ ?_
  · intro i x H1 acc R hx hacc S kk
    obtain ⟨d, hd⟩ := get_of (i := i) (ds := ld) (by have := (List.getElem?_eq_some_iff.mp hx).1; omega)
    obtain ⟨v, hv, T⟩ := Star.take S.p3 hd
    have ev : v = x := by rw [hx] at hv; cases hv; rfl
    subst ev
    obtain ⟨n, rfl, hw⟩ := hl.at_ i d hd
    obtain ⟨ws, ews⟩ : ∃ ws, ws = lpD tr i n := ⟨_, rfl⟩
    rw [← ews] at hd T
    obtain ⟨g, xs, rfl, T1⟩ := dat_l.mp T
    walk_at "go"
    refine list_S T1 T1.get fun g2 H2 T => ?_
    refine kk _ _ ?_
    obtain ⟨e3, T3⟩ := ints_of T.p2
    subst e3
    have T4 : Star H2 (dat (.ref g) (.list (ws.map fun k => PyData.int (k : Nat))) :: hole lv ld i :: pt g2 (.lst (ws.map fun k => V.int (k : Nat))) :: pt D (.lst acc) :: dats acc (ld.take i) :: pt l (.lst lv) :: LeapTree_o K _ dx2 o3 p3 l2 :: pt o3 (.lst (osV tr)) :: pt p3 (.lst ((dep tr).map nV)) :: LeapTree_o K t dx o p l :: pt o (.lst (osV tr)) :: pt p (.lst ((dep tr).map nV)) :: F) :=
      T3.fr (Fr.lst (xs := ws.map fun k => V.int (k : Nat)) (Fr.c1 (Fr.ints (by walk_at "fr"))))
    have T5 := T4.back0 hv hd
    have e4 : ld.take (i + 1) = ld.take i ++ [.list (ws.map fun k => PyData.int (k : Nat))] := by rw [List.take_succ, hd]; rfl
    rw [e4]
    have T6 : Star H2 (dats acc (ld.take i) :: dat (.ref g2) (.list (ws.map fun k => PyData.int (k : Nat))) :: pt D (.lst acc) :: pt l (.lst lv) :: dats lv ld :: LeapTree_o K _ dx2 o3 p3 l2 :: pt o3 (.lst (osV tr)) :: pt p3 (.lst ((dep tr).map nV)) :: LeapTree_o K t dx o p l :: pt o (.lst (osV tr)) :: pt p (.lst ((dep tr).map nV)) :: F) :=
      T5.fr (Fr.c3 (Fr.lst (xs := ws.map fun k => V.int (k : Nat)) (Fr.c1 (Fr.ints (by walk_at "fr")))))
    exact T6.snoc.p1
  · intro H1 acc ha S
    rw [show ld.take lv.length = ld from by rw [hlen]; exact List.take_length] at S
    walk_at "go"
    refine stf_S S.p4 List.mem_cons_self (by show 3 < 1000; decide) fun H1 S => ?_
    walk_at "w"
    have S3 : Star H1 (pt D (.lst acc) :: dats acc ld :: pt l (.lst lv) :: dats lv ld :: LeapTree_o K x dx2 o3 p3 D :: pt o3 (.lst (osV tr)) :: pt p3 (.lst ((dep tr).map nV)) :: LeapTree_o K t dx o p l :: pt o (.lst (osV tr)) :: pt p (.lst ((dep tr).map nV)) :: F) := S.fr (Fr.c1 (Fr.c1 (Fr.c1 (Fr.c1 (by walk_at "fr")))))
    have S4 := lpp_iff.mpr ⟨_, _, hl, S3⟩
    have S5 := lpp_iff.mpr ⟨_, _, hl, S4.p2.p2⟩
    have S6 : Star H1 (LeapTree_o K x dx2 o3 p3 D :: pt o3 (.lst (osV tr)) :: pt p3 (.lst ((dep tr).map nV)) :: lpp tr D :: LeapTree_o K t dx o p l :: pt o (.lst (osV tr)) :: pt p (.lst ((dep tr).map nV)) :: lpp tr l :: F) := S5.fr (by walk_at "fr")
    exact k _ _ ((S6.fr (treL_i h)).fr (Fr.c0 (treL_i h)))
theorem idx_S {xs : List Nat} {f : Addr} {x j : Nat} (S : Star H (pt f (.lst (xs.map nV)) :: F)) (hj : xs[j]? = some x) (hn : ∀ i, i < j → xs[i]? ≠ some x) (q : Q (.int (j : Nat)) H) : opIdx K (.ref f) [nV x] H Q := by
  unfold opIdx rIndex
  refine ⟨f, xs.map nV, nV x, j, nV x, rfl, rfl, .of S.get, rfl, ?_, by rw [List.getElem?_map, hj]; rfl, ?_, ?_, q⟩
  · rw [List.all_map]
    exact List.all_eq_true.mpr fun y _ => rfl
  · show decide _ = true
    exact decide_eq_true rfl
  · intro i z' hi e
    rw [List.getElem?_map] at e
    obtain ⟨y, hy, rfl⟩ := Option.map_eq_some_iff.mp e
    have : y ≠ x := fun e2 => hn i hi (by rw [hy, e2])
    show decide _ = false
    refine decide_eq_false fun e3 => this ?_
    have e4 : (y : Int) = (x : Int) := by
      first
        | exact e3
        | (injection e3)
    omega
theorem ni_ints {xs : List Nat} (hz : xs.length ≤ 1000) (hx : ∀ x ∈ xs, x ≤ 1000) : Ni 1 2000 (.list (xs.map fun k => .int (k : Nat))) := by
  refine ni_l (n := 0) (m := 0) (fun d hd => ?_) (by decide) (by rw [List.length_map]; omega)
  obtain ⟨x, h1, rfl⟩ := List.mem_map.mp hd
  have := hx x h1
  exact ni_i (by omega)
theorem repr_ints {xs : List Nat} {f : Addr} (S : Star H (pt f (.lst (xs.map nV)) :: F)) (hz : xs.length ≤ 1000) (hx : ∀ x ∈ xs, x ≤ 1000) (q : Q (.str (PyData.list (xs.map fun k => .int (k : Nat))).shown) H) : reprX K (.ref f) H Q := by
  have Sa : Star H (dat (.ref f) (.list (xs.map fun k => .int (k : Nat))) :: []) := S.fr (Fr.lst (xs := xs.map nV) (Fr.c0 (Fr.ints (Fr.nil _))))
  exact repr_D Sa (ni_ints hz hx).rep q
theorem repr_n {n : Nat} (S : Star H F) (hz : n ≤ 100000) (q : Q (.str (PyData.int (n : Nat)).shown) H) : reprX K (nV n) H Q := repr_D (dat_i.mpr ⟨rfl, S⟩) (Ni.rep (n := 0) (m := 0) (ni_i (by omega))) q
theorem line_first {m j : Nat} (h : TreeOk tr (dep tr)) (hm : m < tr.length + 1) (hj : j ≤ dp tr m) : ∀ i, i < j → (lineN tr m)[i]? ≠ some (lv tr m j) := by
  intro i hi e
  rw [lineN_lv (by omega)] at e
  have e2 : lv tr m i = lv tr m j := Option.some.inj e
  have h1 := lv_dp h hm (show i ≤ dp tr m by omega)
  have h2 := lv_dp h hm hj
  rw [e2] at h1
  omega
end
end Lawk44

namespace Lawk44
open PySem PySem.Spec PyProof.Rows L2 MK
section
variable {K : PySem.W.Frag} {W : WX} {D : Ends} {F : List SP} {H : Hp} {Q : VK} {E : XK} {t dx o p l q a s : Addr} {tr dl : List Nat} {b : Bool}
def own (o : Addr) : SP := ex fun tr : List Nat => sep [pr (TreeOk tr (dep tr) ∧ tr.length ≤ 63), pt o (.lst (osV tr))]
theorem own_iff : Star H (own o :: F) ↔ ∃ tr, (TreeOk tr (dep tr) ∧ tr.length ≤ 63) ∧ Star H (pt o (.lst (osV tr)) :: F) := by
  unfold own
  simp only [Star.ex_iff, Star.sep_iff, List.cons_append, List.nil_append, Star.pr_iff]
theorem own_push {m : Nat} (h : TreeOk tr (dep tr)) (hz : tr.length ≤ 62) (hm : m < tr.length + 1) (S : Star H (pt o (.lst (osV tr ++ [nV m])) :: F)) : Star H (own o :: F) := by
  rw [osV_app] at S
  have h2 := h.app (k := m) (by omega)
  rw [← dep_app] at h2
  exact own_iff.mpr ⟨tr ++ [m], ⟨h2, by rw [List.length_append, List.length_singleton]; omega⟩, S⟩
end
end Lawk44

namespace Lawk44
open PySem PySem.Spec PyProof.Rows L2 MK
section
variable {K : PySem.W.Frag} {G : List SP} {H : Hp} {Q : VK} {D : Addr} {σ : L2.St} {g : TG} {te : TE} {vs : List Nat}
/-- [f(lo + j) for j in range(n)], each element worked out in one and the same state -/
theorem lc_rng {n lo : Nat} (gx : V → L2.St) (f : Nat → V) (S : Star H G) (hz : n ≤ 16777216) (hD : H D = none) (hg : ∀ x H Q, Q (gx x) H → g x (wipe σ vs) H Q) (hw : ∀ x, wipe (gx x) vs = wipe σ vs)
    (he : ∀ (j : Nat) H (acc : List V) (R : VK), j < n → Star H (pt D (.lst acc) :: G) → (∀ H', Star H' (pt D (.lst acc) :: G) → R (f j) H') → te (gx (.int ((lo + j : Nat) : Int))) H R)
    (q : ∀ H1, Star H1 (pt D (.lst ((List.range n).map f)) :: G) → Q (.ref D) H1) : LoopC (Itr ((lo : Nat) : Int) n) g tYes te vs σ D H Q := by
  refine lc_turns gx hg walk_rng (by rw [List.length_map, List.length_range]; omega) hD (fun i acc => pr (acc = (List.range i).map f) :: G) (Star.pr_iff.mpr ⟨rfl, S⟩) (fun _ _ _ _ => True.intro) hw ?_ ?_
  · intro i x H1 acc R hx ha S kk
    have S1 : Star H1 (pr (acc = (List.range i).map f) :: pt D (.lst acc) :: G) := S.fr (Fr.c1 (Fr.c0 (Fr.refl _)))
    obtain ⟨e, S1⟩ := Star.pr_iff.mp S1
    have hi := (List.getElem?_eq_some_iff.mp hx).1
    rw [List.length_map, List.length_range] at hi
    rw [List.getElem?_map, List.getElem?_range hi] at hx
    have ex : x = .int ((lo + i : Nat) : Int) := by
      have := Option.some.inj hx
      rw [← this, Int.natCast_add]
    subst ex
    refine he i H1 acc R hi S1 fun H2 S2 => kk _ _ ?_
    have S3 : Star H2 (pr (acc ++ [f i] = (List.range (i + 1)).map f) :: pt D (.lst acc) :: G) := Star.pr_iff.mpr ⟨by rw [e, List.range_succ, List.map_append]; rfl, S2⟩
    exact S3.fr (Fr.c1 (Fr.c0 (Fr.refl _)))
  · intro H1 acc ha S
    rw [List.length_map, List.length_range] at S
    have S1 : Star H1 (pr (acc = (List.range n).map f) :: pt D (.lst acc) :: G) := S.fr (Fr.c1 (Fr.c0 (Fr.refl _)))
    obtain ⟨e, S1⟩ := Star.pr_iff.mp S1
    rw [e] at S1
    exact q H1 S1
end
end Lawk44
namespace Lawk44
open PySem PySem.Spec PyProof.Rows L2 MK
section
variable {K : PySem.W.Frag} {H : Hp} {Q : VK} {D : Addr} {σ : L2.St} {g : TG} {te : TE} {vs : List Nat}
/-- [f(lo + j) for j in range(n)], the state going on with each element -/
theorem lc_rngS {n lo : Nat} (gx : V → L2.St) (f : Nat → V) (G : Nat → List SP) (S : Star H (G 0)) (hz : n ≤ 16777216) (hD : H D = none) (hg : ∀ x H Q, Q (gx x) H → g x (wipe σ vs) H Q) (hw : ∀ x, wipe (gx x) vs = wipe σ vs)
    (he : ∀ (j : Nat) H (acc : List V) (R : VK), j < n → Star H (pt D (.lst acc) :: G j) → (∀ H', Star H' (pt D (.lst acc) :: G (j + 1)) → R (f j) H') → te (gx (.int ((lo + j : Nat) : Int))) H R)
    (q : ∀ H1, Star H1 (pt D (.lst ((List.range n).map f)) :: G n) → Q (.ref D) H1) : LoopC (Itr ((lo : Nat) : Int) n) g tYes te vs σ D H Q := by
  refine lc_turns gx hg walk_rng (by rw [List.length_map, List.length_range]; omega) hD (fun i acc => pr (acc = (List.range i).map f) :: G i) (Star.pr_iff.mpr ⟨rfl, S⟩) (fun _ _ _ _ => True.intro) hw ?_ ?_
  · intro i x H1 acc R hx ha S kk
    have S1 : Star H1 (pr (acc = (List.range i).map f) :: pt D (.lst acc) :: G i) := S.fr (Fr.c1 (Fr.c0 (Fr.refl _)))
    obtain ⟨e, S1⟩ := Star.pr_iff.mp S1
    have hi := (List.getElem?_eq_some_iff.mp hx).1
    rw [List.length_map, List.length_range] at hi
    rw [List.getElem?_map, List.getElem?_range hi] at hx
    have ex : x = .int ((lo + i : Nat) : Int) := by
      have := Option.some.inj hx
      rw [← this, Int.natCast_add]
    subst ex
    refine he i H1 acc R hi S1 fun H2 S2 => kk _ _ ?_
    have S3 : Star H2 (pr (acc ++ [f i] = (List.range (i + 1)).map f) :: pt D (.lst acc) :: G (i + 1)) := Star.pr_iff.mpr ⟨by rw [e, List.range_succ, List.map_append]; rfl, S2⟩
    exact S3.fr (Fr.c1 (Fr.c0 (Fr.refl _)))
  · intro H1 acc ha S
    rw [List.length_map, List.length_range] at S
    have S1 : Star H1 (pr (acc = (List.range n).map f) :: pt D (.lst acc) :: G n) := S.fr (Fr.c1 (Fr.c0 (Fr.refl _)))
    obtain ⟨e, S1⟩ := Star.pr_iff.mp S1
    rw [e] at S1
    exact q H1 S1
end
end Lawk44

namespace Lawk44
open PySem PySem.Spec PyProof.Rows L2 MK
/-! the law's model of a row -/
def wrV (wr : List (Nat × Int)) : List V := .non :: wr.map fun p => nV p.1
def woV (wr : List (Nat × Int)) : List V := .non :: wr.map fun p => .int p.2
def bigI : Int := 1000000000000000000000000000000
structure RowOk (ws : List Int) (tr : List Nat) (wr : List (Nat × Int)) : Prop where
  tree : TreeOk tr (dep tr)
  len : wr.length = tr.length
  few : tr.length ≤ 63
  pl : ∀ p ∈ wr, p.1 < ws.length
  ne : 1 ≤ ws.length
  le : ws.length ≤ 16
  w0 : ∀ z ∈ ws, -bigI < z ∧ z < bigI
  w1 : ∀ p ∈ wr, -bigI < p.2 ∧ p.2 < bigI
/-- the make that wrote a place, up from a make -/
def wofF (tr : List Nat) (wr : List (Nat × Int)) (p : Nat) : Nat → Nat → Nat
  | 0, m => m
  | f + 1, m => if m = 0 then 0 else if (wr.getD (m - 1) (0, 0)).1 = p then m else wofF tr wr p f (up1 tr m)
def wof (tr : List Nat) (wr : List (Nat × Int)) (p m : Nat) : Nat := wofF tr wr p m m
def vlW (ws : List Int) (wr : List (Nat × Int)) (p k : Nat) : Int := if k = 0 then ws.getD p 0 else (wr.getD (k - 1) (0, 0)).2
def vl (ws : List Int) (tr : List Nat) (wr : List (Nat × Int)) (m p : Nat) : Int := vlW ws wr p (wof tr wr p m)
def lineV (ws : List Int) (tr : List Nat) (wr : List (Nat × Int)) (m : Nat) : List Int := (List.range ws.length).map (vl ws tr wr m)
section
variable {ws : List Int} {tr : List Nat} {wr : List (Nat × Int)} {m p : Nat}
theorem wofF_fuel (h : TreeOk tr (dep tr)) : ∀ (m f g : Nat), m < tr.length + 1 → m ≤ f → m ≤ g → wofF tr wr p f m = wofF tr wr p g m := by
  intro m
  induction m using Nat.strongRecOn with
  | ind m ih =>
    intro f g hm hf hg
    match f, g, hf, hg with
    | 0, 0, _, _ => rfl
    | 0, g + 1, hf, _ =>
      have : m = 0 := by omega
      subst this
      rfl
    | f + 1, 0, _, hg =>
      have : m = 0 := by omega
      subst this
      rfl
    | f + 1, g + 1, hf, hg =>
      show (if m = 0 then 0 else if _ then m else wofF tr wr p f (up1 tr m)) = (if m = 0 then 0 else if _ then m else wofF tr wr p g (up1 tr m))
      by_cases h0 : m = 0
      · rw [if_pos h0, if_pos h0]
      · rw [if_neg h0, if_neg h0]
        split
        · rfl
        · have hu := up1_lt h hm (by omega)
          exact ih _ hu f g (by omega) (by omega) (by omega)
theorem wof_zero : wof tr wr p 0 = 0 := rfl
theorem wof_here (h0 : 0 < m) (e : (wr.getD (m - 1) (0, 0)).1 = p) : wof tr wr p m = m := by
  obtain ⟨k, rfl⟩ : ∃ k, m = k + 1 := ⟨m - 1, by omega⟩
  show (if k + 1 = 0 then 0 else if _ then k + 1 else _) = _
  rw [if_neg (by omega), if_pos e]
theorem wof_up (h : TreeOk tr (dep tr)) (hm : m < tr.length + 1) (h0 : 0 < m) (e : (wr.getD (m - 1) (0, 0)).1 ≠ p) : wof tr wr p m = wof tr wr p (up1 tr m) := by
  obtain ⟨k, rfl⟩ : ∃ k, m = k + 1 := ⟨m - 1, by omega⟩
  have hu := up1_lt h hm h0
  show (if k + 1 = 0 then 0 else if _ then k + 1 else wofF tr wr p k (up1 tr (k + 1))) = _
  rw [if_neg (by omega), if_neg e]
  exact wofF_fuel h _ _ _ (by omega) (by omega) (Nat.le_refl _)
theorem wof_le (h : TreeOk tr (dep tr)) : ∀ m, m < tr.length + 1 → wof tr wr p m ≤ m := by
  intro m
  induction m using Nat.strongRecOn with
  | ind m ih =>
    intro hm
    by_cases h0 : m = 0
    · subst h0
      exact Nat.le_refl _
    · by_cases e : (wr.getD (m - 1) (0, 0)).1 = p
      · rw [wof_here (by omega) e]
        exact Nat.le_refl _
      · have hu := up1_lt h hm (by omega)
        rw [wof_up h hm (by omega) e]
        have := ih _ hu (by omega)
        omega
theorem wof_wrote (h : TreeOk tr (dep tr)) : ∀ m, m < tr.length + 1 → 0 < wof tr wr p m → (wr.getD (wof tr wr p m - 1) (0, 0)).1 = p := by
  intro m
  induction m using Nat.strongRecOn with
  | ind m ih =>
    intro hm hw
    by_cases h0 : m = 0
    · subst h0
      exact absurd hw (by rw [wof_zero]; omega)
    · by_cases e : (wr.getD (m - 1) (0, 0)).1 = p
      · rw [wof_here (by omega) e]
        exact e
      · have hu := up1_lt h hm (by omega)
        rw [wof_up h hm (by omega) e] at hw ⊢
        exact ih _ hu (by omega) hw
theorem wrV_at (hl : wr.length = tr.length) (hm : m < tr.length + 1) (h0 : 0 < m) : (wrV wr)[m]? = some (nV (wr.getD (m - 1) (0, 0)).1) := by
  obtain ⟨k, rfl⟩ : ∃ k, m = k + 1 := ⟨m - 1, by omega⟩
  unfold wrV
  rw [List.getElem?_cons_succ, List.getElem?_map, List.getElem?_eq_getElem (by omega), Nat.add_sub_cancel]
  simp [List.getD, List.getElem?_eq_getElem (show k < wr.length by omega)]
theorem woV_at (hl : wr.length = tr.length) (hm : m < tr.length + 1) (h0 : 0 < m) : (woV wr)[m]? = some (.int (wr.getD (m - 1) (0, 0)).2) := by
  obtain ⟨k, rfl⟩ : ∃ k, m = k + 1 := ⟨m - 1, by omega⟩
  unfold woV
  rw [List.getElem?_cons_succ, List.getElem?_map, List.getElem?_eq_getElem (by omega), Nat.add_sub_cancel]
  simp [List.getD, List.getElem?_eq_getElem (show k < wr.length by omega)]
theorem wsV_at (hp : p < ws.length) : (ws.map V.int)[p]? = some (.int (ws.getD p 0)) := by
  rw [List.getElem?_map, List.getElem?_eq_getElem hp]
  simp [List.getD, List.getElem?_eq_getElem hp]
end
def mdK (f o w x g : Addr) : List (Key × V) := [(.inr "first", .ref f), (.inr "own", .ref o), (.inr "wrote", .ref w), (.inr "worth", .ref x), (.inr "gone", .ref g)]
abbrev MD (q f o w x g : Addr) (ws : List Int) (tr : List Nat) (wr : List (Nat × Int)) (gn : List Bool) (F : List SP) : List SP :=
  pt q (.dK (mdK f o w x g)) :: pt f (.lst (ws.map V.int)) :: pt o (.lst (osV tr)) :: pt w (.lst (wrV wr)) :: pt x (.lst (woV wr)) :: pt g (.lst (gn.map V.bl)) :: F
section
variable {K : PySem.W.Frag} {F : List SP} {H : Hp} {Q : VK} {E : XK} {q f o w x g : Addr} {ws : List Int} {tr : List Nat} {wr : List (Nat × Int)} {gn : List Bool} {m p n : Nat}
theorem md_f : valV (mdK f o w x g) (.inr "first") = some (.ref f) := rfl
theorem md_o : valV (mdK f o w x g) (.inr "own") = some (.ref o) := rfl
theorem md_w : valV (mdK f o w x g) (.inr "wrote") = some (.ref w) := rfl
theorem md_x : valV (mdK f o w x g) (.inr "worth") = some (.ref x) := rfl
theorem md_g : valV (mdK f o w x g) (.inr "gone") = some (.ref g) := rfl
end
end Lawk44

namespace Lawk44
open PySem PySem.Spec PyProof.Rows L2 MK
/-! a row in all its makes, in plain Lean -/
def keepB (gn : List Bool) (i : Nat) : Bool := !gn.getD i true
def keptN (gn : List Bool) : List Nat := (List.range gn.length).filter (keepB gn)
structure RS where
  ws : List Int
  tr : List Nat
  wr : List (Nat × Int)
  gn : List Bool
structure RSok (s : RS) : Prop where
  row : RowOk s.ws s.tr s.wr
  len : s.gn.length = s.tr.length + 1
  one : 0 < (keptN s.gn).length
def RS.put (s : RS) (m p : Nat) (z : Int) : RS := ⟨s.ws, s.tr ++ [m], s.wr ++ [(p, z)], s.gn ++ [false]⟩
def RS.go (s : RS) (m : Nat) : RS := ⟨s.ws, s.tr, s.wr, s.gn.set m true⟩
def RS.zero (ws : List Int) : RS := ⟨ws, [], [], [false]⟩
def RS.w (s : RS) (m p : Nat) : Nat := wof s.tr s.wr p m
def RS.v (s : RS) (m p : Nat) : Int := vl s.ws s.tr s.wr m p
def RS.line (s : RS) (m : Nat) : List Int := lineV s.ws s.tr s.wr m
def RS.st (s : RS) (m lo hi : Nat) : List Int := (List.range (hi - lo)).map fun j => s.v m (lo + j)
section
variable {ws : List Int} {tr : List Nat} {wr : List (Nat × Int)} {gn : List Bool} {m n p i lo hi : Nat} {z : Int} {s : RS}
theorem nd_len : ∀ {n : Nat} {l : List Nat}, l.Nodup → (∀ x ∈ l, x < n) → l.length ≤ n := by
  intro n
  induction n with
  | zero =>
    intro l _ h
    cases l with
    | nil => exact Nat.le_refl _
    | cons x l => exact absurd (h x List.mem_cons_self) (by omega)
  | succ n ih =>
    intro l hn h
    have h1 := ih (l := l.erase n) (hn.erase n) fun x hx => by
      have h2 := hn.mem_erase_iff.mp hx
      have := h x h2.2
      have := h2.1
      omega
    have h3 : l.length ≤ (l.erase n).length + 1 := by
      rw [List.length_erase]
      split <;> omega
    omega
theorem mem_kept : m ∈ keptN gn ↔ m < gn.length ∧ gn.getD m true = false := by
  unfold keptN keepB
  rw [List.mem_filter, List.mem_range]
  cases gn.getD m true <;> simp
theorem kept_nd : (keptN gn).Nodup := List.nodup_range.filter _
theorem kept_len : (keptN gn).length ≤ gn.length := Nat.le_trans (List.length_filter_le _ _) (by rw [List.length_range]; exact Nat.le_refl _)
theorem kept_app : keptN (gn ++ [false]) = keptN gn ++ [gn.length] := by
  unfold keptN
  rw [List.length_append, show [false].length = 1 from rfl, List.range_succ, List.filter_append]
  congr 1
  · refine List.filter_congr fun i hi => ?_
    have := List.mem_range.mp hi
    unfold keepB
    rw [List.getD_eq_getElem?_getD, List.getElem?_append_left this, List.getD_eq_getElem?_getD]
  · refine List.filter_cons_of_pos ?_
    unfold keepB
    simp
theorem kept_set : keptN (gn.set m true) = (keptN gn).filter fun i => decide (i ≠ m) := by
  unfold keptN
  rw [List.length_set, List.filter_filter]
  refine List.filter_congr fun i hi => ?_
  have := List.mem_range.mp hi
  unfold keepB
  by_cases e : i = m
  · subst e
    simp [this]
  · simp [List.getElem?_set_ne (Ne.symm e), e]
theorem RowOk.app (h : RowOk ws tr wr) (hm : m < tr.length + 1) (hp : p < ws.length) (hz : -bigI < z ∧ z < bigI) (hf : tr.length < 63) : RowOk ws (tr ++ [m]) (wr ++ [(p, z)]) := by
  refine ⟨?_, by rw [List.length_append, List.length_append, h.len]; rfl, by rw [List.length_append]; show tr.length + 1 ≤ 63; omega, fun x hx => ?_, h.ne, h.le, h.w0, fun x hx => ?_⟩
  · rw [dep_app]
    exact h.tree.app (by omega)
  · rcases List.mem_append.mp hx with z | z
    · exact h.pl x z
    · rw [List.mem_singleton.mp z]
      exact hp
  · rcases List.mem_append.mp hx with z | z
    · exact h.w1 x z
    · rw [List.mem_singleton.mp z]
      exact hz
theorem wof_app (h : RowOk ws tr wr) (hn : n < tr.length + 1) (hp : p < ws.length) (hz : -bigI < z ∧ z < bigI) (hf : tr.length < 63) {p' : Nat} : ∀ m, m < tr.length + 1 → wof (tr ++ [n]) (wr ++ [(p, z)]) p' m = wof tr wr p' m := by
  have h2 := h.app hn hp hz hf
  intro m
  induction m using Nat.strongRecOn with
  | ind m ih =>
    intro hm
    have hl := h.len
    by_cases h0 : m = 0
    · subst h0
      rfl
    · have e1 : (wr ++ [(p, z)]).getD (m - 1) (0, 0) = wr.getD (m - 1) (0, 0) := by
        simp [List.getD, List.getElem?_append_left (show m - 1 < wr.length by omega)]
      by_cases e : (wr.getD (m - 1) (0, 0)).1 = p'
      · rw [wof_here (by omega) e, wof_here (by omega) (by rw [e1]; exact e)]
      · have hu := up1_lt h.tree hm (by omega)
        rw [wof_up h.tree hm (by omega) e, wof_up h2.tree (by rw [List.length_append]; show m < tr.length + 1 + 1; omega) (by omega) (by rw [e1]; exact e), up1_app hm]
        exact ih _ hu (by omega)
theorem wof_new (h : RowOk ws tr wr) (hn : n < tr.length + 1) (hp : p < ws.length) (hz : -bigI < z ∧ z < bigI) (hf : tr.length < 63) (p' : Nat) : wof (tr ++ [n]) (wr ++ [(p, z)]) p' (tr.length + 1) = if p' = p then tr.length + 1 else wof tr wr p' n := by
  have h2 := h.app hn hp hz hf
  have hl := h.len
  have lt1 : (tr ++ [n]).length = tr.length + 1 := by rw [List.length_append]; rfl
  have e1 : (wr ++ [(p, z)]).getD (tr.length + 1 - 1) (0, 0) = (p, z) := by
    rw [Nat.add_sub_cancel, ← hl]
    simp
  by_cases e2 : p' = p
  · subst e2
    rw [if_pos rfl, wof_here (by omega) (by rw [e1])]
  · rw [if_neg e2, wof_up h2.tree (by rw [lt1]; omega) (by omega) (by rw [e1]; exact fun z => e2 z.symm), up1_new, wof_app h hn hp hz hf n hn]
theorem vl_big (h : RowOk ws tr wr) (hm : m < tr.length + 1) (hp : p < ws.length) : -bigI < vl ws tr wr m p ∧ vl ws tr wr m p < bigI := by
  have hw := wof_le (wr := wr) (p := p) h.tree m hm
  unfold vl vlW
  have hl := h.len
  split
  · rw [List.getD_eq_getElem?_getD, List.getElem?_eq_getElem hp]
    exact h.w0 _ (List.getElem_mem hp)
  · have hi : wof tr wr p m - 1 < wr.length := by omega
    rw [List.getD_eq_getElem?_getD, List.getElem?_eq_getElem hi]
    exact h.w1 _ (List.getElem_mem hi)
theorem vlW_app (h : RowOk ws tr wr) {k : Nat} {x : Nat × Int} (hk : k < tr.length + 1) : vlW ws (wr ++ [x]) p k = vlW ws wr p k := by
  have hl := h.len
  unfold vlW
  by_cases e : k = 0
  · rw [if_pos e, if_pos e]
  · rw [if_neg e, if_neg e]
    simp [List.getD, List.getElem?_append_left (show k - 1 < wr.length by omega)]
/-- what is known of a row -/
theorem RSok.lt (h : RSok s) (hm : m ∈ keptN s.gn) : m < s.tr.length + 1 := by
  rw [← h.len]
  exact (mem_kept.mp hm).1
theorem RSok.no (hm : m ∈ keptN s.gn) : s.gn.getD m true = false := (mem_kept.mp hm).2
theorem RSok.wle (h : RSok s) (hm : m < s.tr.length + 1) : s.w m p ≤ m := wof_le h.row.tree m hm
theorem RSok.vbig (h : RSok s) (hm : m < s.tr.length + 1) (hp : p < s.ws.length) : -bigI < s.v m p ∧ s.v m p < bigI := vl_big h.row hm hp
theorem RSok.line_big (h : RSok s) (hm : m < s.tr.length + 1) : ∀ z ∈ s.line m, -bigI < z ∧ z < bigI := fun z hz => by
  obtain ⟨i, hi, rfl⟩ := List.mem_map.mp hz
  exact vl_big h.row hm (List.mem_range.mp hi)
theorem RS.line_len : (s.line m).length = s.ws.length := by
  unfold RS.line lineV
  rw [List.length_map, List.length_range]
theorem RS.st_len : (s.st m lo hi).length = hi - lo := by
  unfold RS.st
  rw [List.length_map, List.length_range]
theorem RS.st_all : s.st m 0 s.ws.length = s.line m := by
  unfold RS.st RS.line lineV
  refine List.map_congr_left fun j _ => ?_
  rw [Nat.zero_add]
  rfl
theorem RS.st_one : s.st m p (p + 1) = [s.v m p] := by
  unfold RS.st
  rw [Nat.add_sub_cancel_left]
  rfl
theorem RS.line_at (hp : p < s.ws.length) : (s.line m)[p]? = some (s.v m p) := by
  unfold RS.line lineV
  rw [List.getElem?_map, List.getElem?_range hp]
  rfl
theorem RS.st_cut (hh : hi ≤ s.ws.length) : s.st m lo hi = ((s.line m).drop lo).take (hi - lo) := by
  refine List.ext_getElem? fun j => ?_
  rw [List.getElem?_take]
  by_cases hj : j < hi - lo
  · rw [if_pos hj, List.getElem?_drop, RS.line_at (by omega)]
    unfold RS.st
    rw [List.getElem?_map, List.getElem?_range hj]
    rfl
  · rw [if_neg hj]
    exact List.getElem?_eq_none (by rw [RS.st_len]; omega)
theorem RSok.st_big (h : RSok s) (hm : m < s.tr.length + 1) (hh : hi ≤ s.ws.length) : ∀ z ∈ s.st m lo hi, -bigI < z ∧ z < bigI := fun z hz => by
  obtain ⟨i, hi, rfl⟩ := List.mem_map.mp hz
  have := List.mem_range.mp hi
  exact vl_big h.row hm (by omega)
theorem RSok.put (h : RSok s) (hm : m < s.tr.length + 1) (hp : p < s.ws.length) (hz : -bigI < z ∧ z < bigI) (hf : s.tr.length < 63) : RSok (s.put m p z) := by
  refine ⟨h.row.app hm hp hz hf, ?_, ?_⟩
  · show (s.gn ++ [false]).length = (s.tr ++ [m]).length + 1
    rw [List.length_append, List.length_append, h.len]
    rfl
  · show 0 < (keptN (s.gn ++ [false])).length
    rw [kept_app, List.length_append]
    show 0 < _ + 1
    omega
theorem RS.kept_put : keptN (s.put m p z).gn = keptN s.gn ++ [s.gn.length] := kept_app
theorem RS.kept_go : keptN (s.go m).gn = (keptN s.gn).filter fun i => decide (i ≠ m) := kept_set
theorem kept_more (hm : m ∈ keptN gn) : (keptN (gn.set m true)).length + 1 = (keptN gn).length := by
  have h1 := (kept_nd (gn := gn)).erase_eq_filter m
  have h2 : (fun i => decide (i ≠ m)) = (fun i => i != m) := by
    funext i
    simp [bne]
    rfl
  rw [kept_set, h2, ← h1, List.length_erase_of_mem hm]
  have := List.length_pos_of_mem hm
  omega
theorem RSok.go (h : RSok s) (hm : m ∈ keptN s.gn) (h1 : 1 < (keptN s.gn).length) : RSok (s.go m) := by
  refine ⟨h.row, ?_, ?_⟩
  · show (s.gn.set m true).length = _
    rw [List.length_set]
    exact h.len
  · have := kept_more hm
    show 0 < (keptN (s.gn.set m true)).length
    omega
theorem RSok.zero (h1 : 1 ≤ ws.length) (h2 : ws.length ≤ 16) (h3 : ∀ z ∈ ws, -bigI < z ∧ z < bigI) : RSok (RS.zero ws) :=
  ⟨⟨tree0, rfl, Nat.zero_le _, (fun p hp => absurd hp List.not_mem_nil), h1, h2, h3, (fun p hp => absurd hp List.not_mem_nil)⟩, rfl, show 0 < (keptN [false]).length by decide⟩
theorem RSok.w_put (h : RSok s) (hm : m < s.tr.length + 1) (hp : p < s.ws.length) (hz : -bigI < z ∧ z < bigI) (hf : s.tr.length < 63) {q : Nat} (hn : n < s.tr.length + 1) : (s.put m p z).w n q = s.w n q := wof_app h.row hm hp hz hf n hn
theorem RSok.w_new (h : RSok s) (hm : m < s.tr.length + 1) (hp : p < s.ws.length) (hz : -bigI < z ∧ z < bigI) (hf : s.tr.length < 63) (q : Nat) : (s.put m p z).w (s.tr.length + 1) q = if q = p then s.tr.length + 1 else s.w m q := wof_new h.row hm hp hz hf q
theorem RSok.v_put (h : RSok s) (hm : m < s.tr.length + 1) (hp : p < s.ws.length) (hz : -bigI < z ∧ z < bigI) (hf : s.tr.length < 63) {q : Nat} (hn : n < s.tr.length + 1) : (s.put m p z).v n q = s.v n q := by
  have hw := wof_le (wr := s.wr) (p := q) h.row.tree n hn
  show vlW s.ws (s.wr ++ [(p, z)]) q (wof (s.tr ++ [m]) (s.wr ++ [(p, z)]) q n) = vlW s.ws s.wr q (wof s.tr s.wr q n)
  rw [wof_app h.row hm hp hz hf n hn, vlW_app h.row (by omega)]
theorem RSok.v_new (h : RSok s) (hm : m < s.tr.length + 1) (hp : p < s.ws.length) (hz : -bigI < z ∧ z < bigI) (hf : s.tr.length < 63) (q : Nat) : (s.put m p z).v (s.tr.length + 1) q = if q = p then z else s.v m q := by
  have hw := wof_le (wr := s.wr) (p := q) h.row.tree m hm
  have hl := h.row.len
  show vlW s.ws (s.wr ++ [(p, z)]) q (wof (s.tr ++ [m]) (s.wr ++ [(p, z)]) q (s.tr.length + 1)) = _
  rw [wof_new h.row hm hp hz hf]
  by_cases e : q = p
  · rw [if_pos e, if_pos e]
    unfold vlW
    rw [if_neg (by omega), Nat.add_sub_cancel, ← hl]
    simp
  · rw [if_neg e, if_neg e, vlW_app h.row (by omega)]
    rfl
theorem RSok.line_put (h : RSok s) (hm : m < s.tr.length + 1) (hp : p < s.ws.length) (hz : -bigI < z ∧ z < bigI) (hf : s.tr.length < 63) (hn : n < s.tr.length + 1) : (s.put m p z).line n = s.line n := by
  unfold RS.line lineV
  exact List.map_congr_left fun q _ => h.v_put hm hp hz hf hn
theorem RSok.line_new (h : RSok s) (hm : m < s.tr.length + 1) (hp : p < s.ws.length) (hz : -bigI < z ∧ z < bigI) (hf : s.tr.length < 63) : (s.put m p z).line (s.tr.length + 1) = (s.line m).set p z := by
  refine List.ext_getElem? fun q => ?_
  by_cases hq : q < s.ws.length
  · rw [RS.line_at (s := s.put m p z) (show q < s.ws.length from hq), h.v_new hm hp hz hf]
    by_cases e : q = p
    · subst e
      rw [if_pos rfl, List.getElem?_set_self (by rw [RS.line_len]; exact hq)]
    · rw [if_neg e, List.getElem?_set_ne (Ne.symm e), RS.line_at hq]
  · rw [List.getElem?_eq_none (by rw [RS.line_len]; exact Nat.le_of_not_lt hq), List.getElem?_eq_none (by rw [List.length_set, RS.line_len]; omega)]
end
/-! the writes that some kept make reads -/
def RS.nd (s : RS) (x : Nat × Nat) : Bool := decide (x.1 < s.ws.length) && (keptN s.gn).any fun m => decide (s.w m x.1 = x.2)
structure LOk (s : RS) (L : List (Nat × Nat)) : Prop where
  nd : L.Nodup
  mem : ∀ x, x ∈ L ↔ s.nd x = true
def L0 (n : Nat) : List (Nat × Nat) := (List.range n).map fun i => (i, 0)
section
variable {ws : List Int} {m n p i k lo hi : Nat} {z : Int} {s : RS} {L : List (Nat × Nat)}
theorem RS.nd_iff {x : Nat × Nat} : s.nd x = true ↔ x.1 < s.ws.length ∧ ∃ m, m ∈ keptN s.gn ∧ s.w m x.1 = x.2 := by
  unfold RS.nd
  rw [Bool.and_eq_true, decide_eq_true_iff, List.any_eq_true]
  refine and_congr Iff.rfl ⟨fun ⟨m, h1, h2⟩ => ⟨m, h1, of_decide_eq_true h2⟩, fun ⟨m, h1, h2⟩ => ⟨m, h1, decide_eq_true h2⟩⟩
theorem LOk.reads (h : LOk s L) (hm : m ∈ keptN s.gn) (hp : p < s.ws.length) : (p, s.w m p) ∈ L := (h.mem _).mpr (RS.nd_iff.mpr ⟨hp, m, hm, rfl⟩)
theorem LOk.lt (h : LOk s L) (o : RSok s) {x : Nat × Nat} (hx : x ∈ L) : x.1 < s.ws.length ∧ x.2 < s.tr.length + 1 := by
  obtain ⟨h1, m, h2, h3⟩ := RS.nd_iff.mp ((h.mem x).mp hx)
  have h4 := o.lt h2
  have := o.wle (p := x.1) h4
  exact ⟨h1, by omega⟩
theorem LOk.few (h : LOk s L) (o : RSok s) : L.length ≤ s.ws.length + s.tr.length := by
  have hf : ∀ x ∈ L, x.2 = 0 ∨ (0 < x.2 ∧ x.2 ≤ s.tr.length ∧ (s.wr.getD (x.2 - 1) (0, 0)).1 = x.1) := fun x hx => by
    obtain ⟨h1, m, h2, h3⟩ := RS.nd_iff.mp ((h.mem x).mp hx)
    have h4 := o.lt h2
    have h5 := o.wle (p := x.1) h4
    by_cases e : x.2 = 0
    · exact .inl e
    · refine .inr ⟨by omega, by omega, ?_⟩
      have h6 := wof_wrote (wr := s.wr) (p := x.1) o.row.tree m h4
      have h3' : wof s.tr s.wr x.1 m = x.2 := h3
      rw [h3'] at h6
      exact h6 (by omega)
  have h1 : (L.map fun x => if x.2 = 0 then x.1 else s.ws.length + x.2 - 1).Nodup := by
    refine List.pairwise_map.mpr (h.nd.imp_of_mem fun {a b} ha hb hne e => hne ?_)
    have la := (h.lt o ha).1
    have lb := (h.lt o hb).1
    rcases hf a ha with a0 | ⟨a0, _, aw⟩ <;> rcases hf b hb with b0 | ⟨b0, _, bw⟩
    · rw [if_pos a0, if_pos b0] at e
      exact Prod.ext e (a0.trans b0.symm)
    · rw [if_pos a0, if_neg (by omega)] at e
      omega
    · rw [if_neg (by omega), if_pos b0] at e
      omega
    · rw [if_neg (by omega), if_neg (by omega)] at e
      have e2 : a.2 = b.2 := by omega
      exact Prod.ext (by rw [← aw, ← bw, e2]) e2
  have h2 := nd_len (n := s.ws.length + s.tr.length) h1 fun y hy => by
    obtain ⟨x, hx, rfl⟩ := List.mem_map.mp hy
    have h3 := h.lt o hx
    split <;> omega
  rw [List.length_map] at h2
  exact h2
theorem LOk.put (h : LOk s L) (o : RSok s) (hm : m ∈ keptN s.gn) (hp : p < s.ws.length) (hz : -bigI < z ∧ z < bigI) (hf : s.tr.length < 63) : LOk (s.put m p z) (L ++ [(p, s.tr.length + 1)]) := by
  have hml := o.lt hm
  have hno : (p, s.tr.length + 1) ∉ L := fun q => by
    have := (h.lt o q).2
    omega
  refine ⟨List.nodup_append.mpr ⟨h.nd, by simp, fun a ha b hb e => ?_⟩, fun x => ?_⟩
  · rw [List.mem_singleton.mp hb] at e
    subst e
    exact hno ha
  · rw [List.mem_append, List.mem_singleton, h.mem, RS.nd_iff, RS.nd_iff, RS.kept_put]
    constructor
    · rintro (⟨h1, m', h2, h3⟩ | rfl)
      · exact ⟨h1, m', List.mem_append_left _ h2, by rw [o.w_put hml hp hz hf (o.lt h2)]; exact h3⟩
      · exact ⟨hp, s.gn.length, List.mem_append_right _ List.mem_cons_self, by rw [o.len, o.w_new hml hp hz hf, if_pos rfl]⟩
    · rintro ⟨h1, m', h2, h3⟩
      rcases List.mem_append.mp h2 with h4 | h4
      · rw [o.w_put hml hp hz hf (o.lt h4)] at h3
        exact .inl ⟨h1, m', h4, h3⟩
      · rw [List.mem_singleton.mp h4, o.len, o.w_new hml hp hz hf] at h3
        by_cases e : x.1 = p
        · rw [if_pos e] at h3
          exact .inr (Prod.ext e h3.symm)
        · rw [if_neg e] at h3
          exact .inl ⟨h1, m, hm, h3⟩
theorem LOk.go (h : LOk s L) : LOk (s.go m) (L.filter (s.go m).nd) := by
  refine ⟨h.nd.filter _, fun x => ?_⟩
  rw [List.mem_filter]
  refine ⟨fun z => z.2, fun z => ⟨?_, z⟩⟩
  obtain ⟨h1, m', h2, h3⟩ := RS.nd_iff.mp z
  rw [RS.kept_go] at h2
  exact (h.mem x).mpr (RS.nd_iff.mpr ⟨h1, m', (List.mem_filter.mp h2).1, h3⟩)
theorem LOk.zero : LOk (RS.zero ws) (L0 ws.length) := by
  refine ⟨?_, fun x => ?_⟩
  · exact List.pairwise_map.mpr (List.nodup_range.imp fun hab z => hab (by injection z))
  · rw [RS.nd_iff]
    constructor
    · intro hx
      obtain ⟨i, hi, rfl⟩ := List.mem_map.mp hx
      exact ⟨List.mem_range.mp hi, 0, (show 0 ∈ keptN [false] by decide), rfl⟩
    · rintro ⟨h1, m, h2, h3⟩
      have e : m = 0 := by
        have := (mem_kept.mp h2).1
        have e2 : (RS.zero ws).gn.length = 1 := rfl
        omega
      subst e
      have h4 : 0 = x.2 := h3
      exact List.mem_map.mpr ⟨x.1, List.mem_range.mpr h1, Prod.ext rfl h4⟩
end
end Lawk44
namespace Lawk44
open PySem PySem.Spec PyProof.Rows L2 MK
theorem worth_yes {z : Int} (hz : -bigI < z ∧ z < bigI) : worthD (.int z) = true := by
  unfold bigI at hz
  unfold worthD
  rw [wholeD_int, decide_eq_true (by omega), decide_eq_true (by omega)]
  rfl
end Lawk44
namespace Lawk44
open PySem PySem.Spec PyProof.Rows L2 MK
/-! changes put one on the other -/
def RS.puts (s : RS) (m : Nat) : List (Nat × Int) → RS
  | [] => s
  | p :: cs => (s.put m p.1 p.2).puts (s.tr.length + 1) cs
/-- the make behind so many changes -/
def lastM (s : RS) (m j : Nat) : Nat := if j = 0 then m else s.tr.length + j
def foundV (s : RS) (m j : Nat) : List V := nV m :: (List.range' (s.tr.length + 1) j).map nV
section
variable {s : RS} {m j : Nat} {cs : List (Nat × Int)} {q : Nat × Int}
theorem RS.puts_len : ∀ {cs : List (Nat × Int)} {s : RS} {m : Nat}, (s.puts m cs).tr.length = s.tr.length + cs.length
  | [], s, m => rfl
  | p :: cs, s, m => by
    show ((s.put m p.1 p.2).puts (s.tr.length + 1) cs).tr.length = _
    rw [RS.puts_len]
    show (s.tr ++ [m]).length + cs.length = _
    rw [List.length_append, List.length_cons]
    show s.tr.length + 1 + cs.length = s.tr.length + (cs.length + 1)
    omega
theorem RS.puts_ws : ∀ {cs : List (Nat × Int)} {s : RS} {m : Nat}, (s.puts m cs).ws = s.ws
  | [], s, m => rfl
  | p :: cs, s, m => by
    show ((s.put m p.1 p.2).puts (s.tr.length + 1) cs).ws = _
    rw [RS.puts_ws]
    rfl
theorem lastM_put {p : Nat} {z : Int} {k : Nat} : lastM (s.put m p z) (s.tr.length + 1) k = lastM s m (k + 1) := by
  unfold lastM
  have e : (s.put m p z).tr.length = s.tr.length + 1 := by
    show (s.tr ++ [m]).length = _
    rw [List.length_append]
    rfl
  by_cases h : k = 0
  · rw [if_pos h, if_neg (by omega)]
    omega
  · rw [if_neg h, if_neg (by omega), e]
    omega
theorem RS.puts_snoc : ∀ {cs : List (Nat × Int)} {s : RS} {m : Nat}, s.puts m (cs ++ [q]) = (s.puts m cs).put (lastM s m cs.length) q.1 q.2
  | [], s, m => rfl
  | p :: cs, s, m => by
    show (s.put m p.1 p.2).puts (s.tr.length + 1) (cs ++ [q]) = ((s.put m p.1 p.2).puts (s.tr.length + 1) cs).put _ _ _
    rw [RS.puts_snoc, lastM_put]
    rfl
theorem RS.puts_take (e : cs[j]? = some q) : s.puts m (cs.take (j + 1)) = (s.puts m (cs.take j)).put (lastM s m j) q.1 q.2 := by
  have h := (List.getElem?_eq_some_iff.mp e).1
  have e2 : cs.take (j + 1) = cs.take j ++ [q] := by rw [List.take_succ, e]; rfl
  rw [e2, RS.puts_snoc, List.length_take, Nat.min_eq_left (by omega)]
theorem RSok.puts : ∀ {cs : List (Nat × Int)} {s : RS} {m : Nat}, RSok s → m ∈ keptN s.gn → (∀ x ∈ cs, x.1 < s.ws.length ∧ (-bigI < x.2 ∧ x.2 < bigI)) → s.tr.length + cs.length ≤ 63 → RSok (s.puts m cs) ∧ lastM s m cs.length ∈ keptN (s.puts m cs).gn
  | [], s, m, h, hm, _, _ => ⟨h, hm⟩
  | p :: cs, s, m, h, hm, hc, hf => by
    have hp := hc p List.mem_cons_self
    rw [List.length_cons] at hf
    have h2 := h.put (h.lt hm) hp.1 hp.2 (by omega)
    have e : (s.put m p.1 p.2).tr.length = s.tr.length + 1 := by
      show (s.tr ++ [m]).length = _
      rw [List.length_append]
      rfl
    have h3 := RSok.puts (cs := cs) (s := s.put m p.1 p.2) (m := s.tr.length + 1) h2 (by rw [RS.kept_put, ← h.len]; exact List.mem_append_right _ List.mem_cons_self) (fun x hx => hc x (List.mem_cons_of_mem _ hx)) (by omega)
    rw [lastM_put] at h3
    exact h3
theorem foundV_last : (foundV s m j).getLast? = some (nV (lastM s m j)) := by
  unfold foundV lastM
  cases j with
  | zero => rfl
  | succ k =>
    rw [List.range'_1_concat, List.map_append, if_neg (by omega), ← List.cons_append, List.map_cons, List.map_nil, List.getLast?_concat, show s.tr.length + 1 + k = s.tr.length + (k + 1) by omega]
theorem foundV_app : foundV s m j ++ [nV (s.tr.length + j + 1)] = foundV s m (j + 1) := by
  unfold foundV
  rw [List.range'_1_concat, List.map_append, List.cons_append, show s.tr.length + j + 1 = s.tr.length + 1 + j by omega]
  rfl
theorem foundV_len : (foundV s m j).length = j + 1 := by
  unfold foundV
  rw [List.length_cons, List.length_map, List.length_range']
end
end Lawk44
namespace Lawk44
open PySem PySem.Spec PyProof.Rows L2 MK
theorem RS.puts_kept : ∀ {cs : List (Nat × Int)} {s : RS} {m : Nat}, keptN (s.puts m cs).gn = keptN s.gn ++ List.range' s.gn.length cs.length
  | [], s, m => (List.append_nil _).symm
  | p :: cs, s, m => by
    show keptN ((s.put m p.1 p.2).puts (s.tr.length + 1) cs).gn = _
    rw [RS.puts_kept, RS.kept_put, List.append_assoc]
    have e : (s.put m p.1 p.2).gn.length = s.gn.length + 1 := by
      show (s.gn ++ [false]).length = _
      rw [List.length_append]
      rfl
    rw [e, List.length_cons, List.range'_succ]
    rfl
end Lawk44
namespace Lawk44
open PySem PySem.Spec PyProof.Rows L2 MK
/-- whether a thing is a kept make -/
def makeD (s : RS) (d : PyData) : Bool := wholeD d 0 ((s.tr.length : Nat) : Int) && (match d with | .int i => !s.gn.getD i.toNat true | _ => false)
theorem makeD_gone {s : RS} {d : PyData} (h : makeD s d = false) (hw : wholeD d 0 ((s.tr.length : Nat) : Int) = true) : ∃ i : Nat, d = .int (i : Nat) ∧ i ≤ s.tr.length ∧ s.gn.getD i true = true := by
  cases d with
  | int i =>
    rw [wholeD_int, Bool.and_eq_true, decide_eq_true_iff, decide_eq_true_iff] at hw
    obtain ⟨j, rfl⟩ := Int.eq_ofNat_of_zero_le hw.1
    refine ⟨j, rfl, by omega, ?_⟩
    unfold makeD at h
    rw [wholeD_int, decide_eq_true hw.1, decide_eq_true hw.2] at h
    simpa using h
  | _ => cases hw
theorem makeD_out {s : RS} {i : Nat} (h : s.tr.length < i) : makeD s (.int (i : Nat)) = false := by
  unfold makeD
  rw [wholeD_int, decide_eq_false (show ¬ (((i : Nat) : Int) ≤ ((s.tr.length : Nat) : Int)) by omega), Bool.and_false, Bool.false_and]
theorem makeD_go {s : RS} {m : Nat} (h : m < s.gn.length) : makeD (s.go m) (.int (m : Nat)) = false := by
  unfold makeD
  show (_ && !(s.gn.set m true).getD (((m : Nat) : Int).toNat) true) = false
  rw [Int.toNat_natCast, List.getD_eq_getElem?_getD, List.getElem?_set_self h]
  simp
end Lawk44

namespace Lawk44
open PySem PySem.Spec PyProof.Rows L2 MK
section
variable {K : PySem.W.Frag} {F : List SP} {H : Hp} {Q : VK} {E : XK} {t : Addr} {tr : List Nat} {gn : List Bool} {m p n : Nat} {s : RS}
theorem dsp_L {spL : Sp} {m : Str} {R : Sp → Prop} (S : Star H (tre K true t tr :: F)) (h : isOwn m) (q : R spL) : dspX [(He.ga K "LeapTree", spL)] m (.ref t) H R := by
  obtain ⟨dx, o, p, l, _, S⟩ := treL_iff.mp S
  exact dsp_i S.get List.mem_cons_self (look3 h) q
theorem own_L {v : V} (S : Star H (tre K true t tr :: F)) (hm : (osV tr)[m]? = some v) (k : Q v H) : sp_LeapTree_own K [.ref t, nV m] H Q E := by
  obtain ⟨dx, o, p, l, _, S⟩ := treL_iff.mp S
  exact LeapTree_own_ok S hm k
theorem many_L (S : Star H (tre K true t tr :: F)) (k : Q (nV (tr.length + 1)) H) : sp_LeapTree_many K [.ref t] H Q E := by
  obtain ⟨dx, o, p, l, _, S⟩ := treL_iff.mp S
  exact LeapTree_many_ok S k
theorem grow_L (S : Star H (tre K true t tr :: F)) (hm : m < tr.length + 1) (hz : tr.length + 1 < 64) (k : ∀ H', Star H' (tre K true t (tr ++ [m]) :: F) → Q (nV (tr.length + 1)) H') : sp_LeapTree_grow K [.ref t, nV m] H Q E := LeapTree_grow_ok S hm hz k
theorem gone_at (hm : m < gn.length) (hk : gn.getD m true = false) : (gn.map V.bl)[m]? = some (.bl false) := by
  rw [List.getElem?_map, List.getElem?_eq_getElem hm]
  simp [List.getD, List.getElem?_eq_getElem hm] at hk
  rw [hk]
  rfl
theorem dsp_Lt {tbl : List (Addr × Sp)} {sp : Sp} {m : Str} {R : Sp → Prop} {u : Addr} (S : Star H (tre K true u tr :: F)) (h : isOwn m) (hm : (He.ga K "LeapTree", sp) ∈ tbl) (q : R sp) : dspX tbl m (.ref u) H R := by
  obtain ⟨dx, o, p, l, _, S⟩ := treL_iff.mp S
  exact dsp_i S.get hm (look3 h) q
theorem iso_L {tbl : List (Addr × Bool)} {u : Addr} (S : Star H (tre K true u tr :: F)) {b : Bool} (hm : (He.ga K "LeapTree", b) ∈ tbl) (q : Q (.bl b) H) : isoX tbl (.ref u) H Q := by
  obtain ⟨dx, o, p, l, _, S⟩ := treL_iff.mp S
  exact iso_i S.get hm q
theorem look_no : ∀ {fs : List (Str × V)} {m : Str}, m ∉ fs.map Prod.fst → List.lookup m fs = none
  | [], _, _ => rfl
  | (x, v) :: fs, m, h => by
    have h1 : (m == x) = false := beq_eq_false_iff_ne.mpr fun e => h (by rw [e]; exact List.mem_cons_self)
    rw [List.lookup_cons, h1]
    exact look_no fun z => h (List.mem_cons_of_mem _ z)
theorem RSok.wr_len (h : RSok s) : (wrV s.wr).length = s.tr.length + 1 := by
  unfold wrV
  rw [List.length_cons, List.length_map, h.row.len]
end
end Lawk44

namespace Lawk44
open PySem PySem.Spec PyProof.Rows L2 MK
section
variable {K : PySem.W.Frag} {F G : List SP} {H : Hp} {Q : VK} {E : XK} {g D : Addr} {gn : List Bool}
theorem cutB {t : TT} {σ : L2.St} {H : Hp} {R : Bool → Hp → Prop} (b : Bool) (H' : Hp) (h : R b H') (i : ∀ R : Bool → Hp → Prop, R b H' → t σ H R) : t σ H R := i R h
/-- [make for make, gone in enumerate(g) if not gone] -/
theorem lc_kept {x : V} (S : Star H (pt g (.lst (gn.map V.bl)) :: G)) (hz : gn.length ≤ 1000) (hD : H D = none) (q : ∀ H1, Star H1 (pt D (.lst ((keptN gn).map nV)) :: pt g (.lst (gn.map V.bl)) :: G) → Q (.ref D) H1) :
    LoopC (Ite K g) (gU K [1, 2]) (kNot (kT (eV 2))) (eV 1) [1, 2] [some x, none, none] D H Q := by
  refine LoopC.it walk_enum (fun j H => Star H (pt D (.lst (((List.range j).filter (keepB gn)).map nV)) :: pt g (.lst (gn.map V.bl)) :: G)) (S.newL hD) (fun j H _ z => .of z.p1.get) ?_ ?_
  · rintro j v H1 H2 hj S y
    obtain ⟨T0, x', z, rfl, e2, e3, S⟩ := pair_S S y
    cases e2
    have hj' : j < gn.length := by rw [List.length_map] at hj; exact hj
    have e4 : z = .bl gn[j] := by
      have e5 : (gn.map V.bl)[j]? = some z := e3
      rw [List.getElem?_map, List.getElem?_eq_getElem hj'] at e5
      exact (Option.some.inj e5).symm
    subst e4
    unfold gU
    refine unp_t S.getF rfl ⟨rfl, ?_⟩
    have ek : keepB gn j = !gn[j] := by
      unfold keepB
      simp [List.getD, List.getElem?_eq_getElem hj']
    refine cutB (!gn[j]) H2 ?_ (fun R h => by walk_at "go"; exact h)
    have el : (List.range (j + 1)).filter (keepB gn) = (List.range j).filter (keepB gn) ++ (if (!gn[j]) = true then [j] else []) := by
      rw [List.range_succ, List.filter_append, ← ek]
      congr 1
      cases hb : keepB gn j with
      | true => rw [List.filter_cons_of_pos hb, List.filter_nil]; rfl
      | false => rw [List.filter_cons_of_neg (by rw [hb]; exact Bool.false_ne_true), List.filter_nil]; rfl
    rw [el]
    cases hb : (!gn[j]) with
    | true =>
      rw [if_pos rfl, if_pos rfl]
      walk_at "w"
      refine ⟨_, S.p1.get, ?_, ?_⟩
      · have := List.length_filter_le (keepB gn) (List.range j)
        rw [List.length_range] at this
        rw [sizeLine_eq, List.length_map]
        omega
      · rw [List.map_append]
        exact Star.updL (S.fr (by walk_at "fr"))
    | false =>
      rw [if_neg Bool.false_ne_true, if_neg Bool.false_ne_true, List.append_nil]
      exact S.fr (by walk_at "fr")
  · intro H1 S
    rw [List.length_map] at S
    exact q H1 S
end
end Lawk44

namespace Lawk44
open PySem PySem.Spec PyProof.Rows L2 MK
def worthsD (d : PyData) : Bool := match d with
  | .tuple ds => (decide (1 ≤ (ds.length : Int)) && decide ((ds.length : Int) ≤ 16)) && ds.all worthD
  | .list ds => (decide (1 ≤ (ds.length : Int)) && decide ((ds.length : Int) ≤ 16)) && ds.all worthD
  | _ => false
theorem worthsD_b (b : Bool) (ds : List PyData) : worthsD (mkd b ds) = ((decide (1 ≤ (ds.length : Int)) && decide ((ds.length : Int) ≤ 16)) && ds.all worthD) := by cases b <;> rfl
theorem is_worths_sq {K : PySem.W.Frag} {F : List SP} {H : Hp} {v : V} {b : Bool} {ds : List PyData} {Q : VK} {E : XK} (S : Star H (dat v (mkd b ds) :: F))
    (k : ∀ H', Star H' (dat v (mkd b ds) :: F) → Q (.bl (worthsD (mkd b ds))) H') : sp_is_worths K [v] H Q E := by
  refine sp_is_worths_i ?_
  obtain ⟨a, xs, rfl, S1⟩ := dat_sq.mp S
  have hl : xs.length = ds.length := S1.p1.dlen
  rw [worthsD_b, ← hl] at k
  walk_at "go"
  refine al_t S1 fun q H1 S1 => ?_
  have S1 := S1.tail
  walk_at "go"
  refine br (fun h => ?_) (fun h => ?_)
  · walk_at "go"
    refine brn' (fun h2 => ?_) (fun h2 => ?_)
    · walk_at "go"
      rw [h, h2, Bool.and_false, Bool.false_and] at k
      exact k _ (dat_sq.mpr ⟨a, xs, rfl, S1⟩)
    · walk_at "go"
      have h3 := of_decide_eq_true h2
      rw [h, h2, Bool.and_true, Bool.true_and] at k
      refine lc_bools _ worthD (fun x H Q q => q) (by omega) S1 (fun x => rfl) ?_ ?_
      · intro i x d H2 D acc R hd T r
        walk_at "go"
        exact is_worth_ok T r
      · intro D H2 T
        walk_at "go"
        refine all_l T.get ?_
        rw [all_map_id]
        exact k _ (dat_sq.mpr ⟨a, xs, rfl, T.tail⟩)
  · walk_at "go"
    rw [h, Bool.false_and, Bool.false_and] at k
    exact k _ (dat_sq.mpr ⟨a, xs, rfl, S1⟩)
end Lawk44

namespace Lawk44
open PySem PySem.Spec PyProof.Rows L2 MK
theorem intsZ {H : Hp} {F : List SP} : ∀ {xs : List Int}, Star H F → Star H (dats (xs.map V.int) (xs.map PyData.int) :: F)
  | [], S => dats_n.mpr ⟨rfl, S⟩
  | x :: xs, S => dats_c.mpr ⟨_, _, rfl, dat_i.mpr ⟨rfl, intsZ (xs := xs) S⟩⟩
theorem intsZ_of {H : Hp} {F : List SP} : ∀ {xs : List Int} {vs : List V}, Star H (dats vs (xs.map PyData.int) :: F) → vs = xs.map V.int ∧ Star H F
  | [], vs, S => by
    obtain ⟨e, S1⟩ := dats_n.mp S
    exact ⟨e, S1⟩
  | x :: xs, vs, S => by
    obtain ⟨v, r, e, S1⟩ := dats_c.mp S
    obtain ⟨e2, S2⟩ := dat_i.mp S1
    obtain ⟨e3, S3⟩ := intsZ_of S2
    exact ⟨by rw [e, e2, e3]; rfl, S3⟩
section
variable {K : PySem.W.Frag} {F : List SP} {H : Hp} {Q : VK} {E : XK} {a : Addr} {ws : List Int} {b : Bool} {xs : List V}
theorem list_sq (S : Star H (sq b a xs :: F)) (q : ∀ p H', Star H' (pt p (.lst xs) :: sq b a xs :: F) → Q (.ref p) H') : listX K (.ref a) H Q := by
  cases b with
  | true => exact list_S S S.get q
  | false =>
    have hT : SqT K H a xs := S.sqb
    unfold listX
    exact ⟨a, xs, rfl, .inr hT, nwO_e (al_l S q)⟩
theorem worths_yes (h1 : 1 ≤ ws.length) (h2 : ws.length ≤ 16) (h3 : ∀ z ∈ ws, -bigI < z ∧ z < bigI) : worthsD (mkd b (ws.map PyData.int)) = true := by
  rw [worthsD_b, List.length_map, decide_eq_true (by omega), decide_eq_true (by omega)]
  show (ws.map PyData.int).all worthD = true
  refine List.all_eq_true.mpr fun d hd => ?_
  obtain ⟨z, hz, rfl⟩ := List.mem_map.mp hd
  have := h3 z hz
  unfold bigI at this
  unfold worthD
  rw [wholeD_int, decide_eq_true (by omega), decide_eq_true (by omega)]
  rfl
end
end Lawk44

namespace Lawk44
open PySem PySem.Spec PyProof.Rows L2 MK
/-! lists of pairs, and dicts of pairs that are all True -/
def kk2 (x : Nat × Nat) : List Key := [.inl ((x.1 : Nat) : Int), .inl ((x.2 : Nat) : Int)]
def ndV (M : List (Nat × Nat)) : List (List Key × V) := M.map fun x => (kk2 x, .bl true)
theorem kk2_inj {x y : Nat × Nat} (h : kk2 x = kk2 y) : x = y := by
  unfold kk2 at h
  injection h with z1 z2
  injection z2 with z2 _
  injection z1 with z1
  injection z2 with z2
  exact Prod.ext (by omega) (by omega)
theorem nd_in {M : List (Nat × Nat)} {x : Nat × Nat} : (valV (ndV M) (kk2 x)).isSome = decide (x ∈ M) := by
  induction M with
  | nil => rfl
  | cons y M ih =>
    by_cases e : y = x
    · subst e
      rw [show ndV (y :: M) = (kk2 y, .bl true) :: ndV M from rfl, valV_pos rfl]
      simp
    · rw [show ndV (y :: M) = (kk2 y, .bl true) :: ndV M from rfl, valV_neg (fun z => e (kk2_inj z)), ih]
      have e2 : ¬ x = y := fun z => e z.symm
      simp [e2]
theorem nd_put {M : List (Nat × Nat)} {x : Nat × Nat} : putK (ndV M) (kk2 x) (.bl true) = ndV (if x ∈ M then M else M ++ [x]) := by
  have hin : ((ndV M).any fun kv => decide (kv.1 = kk2 x)) = decide (x ∈ M) := by
    unfold ndV
    rw [List.any_map]
    by_cases h : x ∈ M
    · rw [decide_eq_true h]
      exact List.any_eq_true.mpr ⟨x, h, decide_eq_true rfl⟩
    · rw [decide_eq_false h]
      refine List.any_eq_false.mpr fun y hy => ?_
      have : ¬ kk2 y = kk2 x := fun e => h (kk2_inj e ▸ hy)
      simp [this]
  unfold putK
  rw [hin]
  by_cases h : x ∈ M
  · rw [if_pos (decide_eq_true h), if_pos h]
    unfold ndV
    rw [List.map_map]
    refine List.map_congr_left fun y _ => ?_
    show (if kk2 y = kk2 x then (kk2 y, V.bl true) else (kk2 y, .bl true)) = _
    split <;> rfl
  · rw [if_neg (by rw [decide_eq_false h]; exact Bool.false_ne_true), if_neg h]
    unfold ndV
    rw [List.map_append]
    rfl
theorem ndV_len {M : List (Nat × Nat)} : (ndV M).length = M.length := by
  unfold ndV
  rw [List.length_map]
section
variable {K : PySem.W.Frag} {F : List SP} {H : Hp} {Q : VK} {D a : Addr} {σ : L2.St} {g : TG} {tt : TT} {te : TE} {vs : List Nat} {xs : List V} {qs : List (Nat × Nat)} {x : Nat × Nat} {j : Nat}
theorem prs_at (S : Star H (prs xs qs :: F)) (e : qs[j]? = some x) : ∃ T, xs[j]? = some (.ref T) ∧ Star H (fx T (.tup ((kk2 x).map kV)) :: prs xs qs :: F) := by
  have e2 : (qs.map pD)[j]? = some (pD x) := by rw [List.getElem?_map, e]; rfl
  obtain ⟨v, hv, S1⟩ := S.take e2
  obtain ⟨t, ys, e0, S2⟩ := dat_t.mp S1
  subst e0
  obtain ⟨v1, r1, e3, S3⟩ := dats_c.mp S2.p1
  subst e3
  obtain ⟨v2, r2, e4, S4⟩ := dats_c.mp S3.p1
  subst e4
  obtain ⟨e5, S5⟩ := dats_n.mp S4.p1
  subst e5
  obtain ⟨e6, S6⟩ := dat_i.mp S5
  subst e6
  obtain ⟨e7, S7⟩ := dat_i.mp S6
  subst e7
  refine ⟨t, hv, ?_⟩
  have S8 := S7.dupF
  have S9 : Star H (dat (.ref t) (pD x) :: hole xs (qs.map pD) j :: fx t (.tup [nV x.1, nV x.2]) :: F) := S8.fr (by unfold pD; walk_at "fr")
  exact (S9.back0 hv e2).p1
/-- [w for w in pairs if p(w)] -/
theorem lc_prs (p : Nat × Nat → Bool) (gx : V → L2.St) (hg : ∀ x H Q, Q (gx x) H → g x (wipe σ vs) H Q) (hz : qs.length ≤ 1000) (hD : H D = none) (S : Star H (pt a (.lst xs) :: prs xs qs :: F)) (hw : ∀ x, wipe (gx x) vs = wipe σ vs)
    (ht : ∀ x ∈ qs, ∀ T H1 acc (R : Bool → Hp → Prop), Star H1 (fx T (.tup ((kk2 x).map kV)) :: pt D (.lst acc) :: pt a (.lst xs) :: prs xs qs :: F) → R (p x) H1 → tt (gx (.ref T)) H1 R)
    (he : ∀ v H1 (R : VK), R v H1 → te (gx v) H1 R)
    (q : ∀ H1 ys, Star H1 (pt D (.lst ys) :: prs ys (qs.filter p) :: pt a (.lst xs) :: prs xs qs :: F) → Q (.ref D) H1) : LoopC (Itl K a) g tt te vs σ D H Q := by
  have hxl : xs.length = qs.length := by
    have := S.p1.dlen
    rw [List.length_map] at this
    exact this
  refine LoopC.it (walk_list (a := a) (xs := xs)) (fun j H => ∃ ys, Star H (pt D (.lst ys) :: prs ys ((qs.take j).filter p) :: pt a (.lst xs) :: prs xs qs :: F) ∧ ys.length ≤ j) ⟨[], ?_, Nat.le_refl _⟩ (fun j H _ ⟨ys, z, _⟩ => .of (z.p2.get)) ?_ ?_
  · rw [List.take_zero]
    have S1 : Star H (prs [] ([] : List (Nat × Nat)) :: pt a (.lst xs) :: prs xs qs :: F) := dats_n.mpr ⟨rfl, S⟩
    exact S1.newL hD
  · rintro j v H1 H2 hj ⟨ys, S, hy⟩ ⟨rfl, hv⟩
    have hj' : j < qs.length := by omega
    obtain ⟨x, hx⟩ : ∃ x, qs[j]? = some x := ⟨_, List.getElem?_eq_getElem hj'⟩
    obtain ⟨T, hT, S⟩ := prs_at (x := x) (j := j) (F := pt D (.lst ys) :: prs ys ((qs.take j).filter p) :: pt a (.lst xs) :: F) (S.fr (by walk_at "fr")) hx
    rw [hT] at hv
    cases hv
    refine hg _ _ _ ⟨hw _, ?_⟩
    refine ht x (List.mem_of_getElem? hx) T _ ys _ (S.fr (by walk_at "fr")) ?_
    have e : qs.take (j + 1) = qs.take j ++ [x] := by rw [List.take_succ, hx]; rfl
    cases hp : p x with
    | true =>
      rw [if_pos rfl]
      refine he _ _ _ ⟨_, (S.fr (qs := [pt D (.lst ys)]) (by walk_at "fr")).get, by rw [sizeLine_eq]; omega, ys ++ [.ref T], ?_, by rw [List.length_append]; show ys.length + 1 ≤ j + 1; omega⟩
      rw [e, List.filter_append, List.filter_cons_of_pos hp, List.filter_nil]
      have S1 : Star H2 (dats ys (((qs.take j).filter p).map pD) :: dat (.ref T) (pD x) :: pt D (.lst ys) :: pt a (.lst xs) :: prs xs qs :: F) := S.fr (by unfold pD; walk_at "fr")
      have S2 := Star.snoc S1
      have S3 := Star.updL (ys := ys ++ [.ref T]) S2.p1
      have e3 : ((qs.take j).filter p).map pD ++ [pD x] = ((qs.take j).filter p ++ [x]).map pD := by rw [List.map_append]; rfl
      rw [e3] at S3
      exact S3.fr (by walk_at "fr")
    | false =>
      rw [if_neg Bool.false_ne_true]
      refine ⟨ys, ?_, by omega⟩
      rw [e, List.filter_append, List.filter_cons_of_neg (by rw [hp]; exact Bool.false_ne_true), List.filter_nil, List.append_nil]
      exact S.fr (by walk_at "fr")
  · rintro H1 ⟨ys, S, _⟩
    rw [hxl, List.take_length] at S
    exact q H1 ys S
/-- [w for w in d if p(w)], d a dict of pairs, locked -/
theorem lc_ndV {d : Addr} {o : Obj} {M : List (Nat × Nat)} (p : Nat × Nat → Bool) (gx : V → L2.St) (hg : ∀ x H Q, Q (gx x) H → g x (wipe σ vs) H Q) (hz : M.length ≤ 10000) (hD : H D = none) (S : Star H (fx d (.frz o (.dT (ndV M))) :: F)) (hw : ∀ x, wipe (gx x) vs = wipe σ vs)
    (ht : ∀ x ∈ M, ∀ T H1 acc (R : Bool → Hp → Prop), Star H1 (fx T (.tup ((kk2 x).map kV)) :: pt D (.lst acc) :: fx d (.frz o (.dT (ndV M))) :: F) → R (p x) H1 → tt (gx (.ref T)) H1 R)
    (he : ∀ v H1 (R : VK), R v H1 → te (gx v) H1 R)
    (q : ∀ H1 ys, Star H1 (pt D (.lst ys) :: prs ys (M.filter p) :: fx d (.frz o (.dT (ndV M))) :: F) → Q (.ref D) H1) : LoopC (Itkt d o (ndV M)) g tt te vs σ D H Q := by
  refine LoopC.it walk_keysT (fun j H => ∃ ys, Star H (pt D (.lst ys) :: prs ys ((M.take j).filter p) :: fx d (.frz o (.dT (ndV M))) :: F) ∧ ys.length ≤ j) ⟨[], ?_, Nat.le_refl _⟩ (fun j H _ ⟨ys, z, _⟩ => z.p2.getF) ?_ ?_
  · rw [List.take_zero]
    have S1 : Star H (prs [] ([] : List (Nat × Nat)) :: fx d (.frz o (.dT (ndV M))) :: F) := dats_n.mpr ⟨rfl, S⟩
    exact S1.newL hD
  · rintro j v H1 H2 hj ⟨ys, S, hy⟩ ⟨rfl, k, v', T, hv, rfl, hT⟩
    rw [ndV_len] at hj
    obtain ⟨x, hx⟩ : ∃ x, M[j]? = some x := ⟨_, List.getElem?_eq_getElem hj⟩
    have ek : k = kk2 x := by
      unfold ndV at hv
      rw [List.getElem?_map, hx] at hv
      injection hv with hv
      injection hv with h1 h2
      exact h1.symm
    subst ek
    have S := S.addF hT
    refine hg _ _ _ ⟨hw _, ?_⟩
    refine ht x (List.mem_of_getElem? hx) T _ ys _ (S.fr (by walk_at "fr")) ?_
    have e : M.take (j + 1) = M.take j ++ [x] := by rw [List.take_succ, hx]; rfl
    cases hp : p x with
    | true =>
      rw [if_pos rfl]
      refine he _ _ _ ⟨_, (S.fr (qs := [pt D (.lst ys)]) (by walk_at "fr")).get, by rw [sizeLine_eq]; omega, ys ++ [.ref T], ?_, by rw [List.length_append]; show ys.length + 1 ≤ j + 1; omega⟩
      rw [e, List.filter_append, List.filter_cons_of_pos hp, List.filter_nil]
      have S1 : Star H2 (dats ys (((M.take j).filter p).map pD) :: dat (.ref T) (pD x) :: pt D (.lst ys) :: fx d (.frz o (.dT (ndV M))) :: F) := S.fr (by unfold pD; walk_at "fr")
      have S2 := Star.snoc S1
      have S3 := Star.updL (ys := ys ++ [.ref T]) S2.p1
      have e3 : ((M.take j).filter p).map pD ++ [pD x] = ((M.take j).filter p ++ [x]).map pD := by rw [List.map_append]; rfl
      rw [e3] at S3
      exact S3.fr (by walk_at "fr")
    | false =>
      rw [if_neg Bool.false_ne_true]
      refine ⟨ys, ?_, by omega⟩
      rw [e, List.filter_append, List.filter_cons_of_neg (by rw [hp]; exact Bool.false_ne_true), List.filter_nil, List.append_nil]
      exact S.fr (by walk_at "fr")
  · rintro H1 ⟨ys, S, _⟩
    rw [ndV_len, List.take_length] at S
    exact q H1 ys S
end
theorem lexN_uniq : ∀ {l m : List (Nat × Nat)}, l.Pairwise lexN → m.Pairwise lexN → l.Perm m → l = m
  | [], m, _, _, h => (List.Perm.nil_eq h)
  | x :: l, [], _, _, h => absurd h.length_eq (by simp)
  | x :: l, y :: m, h1, h2, h => by
    have a1 := List.pairwise_cons.mp h1
    have a2 := List.pairwise_cons.mp h2
    have e : x = y := by
      have m1 : x ∈ y :: m := h.mem_iff.mp List.mem_cons_self
      have m2 : y ∈ x :: l := h.mem_iff.mpr List.mem_cons_self
      rcases List.mem_cons.mp m1 with z | z
      · exact z
      · rcases List.mem_cons.mp m2 with w | w
        · exact w.symm
        · have b1 := a1.1 y w
          have b2 := a2.1 x z
          unfold lexN at b1 b2
          exact Prod.ext (by omega) (by omega)
    subst e
    rw [lexN_uniq a1.2 a2.2 (List.Perm.cons_inv h)]
theorem nodup_perm {l m : List (Nat × Nat)} (h1 : l.Nodup) (h2 : m.Nodup) (h : ∀ x, x ∈ l ↔ x ∈ m) : l.Perm m := by
  refine List.perm_iff_count.mpr fun a => ?_
  rw [h1.count, h2.count]
  by_cases e : a ∈ l
  · rw [if_pos e, if_pos ((h a).mp e)]
  · rw [if_neg e, if_neg fun z => e ((h a).mpr z)]
theorem ni_prs {r : List (Nat × Nat)} (hl : r.length ≤ 300) (hx : ∀ p ∈ r, p.1 ≤ 100000 ∧ p.2 ≤ 100000) : Ni 2 4000 (.list (r.map pD)) := by
  refine ni_l (n := 1) (m := 10) (fun d hd => ?_) (by decide) (by rw [List.length_map]; omega)
  obtain ⟨p, hp, rfl⟩ := List.mem_map.mp hd
  have := hx p hp
  exact ni_t (n := 0) (m := 0) (fa1 (ni_i (by omega)) (fa1 (ni_i (by omega)) fa0)) (by decide) (show 2 * (0 + 1) ≤ 10 by decide)
theorem repr_prs {K : PySem.W.Frag} {F : List SP} {H : Hp} {Q : VK} {f : Addr} {vs : List V} {r : List (Nat × Nat)} (S : Star H (pt f (.lst vs) :: prs vs r :: F)) (hl : r.length ≤ 300) (hx : ∀ p ∈ r, p.1 ≤ 100000 ∧ p.2 ≤ 100000) (k : Q (.str (PyData.list (r.map pD)).shown) H) : reprX K (.ref f) H Q :=
  repr_D (dat_l.mpr ⟨f, vs, rfl, S⟩) (ni_prs hl hx).rep k
end Lawk44

namespace Lawk44
open PySem PySem.Spec PyProof.Rows L2 MK
/-! changes of a row -/
def changeD (d : PyData) (n : Int) : Bool := match d with
  | .tuple [a, b] => wholeD a 0 (n - 1) && worthD b
  | _ => false
def chD (x : Nat × Int) : PyData := .tuple [.int (x.1 : Nat), .int x.2]
section
variable {K : PySem.W.Frag} {F : List SP} {H : Hp} {v : V} {d : PyData} {n : Int} {Q : VK} {E : XK} {b : Bool} {ds : List PyData} {xs : List V} {cs : List (Nat × Int)} {j : Nat} {x : Nat × Int}
theorem is_change_ok (S : Star H (dat v d :: F)) (k : Q (.bl (changeD d n)) H) : sp_is_change K [v, .int n] H Q E := by
  refine sp_is_change_i ?_
  cases d with
  | none =>
    obtain ⟨rfl, S⟩ := dat_n.mp S
    walk_at "go"
    exact k
  | bool b =>
    obtain ⟨rfl, S⟩ := dat_b.mp S
    walk_at "go"
    exact k
  | int i =>
    obtain ⟨rfl, S⟩ := dat_i.mp S
    walk_at "go"
    exact k
  | str x =>
    obtain ⟨rfl, S⟩ := dat_s.mp S
    walk_at "go"
    exact k
  | list ds =>
    obtain ⟨a, xs, rfl, S⟩ := dat_l.mp S
    walk_at "go"
    exact k
  | dict kvs =>
    obtain ⟨a, ks, rfl, S⟩ := dat_k.mp S
    walk_at "go"
    exact k
  | tuple ds =>
    obtain ⟨a, xs, rfl, S1⟩ := dat_t.mp S
    have hl : xs.length = ds.length := S1.p1.dlen
    walk_at "go"
    refine brn (fun h => ?_) (fun h => ?_)
    · walk_at "go"
      have e : changeD (.tuple ds) n = false := by
        unfold changeD
        split
        · exact absurd (by have := hl; simp_all) h
        · rfl
      rw [e] at k
      exact k
    · have h2 : xs.length = 2 := by omega
      match ds, hl with
      | [], hl => exact absurd hl (by rw [h2]; simp)
      | [p], hl => exact absurd hl (by rw [h2]; simp)
      | p :: q :: r :: t, hl => exact absurd hl (by rw [h2]; simp)
      | [p, q], hl =>
        obtain ⟨x, t, e, S⟩ := dats_c.mp S1.p1
        subst e
        obtain ⟨y, t, e, S⟩ := dats_c.mp S.p1
        subst e
        obtain ⟨e, S⟩ := dats_n.mp S.p1
        subst e
        walk_at "go"
        refine is_whole_ok S.p1 ?_
        walk_at "w"
        have e : changeD (.tuple [p, q]) n = (wholeD p 0 (n - 1) && worthD q) := rfl
        rw [e] at k
        refine br (fun h => ?_) (fun h => ?_)
        · walk_at "go"
          refine is_worth_ok S ?_
          rw [h, Bool.true_and] at k
          exact k
        · rw [h, Bool.false_and] at k
          exact k
theorem is_changes_sq {a : Addr} (S1 : Star H (sq b a xs :: dats xs ds :: F)) (hz : ds.length ≤ 10000) (k : ∀ H', Star H' (sq b a xs :: dats xs ds :: F) → Q (.bl (decide (ds.length ≤ 20) && ds.all (changeD · n))) H') : sp_is_changes K [.ref a, .int n] H Q E := by
  refine sp_is_changes_i ?_
  have hl : xs.length = ds.length := S1.p1.dlen
  walk_at "go"
  refine al_t S1 fun q H1 S1 => ?_
  have S1 := S1.tail
  walk_at "go"
  refine brd (fun h => ?_) (fun h => ?_)
  · walk_at "go"
    rw [decide_eq_false (by omega), Bool.false_and] at k
    exact k _ S1
  · walk_at "go"
    rw [decide_eq_true (by omega), Bool.true_and] at k
    refine lc_bools _ (changeD · n) (fun x H Q q => q) (by omega) S1 (fun x => rfl) ?_ ?_
    · intro i x d H2 D acc R hd T r
      walk_at "go"
      exact is_change_ok T r
    · intro D H2 T
      walk_at "go"
      refine all_l T.get ?_
      rw [all_map_id]
      exact k _ T.tail
theorem change_yes {m : Nat} (hp : x.1 < m) (hz : -bigI < x.2 ∧ x.2 < bigI) : changeD (chD x) (m : Nat) = true := by
  show (wholeD (.int (x.1 : Nat)) 0 ((m : Nat) - 1) && worthD (.int x.2)) = true
  rw [worth_yes hz, wholeD_int, decide_eq_true (by omega), decide_eq_true (by omega)]
  rfl
theorem changes_yes {m : Nat} (hl : cs.length ≤ 20) (hc : ∀ x ∈ cs, x.1 < m ∧ (-bigI < x.2 ∧ x.2 < bigI)) : (decide ((cs.map chD).length ≤ 20) && (cs.map chD).all (changeD · (m : Nat))) = true := by
  rw [List.length_map, decide_eq_true hl, Bool.true_and]
  refine List.all_eq_true.mpr fun d hd => ?_
  obtain ⟨x, hx, rfl⟩ := List.mem_map.mp hd
  exact change_yes (hc x hx).1 (hc x hx).2
theorem chs_at (S : Star H (dats xs (cs.map chD) :: F)) (e : cs[j]? = some x) : ∃ t, xs[j]? = some (.ref t) ∧ Star H (fx t (.tup [nV x.1, .int x.2]) :: dats xs (cs.map chD) :: F) := by
  have e2 : (cs.map chD)[j]? = some (chD x) := by rw [List.getElem?_map, e]; rfl
  obtain ⟨v, hv, S1⟩ := S.take e2
  obtain ⟨t, ys, e0, S2⟩ := dat_t.mp S1
  subst e0
  obtain ⟨v1, r1, e3, S3⟩ := dats_c.mp S2.p1
  subst e3
  obtain ⟨v2, r2, e4, S4⟩ := dats_c.mp S3.p1
  subst e4
  obtain ⟨e5, S5⟩ := dats_n.mp S4.p1
  subst e5
  obtain ⟨e6, S6⟩ := dat_i.mp S5
  subst e6
  obtain ⟨e7, S7⟩ := dat_i.mp S6
  subst e7
  refine ⟨t, hv, ?_⟩
  have S8 := S7.dupF
  have S9 : Star H (dat (.ref t) (chD x) :: hole xs (cs.map chD) j :: fx t (.tup [nV x.1, .int x.2]) :: F) := S8.fr (by unfold chD; walk_at "fr")
  exact (S9.back0 hv e2).p1
end
end Lawk44

namespace Lawk44
open PySem PySem.Spec PyProof.Rows L2 MK
section
variable {K : PySem.W.Frag} {F G : List SP} {H : Hp} {Q : VK} {tr : List Nat}
theorem ni_big {zs : List Int} (hl : zs.length ≤ 20) (hz : ∀ z ∈ zs, -bigI < z ∧ z < bigI) : Ni 1 2000 (.list (zs.map PyData.int)) := by
  refine ni_l (n := 0) (m := 40) (fun d hd => ?_) (by decide) (by rw [List.length_map]; omega)
  obtain ⟨x, h1, rfl⟩ := List.mem_map.mp hd
  have := hz x h1
  unfold bigI at this
  exact ni_i (by omega)
theorem repr_big {zs : List Int} {u : Addr} (S : Star H (pt u (.lst (zs.map V.int)) :: F)) (hl : zs.length ≤ 20) (hz : ∀ z ∈ zs, -bigI < z ∧ z < bigI) (k : Q (.str (PyData.list (zs.map PyData.int)).shown) H) : reprX K (.ref u) H Q := by
  have Sa : Star H (dat (.ref u) (.list (zs.map PyData.int)) :: F) := dat_l.mpr ⟨u, _, rfl, (intsZ (xs := zs) S).fr (Fr.c1 (Fr.c0 (Fr.refl _)))⟩
  exact repr_D Sa (ni_big hl hz).rep k
theorem repr_one {z : Int} (S : Star H F) (hz : -bigI < z ∧ z < bigI) (k : Q (.str (PyData.int z).shown) H) : reprX K (.int z) H Q := by
  unfold bigI at hz
  exact repr_D (dat_i.mpr ⟨rfl, S⟩) (Ni.rep (n := 0) (m := 0) (ni_i (by omega))) k
theorem os_neq {xs : List Nat} {f1 g1 : Addr} {F G : List SP} (S : Star H (pt f1 (.lst (osV xs)) :: F)) (S2 : Star H (pt g1 (.lst (osV xs)) :: G)) (hz : xs.length ≤ 1000) (hx : ∀ x ∈ xs, x ≤ 1000) (k : Q (.bl false) H) : neX K (.ref f1) (.ref g1) H Q := by
  have Sa : Star H (dat (.ref f1) (.list (tyD xs)) :: []) := S.fr (Fr.lst (xs := osV xs) (Fr.c0 (Fr.dsc (Fr.non (Fr.ints (Fr.nil _))))))
  have Sb : Star H (dat (.ref g1) (.list (tyD xs)) :: []) := S2.fr (Fr.lst (xs := osV xs) (Fr.c0 (Fr.dsc (Fr.non (Fr.ints (Fr.nil _))))))
  have hp : Pl (.list (tyD xs)) := pl_l fun d hd => by
    rcases List.mem_cons.mp hd with e | e
    · subst e
      rfl
    · obtain ⟨x, _, rfl⟩ := List.mem_map.mp e
      rfl
  have hs : SeqAt.shaped (.list (tyD xs)) = true := (ni_l (n := 0) (m := 0) (n' := 1) (m' := 2000) (fun d hd => by
    rcases List.mem_cons.mp hd with e | e
    · subst e
      exact ni_n
    · obtain ⟨x, h1, rfl⟩ := List.mem_map.mp e
      have := hx x h1
      exact ni_i (by omega)) (by decide) (by show (tyD xs).length * 1 ≤ 2000; unfold tyD; rw [List.length_cons, List.length_map]; omega)).shd hp
  refine ne_d (Sa.dp hp.nd) (Sb.dp hp.nd) hs hs ?_
  rw [PySem.SeqAt.eqv_refl _ hp]
  exact k
theorem tree_small (h : TreeOk tr (dep tr)) (hl : tr.length ≤ 900) : ∀ x ∈ tr, x ≤ 1000 := fun x hx => by
  obtain ⟨i, hi, e⟩ := List.mem_iff_getElem.mp hx
  have h1 := osV_up h (m := i + 1) (by omega) (by omega)
  have h2 := up1_lt h (m := i + 1) (by omega) (by omega)
  rw [osV_succ, List.getElem?_eq_getElem hi, e] at h1
  have h3 : (x : Int) = (up1 tr (i + 1) : Nat) := by
    have h4 := Option.some.inj h1
    injection h4
  omega
theorem repr_three {f1 : Addr} {x y : Nat} {z : Str} (S : Star H (pt f1 (.lst [nV x, nV y, .str z]) :: F)) (hx : x ≤ 1000) (hy : y ≤ 1000) (h1 : PyData.canLay0 (.str z) = true) (h2 : z.cps.size ≤ 10) (k : Q (.str (PyData.list [.int (x : Nat), .int (y : Nat), .str z]).shown) H) : reprX K (.ref f1) H Q := by
  have Sa : Star H (dat (.ref f1) (.list [.int (x : Nat), .int (y : Nat), .str z]) :: []) := S.fr (by walk_at "fr")
  exact repr_D Sa (Ni.rep (n := 1) (m := 40) (ni_l (n := 0) (m := 10) (fa1 (ni_i (by omega)) (fa1 (ni_i (by omega)) (fa1 (ni_s h1 h2) fa0))) (by decide) (show 3 * (10 + 1) ≤ 40 by decide))) k
theorem ints_neq {xs : List Int} {f1 g1 : Addr} (S : Star H (pt f1 (.lst (xs.map V.int)) :: F)) (S2 : Star H (pt g1 (.lst (xs.map V.int)) :: G)) (hl : xs.length ≤ 20) (hx : ∀ z ∈ xs, -bigI < z ∧ z < bigI) (k : Q (.bl false) H) : neX K (.ref f1) (.ref g1) H Q := by
  have Sa : Star H (dat (.ref f1) (.list (xs.map PyData.int)) :: F) := dat_l.mpr ⟨f1, _, rfl, (intsZ (xs := xs) S).fr (Fr.c1 (Fr.c0 (Fr.refl _)))⟩
  have Sb : Star H (dat (.ref g1) (.list (xs.map PyData.int)) :: G) := dat_l.mpr ⟨g1, _, rfl, (intsZ (xs := xs) S2).fr (Fr.c1 (Fr.c0 (Fr.refl _)))⟩
  have hp : Pl (.list (xs.map PyData.int)) := pl_l fun d hd => by
    obtain ⟨x, _, rfl⟩ := List.mem_map.mp hd
    rfl
  have hs := (ni_big hl hx).shd hp
  refine ne_d (Sa.dp hp.nd) (Sb.dp hp.nd) hs hs ?_
  rw [PySem.SeqAt.eqv_refl _ hp]
  exact k
theorem ni_chs {cs : List (Nat × Int)} (hl : cs.length ≤ 20) (hc : ∀ x ∈ cs, x.1 < 100 ∧ (-bigI < x.2 ∧ x.2 < bigI)) : Ni 2 2000 (.list (cs.map chD)) := by
  refine ni_l (n := 1) (m := 90) (fun d hd => ?_) (by decide) (by rw [List.length_map]; omega)
  obtain ⟨x, hx, rfl⟩ := List.mem_map.mp hd
  have := hc x hx
  unfold bigI at this
  exact ni_t (n := 0) (m := 40) (fa1 (ni_i (by omega)) (fa1 (ni_i (by omega)) fa0)) (by decide) (show 2 * (40 + 1) ≤ 90 by decide)
theorem repr_chs {f1 : Addr} {xs : List V} {cs : List (Nat × Int)} (S : Star H (pt f1 (.lst xs) :: dats xs (cs.map chD) :: F)) (hl : cs.length ≤ 20) (hc : ∀ x ∈ cs, x.1 < 100 ∧ (-bigI < x.2 ∧ x.2 < bigI)) (k : Q (.str (PyData.list (cs.map chD)).shown) H) : reprX K (.ref f1) H Q :=
  repr_D (dat_l.mpr ⟨f1, xs, rfl, S⟩) (ni_chs hl hc).rep k
end
end Lawk44

namespace Lawk44
open PySem PySem.Spec PyProof.Rows L2 MK
/-! what is freed, as writes -/
structure FrOk (s : RS) (m : Nat) (fs : List (Nat × Nat)) : Prop where
  srt : fs.Pairwise lexN
  nd : fs.Nodup
  mem : ∀ x, x ∈ fs ↔ s.nd x = true ∧ (s.go m).nd x = false
def frF (s : RS) (m : Nat) (D : Addr) : SP := ex fun fs : List (Nat × Nat) => ex fun ys : List V => sep [pr (FrOk s m fs), pt D (.lst ys), prs ys fs]
theorem frF_iff {s : RS} {m : Nat} {D : Addr} {H : Hp} {F : List SP} : Star H (frF s m D :: F) ↔ ∃ fs ys, FrOk s m fs ∧ Star H (pt D (.lst ys) :: prs ys fs :: F) := by
  unfold frF
  refine Star.ex_iff.trans (exists_congr fun fs => Star.ex_iff.trans (exists_congr fun ys => Star.sep_iff.trans Star.pr_iff))
end Lawk44

namespace Lawk44
open PySem PySem.Spec PyProof.Rows L2 MK
/-! rows of marks: the mark and its label, in their order -/
abbrev mkV (p : Nat × Nat) : V := nV p.1
def lbl (r : List (Nat × Nat)) (i : Nat) : Nat := (r[i]?.map (·.2)).getD 1024
structure OrdOk (r : List (Nat × Nat)) (g : Nat) : Prop where
  ne : 0 < r.length
  len : r.length ≤ 200
  lt : ∀ p ∈ r, p.1 < g
  nd : ∀ (i j : Nat) (p q : Nat × Nat), r[i]? = some p → r[j]? = some q → p.1 = q.1 → i = j
  inc : ∀ (i j : Nat) (p q : Nat × Nat), r[i]? = some p → r[j]? = some q → i < j → p.2 < q.2
  top : ∀ p ∈ r, p.2 < 1024
/-- what the dict of labels holds -/
structure Lab (kvs : List (Key × V)) (r : List (Nat × Nat)) : Prop where
  yes : ∀ p ∈ r, valV kvs (.inl ((p.1 : Nat) : Int)) = some (nV p.2)
  no : ∀ z : Int, (∀ p ∈ r, ((p.1 : Nat) : Int) ≠ z) → valV kvs (.inl z) = none
section
variable {r r' : List (Nat × Nat)} {g i j m l : Nat} {kvs : List (Key × V)} {p : Nat × Nat}
theorem length_putK_in {k : Key} {v w : V} (h : valV kvs k = some w) : (putK kvs k v).length = kvs.length := by
  unfold putK
  rw [valV_any, h]
  simp
theorem Lab.set (h : Lab kvs r) (hi : r[i]? = some (m, l)) (nd : ∀ (i j : Nat) (p q : Nat × Nat), r[i]? = some p → r[j]? = some q → p.1 = q.1 → i = j) (v : Nat) : Lab (putK kvs (.inl (m : Nat)) (nV v)) (r.set i (m, v)) := by
  have hil := (List.getElem?_eq_some_iff.mp hi).1
  refine ⟨fun p hp => ?_, fun z hz => ?_⟩
  · rw [valV_put]
    obtain ⟨j, hj⟩ := List.getElem?_of_mem hp
    by_cases hij : i = j
    · subst hij
      rw [List.getElem?_set_self hil] at hj
      cases hj
      rw [if_pos rfl]
    · rw [List.getElem?_set_ne hij] at hj
      have : ¬ ((Sum.inl ((p.1 : Nat) : Int) : Key) = Sum.inl ((m : Nat) : Int)) := fun e => by
        have e2 : ((p.1 : Nat) : Int) = ((m : Nat) : Int) := Sum.inl.inj e
        exact hij (nd i j (m, l) p hi hj (by show m = p.1; omega))
      rw [if_neg this]
      exact h.yes p (List.mem_of_getElem? hj)
  · rw [valV_put]
    have hm : ((m : Nat) : Int) ≠ z := hz (m, v) (List.mem_of_getElem? (List.getElem?_set_self hil))
    have : ¬ ((Sum.inl z : Key) = Sum.inl ((m : Nat) : Int)) := fun e => hm (Sum.inl.inj e).symm
    rw [if_neg this]
    refine h.no z fun p hp => ?_
    obtain ⟨j, hj⟩ := List.getElem?_of_mem hp
    by_cases hij : i = j
    · subst hij
      rw [hi] at hj
      cases hj
      exact hm
    · exact hz p (List.mem_of_getElem? (by rw [List.getElem?_set_ne hij]; exact hj))
theorem Lab.ins (h : Lab kvs r) (hg : ∀ p ∈ r, p.1 ≠ g) (hr : ∀ p, p ∈ r' ↔ p ∈ r ∨ p = (g, l)) : Lab (putK kvs (.inl (g : Nat)) (nV l)) r' := by
  refine ⟨fun p hp => ?_, fun z hz => ?_⟩
  · rw [valV_put]
    rcases (hr p).mp hp with e | e
    · have : ¬ ((Sum.inl ((p.1 : Nat) : Int) : Key) = Sum.inl ((g : Nat) : Int)) := fun z => by
        have e2 : ((p.1 : Nat) : Int) = ((g : Nat) : Int) := Sum.inl.inj z
        exact hg p e (by omega)
      rw [if_neg this]
      exact h.yes p e
    · subst e
      rw [if_pos rfl]
  · rw [valV_put]
    have : ¬ ((Sum.inl z : Key) = Sum.inl ((g : Nat) : Int)) := fun e => hz (g, l) ((hr _).mpr (.inr rfl)) (Sum.inl.inj e).symm
    rw [if_neg this]
    exact h.no z fun p hp => hz p ((hr p).mpr (.inl hp))
theorem Lab.drop (h : Lab kvs r) (hr : ∀ p, p ∈ r' ↔ p ∈ r ∧ p.1 ≠ m) : Lab (dropK kvs (.inl (m : Nat))) r' := by
  refine ⟨fun p hp => ?_, fun z hz => ?_⟩
  · rw [valV_drop]
    obtain ⟨h1, h2⟩ := (hr p).mp hp
    have : ¬ ((Sum.inl ((p.1 : Nat) : Int) : Key) = Sum.inl ((m : Nat) : Int)) := fun z => by
      have e2 : ((p.1 : Nat) : Int) = ((m : Nat) : Int) := Sum.inl.inj z
      exact h2 (by omega)
    rw [if_neg this]
    exact h.yes p h1
  · rw [valV_drop]
    by_cases e : (Sum.inl z : Key) = Sum.inl ((m : Nat) : Int)
    · rw [if_pos e]
    · rw [if_neg e]
      refine h.no z fun p hp => ?_
      by_cases e2 : p.1 = m
      · intro e3
        exact e (by rw [← e3, e2])
      · exact hz p ((hr p).mpr ⟨hp, e2⟩)
/-! labelling anew -/
def relN (r : List (Nat × Nat)) (s : Nat) : Nat → List (Nat × Nat)
  | 0 => r
  | i + 1 => (relN r s i).set i ((r.getD i (0, 0)).1, i * s)
theorem relN_len (s : Nat) : ∀ i, (relN r s i).length = r.length
  | 0 => rfl
  | i + 1 => by
    show ((relN r s i).set i _).length = _
    rw [List.length_set, relN_len s i]
theorem relN_at (s : Nat) : ∀ i j, (relN r s i)[j]? = if j < i then r[j]?.map (fun p => (p.1, j * s)) else r[j]?
  | 0, j => by
    rw [if_neg (Nat.not_lt_zero _)]
    rfl
  | i + 1, j => by
    show ((relN r s i).set i _)[j]? = _
    by_cases hij : i = j
    · subst hij
      rw [if_pos (Nat.lt_succ_self _)]
      by_cases hl : i < r.length
      · rw [List.getElem?_set_self (by rw [relN_len]; exact hl), List.getElem?_eq_getElem hl]
        have e : r.getD i (0, 0) = r[i] := by simp [List.getD, List.getElem?_eq_getElem hl]
        rw [e]
        rfl
      · rw [List.getElem?_eq_none (by rw [List.length_set, relN_len]; omega), List.getElem?_eq_none (by omega)]
        rfl
    · rw [List.getElem?_set_ne hij, relN_at s i j]
      by_cases h1 : j < i
      · rw [if_pos h1, if_pos (by omega)]
      · rw [if_neg h1, if_neg (by omega)]
def relab (r : List (Nat × Nat)) : List (Nat × Nat) := relN r (1024 / r.length) r.length
theorem relab_len : (relab r).length = r.length := relN_len _ _
theorem relab_at {j : Nat} : (relab r)[j]? = r[j]?.map (fun p => (p.1, j * (1024 / r.length))) := by
  unfold relab
  rw [relN_at]
  by_cases h : j < r.length
  · rw [if_pos h]
  · rw [if_neg h, List.getElem?_eq_none (by omega)]
    rfl
theorem relN_marks (s : Nat) (i : Nat) : (relN r s i).map (·.1) = r.map (·.1) := by
  refine List.ext_getElem? fun j => ?_
  rw [List.getElem?_map, List.getElem?_map, relN_at]
  split
  · cases r[j]? <;> rfl
  · rfl
theorem marks_mkV (h : r.map (·.1) = r'.map (·.1)) : r.map mkV = r'.map mkV := by
  have e : ∀ r : List (Nat × Nat), r.map mkV = (r.map (·.1)).map nV := fun r => by rw [List.map_map]; rfl
  rw [e, e, h]
theorem relab_mkV : (relab r).map mkV = r.map mkV := marks_mkV (relN_marks _ _)
theorem step_pos (o : OrdOk r g) : 5 ≤ 1024 / r.length ∧ r.length * (1024 / r.length) ≤ 1024 := by
  have h1 := o.ne
  have h2 := o.len
  refine ⟨(Nat.le_div_iff_mul_le h1).mpr (by omega), ?_⟩
  rw [Nat.mul_comm]
  exact Nat.div_mul_le_self _ _
theorem relab_ok (o : OrdOk r g) : OrdOk (relab r) g := by
  obtain ⟨h5, hs⟩ := step_pos o
  have at' : ∀ {i p}, (relab r)[i]? = some p → ∃ q, r[i]? = some q ∧ p = (q.1, i * (1024 / r.length)) ∧ i < r.length := fun {i p} h => by
    rw [relab_at] at h
    obtain ⟨q, hq, rfl⟩ := Option.map_eq_some_iff.mp h
    exact ⟨q, hq, rfl, (List.getElem?_eq_some_iff.mp hq).1⟩
  refine ⟨by rw [relab_len]; exact o.ne, by rw [relab_len]; exact o.len, fun p hp => ?_, fun i j p q hi hj e => ?_, fun i j p q hi hj e => ?_, fun p hp => ?_⟩
  · obtain ⟨i, hi⟩ := List.getElem?_of_mem hp
    obtain ⟨q, hq, rfl, _⟩ := at' hi
    exact o.lt q (List.mem_of_getElem? hq)
  · obtain ⟨p', hp', rfl, _⟩ := at' hi
    obtain ⟨q', hq', rfl, _⟩ := at' hj
    exact o.nd i j p' q' hp' hq' e
  · obtain ⟨p', hp', rfl, _⟩ := at' hi
    obtain ⟨q', hq', rfl, _⟩ := at' hj
    exact Nat.mul_lt_mul_of_pos_right e (by omega)
  · obtain ⟨i, hi⟩ := List.getElem?_of_mem hp
    obtain ⟨q, hq, rfl, hl⟩ := at' hi
    have : (i + 1) * (1024 / r.length) ≤ r.length * (1024 / r.length) := Nat.mul_le_mul_right _ hl
    rw [Nat.succ_mul] at this
    show i * (1024 / r.length) < 1024
    omega
theorem lbl_at (h : r[i]? = some p) : lbl r i = p.2 := by
  unfold lbl
  rw [h]
  rfl
theorem lbl_out (h : r.length ≤ i) : lbl r i = 1024 := by
  unfold lbl
  rw [List.getElem?_eq_none h]
  rfl
theorem lbl_lt (o : OrdOk r g) (hi : i < r.length) : lbl r i < lbl r (i + 1) := by
  have h1 : r[i]? = some r[i] := List.getElem?_eq_getElem hi
  rw [lbl_at h1]
  by_cases h : i + 1 < r.length
  · have h2 : r[i + 1]? = some r[i + 1] := List.getElem?_eq_getElem h
    rw [lbl_at h2]
    exact o.inc i (i + 1) _ _ h1 h2 (Nat.lt_succ_self _)
  · rw [lbl_out (by omega)]
    exact o.top _ (List.getElem_mem hi)
theorem lbl_le (r : List (Nat × Nat)) (o : OrdOk r g) (i : Nat) : lbl r i ≤ 1024 := by
  by_cases h : i < r.length
  · rw [lbl_at (List.getElem?_eq_getElem h)]
    exact Nat.le_of_lt (o.top _ (List.getElem_mem h))
  · rw [lbl_out (by omega)]
    exact Nat.le_refl _
/-- a new mark behind spot i: the row ahead of it, perhaps labelled anew -/
def ahd (r : List (Nat × Nat)) (i : Nat) : List (Nat × Nat) := if lbl r (i + 1) - lbl r i < 2 then relab r else r
def anewN (r : List (Nat × Nat)) (i : Nat) : Nat := if lbl r (i + 1) - lbl r i < 2 then 1 else 0
def newL (r : List (Nat × Nat)) (i : Nat) : Nat := (lbl (ahd r i) i + lbl (ahd r i) (i + 1)) / 2
def bhd (r : List (Nat × Nat)) (g i : Nat) : List (Nat × Nat) := (ahd r i).take (i + 1) ++ [(g, newL r i)] ++ (ahd r i).drop (i + 1)
theorem ahd_ok (o : OrdOk r g) : OrdOk (ahd r i) g := by
  unfold ahd
  split
  · exact relab_ok o
  · exact o
theorem ahd_len : (ahd r i).length = r.length := by
  unfold ahd
  split
  · exact relab_len
  · rfl
theorem ahd_mkV : (ahd r i).map mkV = r.map mkV := by
  unfold ahd
  split
  · exact relab_mkV
  · rfl
theorem ahd_mark (h : r[i]? = some (m, l)) : ∃ l', (ahd r j)[i]? = some (m, l') := by
  unfold ahd
  split
  · exact ⟨_, by rw [relab_at, h]; rfl⟩
  · exact ⟨l, h⟩
theorem ahd_gap (o : OrdOk r g) (hi : i < r.length) : lbl (ahd r i) i + 2 ≤ lbl (ahd r i) (i + 1) := by
  have hlt := lbl_lt o hi
  unfold ahd
  split
  · obtain ⟨h5, hs⟩ := step_pos o
    have h1 : (relab r)[i]? = some (r[i].1, i * (1024 / r.length)) := by rw [relab_at, List.getElem?_eq_getElem hi]; rfl
    rw [lbl_at h1]
    by_cases h : i + 1 < r.length
    · have h2 : (relab r)[i + 1]? = some (r[i + 1].1, (i + 1) * (1024 / r.length)) := by rw [relab_at, List.getElem?_eq_getElem h]; rfl
      rw [lbl_at h2]
      show i * (1024 / r.length) + 2 ≤ (i + 1) * (1024 / r.length)
      rw [Nat.succ_mul]
      omega
    · rw [lbl_out (by rw [relab_len]; omega)]
      have : (i + 1) * (1024 / r.length) ≤ r.length * (1024 / r.length) := Nat.mul_le_mul_right _ hi
      rw [Nat.succ_mul] at this
      show i * (1024 / r.length) + 2 ≤ 1024
      omega
  · omega
theorem ins_at {α : Type} {xs : List α} {k j : Nat} {x : α} (hk : k ≤ xs.length) : (xs.take k ++ [x] ++ xs.drop k)[j]? = if j < k then xs[j]? else if j = k then some x else xs[j - 1]? := by
  have hl : (xs.take k).length = k := by rw [List.length_take]; omega
  by_cases h1 : j < k
  · rw [if_pos h1, List.append_assoc, List.getElem?_append_left (by omega), List.getElem?_take_of_lt h1]
  · rw [if_neg h1]
    by_cases h2 : j = k
    · rw [if_pos h2, List.append_assoc, List.getElem?_append_right (by omega), hl, h2, Nat.sub_self]
      rfl
    · rw [if_neg h2, List.getElem?_append_right (by rw [List.length_append, hl]; show k + 1 ≤ j; omega), List.length_append, hl, List.getElem?_drop]
      congr 1
      show k + (j - (k + 1)) = j - 1
      omega
theorem ins_mem {α : Type} {xs : List α} {k : Nat} {x y : α} : y ∈ xs.take k ++ [x] ++ xs.drop k ↔ y ∈ xs ∨ y = x := by
  rw [List.mem_append, List.mem_append, List.mem_singleton]
  constructor
  · rintro ((h | h) | h)
    · exact .inl (List.mem_of_mem_take h)
    · exact .inr h
    · exact .inl (List.mem_of_mem_drop h)
  · rintro (h | h)
    · rw [← List.take_append_drop k xs] at h
      rcases List.mem_append.mp h with z | z
      · exact .inl (.inl z)
      · exact .inr z
    · exact .inl (.inr h)
theorem bhd_at (hi : i < r.length) : (bhd r g i)[j]? = if j < i + 1 then (ahd r i)[j]? else if j = i + 1 then some (g, newL r i) else (ahd r i)[j - 1]? := ins_at (by rw [ahd_len]; exact hi)
theorem bhd_mem (p : Nat × Nat) : p ∈ bhd r g i ↔ p ∈ ahd r i ∨ p = (g, newL r i) := ins_mem
theorem bhd_len (hi : i < r.length) : (bhd r g i).length = r.length + 1 := by
  unfold bhd
  rw [List.length_append, List.length_append, List.length_take, List.length_drop, ahd_len]
  show min (i + 1) r.length + 1 + (r.length - (i + 1)) = r.length + 1
  omega
theorem bhd_mkV : (bhd r g i).map mkV = (r.map mkV).take (i + 1) ++ [nV g] ++ (r.map mkV).drop (i + 1) := by
  unfold bhd
  rw [List.map_append, List.map_append, List.map_take, List.map_drop, ahd_mkV]
  rfl
theorem bhd_ok (o : OrdOk r g) (hi : i < r.length) (hl : r.length < 200) : OrdOk (bhd r g i) (g + 1) := by
  have o2 := ahd_ok (i := i) o
  have hgap := ahd_gap o hi
  have hn1 : lbl (ahd r i) i < newL r i := by unfold newL; omega
  have hn2 : newL r i < lbl (ahd r i) (i + 1) := by unfold newL; omega
  have htop := lbl_le (ahd r i) o2 (i + 1)
  have hal := ahd_len (r := r) (i := i)
  -- an entry: an old one at its spot, or the new one
  have at' : ∀ {j p}, (bhd r g i)[j]? = some p → (∃ j', (ahd r i)[j']? = some p ∧ ((j ≤ i ∧ j' = j) ∨ (i + 1 < j ∧ j' + 1 = j))) ∨ (j = i + 1 ∧ p = (g, newL r i)) := fun {j p} h => by
    rw [bhd_at hi] at h
    split at h
    · exact .inl ⟨j, h, .inl ⟨by omega, rfl⟩⟩
    · split at h
      · cases h
        exact .inr ⟨by assumption, rfl⟩
      · exact .inl ⟨j - 1, h, .inr ⟨by omega, by omega⟩⟩
  have le1 : ∀ {j p}, (ahd r i)[j]? = some p → j ≤ i → p.2 ≤ lbl (ahd r i) i := fun {j p} h hj => by
    have h1 : (ahd r i)[i]? = some (ahd r i)[i] := List.getElem?_eq_getElem (by omega)
    rw [lbl_at h1]
    by_cases e : j = i
    · subst e
      rw [h1] at h
      cases h
      exact Nat.le_refl _
    · exact Nat.le_of_lt (o2.inc j i _ _ h h1 (by omega))
  have ge1 : ∀ {j p}, (ahd r i)[j]? = some p → i < j → lbl (ahd r i) (i + 1) ≤ p.2 := fun {j p} h hj => by
    have hjl := (List.getElem?_eq_some_iff.mp h).1
    have h1 : (ahd r i)[i + 1]? = some (ahd r i)[i + 1] := List.getElem?_eq_getElem (by omega)
    rw [lbl_at h1]
    by_cases e : j = i + 1
    · subst e
      rw [h1] at h
      cases h
      exact Nat.le_refl _
    · exact Nat.le_of_lt (o2.inc (i + 1) j _ _ h1 h (by omega))
  refine ⟨by rw [bhd_len hi]; omega, by rw [bhd_len hi]; omega, fun p hp => ?_, fun a b p q ha hb e => ?_, fun a b p q ha hb e => ?_, fun p hp => ?_⟩
  · rcases (bhd_mem p).mp hp with h | h
    · have := o2.lt p h
      omega
    · subst h
      exact Nat.lt_succ_self _
  · rcases at' ha with ⟨a', ha', ea⟩ | ⟨ea, rfl⟩
    · rcases at' hb with ⟨b', hb', eb⟩ | ⟨eb, rfl⟩
      · have := o2.nd a' b' p q ha' hb' e
        omega
      · have := o2.lt p (List.mem_of_getElem? ha')
        have e2 : p.1 = g := e
        omega
    · rcases at' hb with ⟨b', hb', eb⟩ | ⟨eb, rfl⟩
      · have := o2.lt q (List.mem_of_getElem? hb')
        have e2 : g = q.1 := e
        omega
      · omega
  · rcases at' ha with ⟨a', ha', ea⟩ | ⟨ea, rfl⟩
    · rcases at' hb with ⟨b', hb', eb⟩ | ⟨eb, rfl⟩
      · exact o2.inc a' b' p q ha' hb' (by omega)
      · have := le1 ha' (by omega)
        show p.2 < newL r i
        omega
    · rcases at' hb with ⟨b', hb', eb⟩ | ⟨eb, rfl⟩
      · have := ge1 hb' (by omega)
        show newL r i < q.2
        omega
      · omega
  · rcases (bhd_mem p).mp hp with h | h
    · exact o2.top p h
    · subst h
      show newL r i < 1024
      omega
theorem erase_at {α : Type} {xs : List α} {k j : Nat} : (xs.eraseIdx k)[j]? = if j < k then xs[j]? else xs[j + 1]? := by
  rw [List.getElem?_eraseIdx]
theorem erase_map {α β : Type} {f : α → β} {xs : List α} {k : Nat} : (xs.map f).eraseIdx k = (xs.eraseIdx k).map f := by
  refine List.ext_getElem? fun j => ?_
  rw [erase_at, List.getElem?_map, List.getElem?_map, List.getElem?_map, erase_at]
  split <;> rfl
theorem drop_ok (o : OrdOk r g) (hl : 1 < r.length) : OrdOk (r.eraseIdx i) g := by
  have at' : ∀ {j p}, (r.eraseIdx i)[j]? = some p → ∃ j', r[j']? = some p ∧ ((j < i ∧ j' = j) ∨ (i ≤ j ∧ j' = j + 1)) := fun {j p} h => by
    rw [erase_at] at h
    split at h
    · exact ⟨j, h, .inl ⟨by assumption, rfl⟩⟩
    · exact ⟨j + 1, h, .inr ⟨by omega, rfl⟩⟩
  have hlen : (r.eraseIdx i).length ≤ r.length ∧ r.length ≤ (r.eraseIdx i).length + 1 := by
    rw [List.length_eraseIdx]
    split <;> omega
  have := o.len
  refine ⟨by omega, by omega, fun p hp => ?_, fun a b p q ha hb e => ?_, fun a b p q ha hb e => ?_, fun p hp => ?_⟩
  · exact o.lt p (List.mem_of_mem_eraseIdx hp)
  · obtain ⟨a', ha', ea⟩ := at' ha
    obtain ⟨b', hb', eb⟩ := at' hb
    have := o.nd a' b' p q ha' hb' e
    omega
  · obtain ⟨a', ha', ea⟩ := at' ha
    obtain ⟨b', hb', eb⟩ := at' hb
    exact o.inc a' b' p q ha' hb' (by omega)
  · exact o.top p (List.mem_of_mem_eraseIdx hp)
theorem drop_mem (o : OrdOk r g) (hi : r[i]? = some (m, l)) (p : Nat × Nat) : p ∈ r.eraseIdx i ↔ p ∈ r ∧ p.1 ≠ m := by
  constructor
  · intro h
    obtain ⟨j, hj⟩ := List.getElem?_of_mem h
    rw [erase_at] at hj
    refine ⟨List.mem_of_mem_eraseIdx h, fun e => ?_⟩
    split at hj
    · have := o.nd i j (m, l) p hi hj e.symm
      omega
    · have := o.nd i (j + 1) (m, l) p hi hj e.symm
      omega
  · rintro ⟨h, e⟩
    obtain ⟨j, hj⟩ := List.getElem?_of_mem h
    have hij : j ≠ i := fun z => by
      subst z
      rw [hi] at hj
      cases hj
      exact e rfl
    by_cases hlt : j < i
    · exact List.mem_of_getElem? (i := j) (by rw [erase_at, if_pos hlt]; exact hj)
    · exact List.mem_of_getElem? (i := j - 1) (by rw [erase_at, if_neg (by omega), show j - 1 + 1 = j by omega]; exact hj)
theorem ord1 : OrdOk [(0, 0)] 1 := by
  have at' : ∀ {i p}, ([(0, 0)] : List (Nat × Nat))[i]? = some p → i = 0 ∧ p = (0, 0) := fun {i p} h => by
    cases i with
    | zero => cases h; exact ⟨rfl, rfl⟩
    | succ i => simp at h
  refine ⟨by decide, by decide, fun p hp => ?_, fun i j p q hi hj _ => by have := (at' hi).1; have := (at' hj).1; omega, fun i j p q hi hj h => by have := (at' hi).1; have := (at' hj).1; omega, fun p hp => ?_⟩
  · rw [List.mem_singleton.mp hp]
    decide
  · rw [List.mem_singleton.mp hp]
    decide
theorem lab1 : Lab [(.inl 0, nV 0)] [(0, 0)] := by
  refine ⟨fun p hp => ?_, fun z hz => ?_⟩
  · rw [List.mem_singleton.mp hp]
    rfl
  · have := hz (0, 0) List.mem_cons_self
    exact valV_neg (fun e => this (Sum.inl.inj e))
theorem mk_nd (o : OrdOk r g) (hi : r[i]? = some (m, l)) : ∀ j, j < i → (r.map (·.1))[j]? ≠ some m := fun j hj e => by
  rw [List.getElem?_map] at e
  obtain ⟨q, hq, e2⟩ := Option.map_eq_some_iff.mp e
  have := o.nd j i q (m, l) hq hi e2
  omega
theorem mkV_eq : r.map mkV = (r.map (·.1)).map nV := by rw [List.map_map]; rfl
end
end Lawk44

namespace Lawk44
open PySem PySem.Spec PyProof.Rows L2 MK
abbrev Order_o (K : PySem.W.Frag) (t dx s l : Addr) (g tm : Nat) : SP := pt t (.ins (He.ga K "Order") dx [("standing", .ref s), ("labelled", .ref l), ("given", nV g), ("times", nV tm)])
def ord (K : PySem.W.Frag) (t : Addr) (r : List (Nat × Nat)) (g tm : Nat) : SP := ex fun dx : Addr => ex fun s : Addr => ex fun l : Addr => ex fun kvs : List (Key × V) => sep [pr (OrdOk r g ∧ Lab kvs r ∧ kvs.length ≤ g ∧ g ≤ 100000), Order_o K t dx s l g tm, pt s (.lst (r.map mkV)), pt l (.dK kvs)]
section
variable {K : PySem.W.Frag} {F : List SP} {H : Hp} {Q : VK} {E : XK} {t dx s l u : Addr} {r : List (Nat × Nat)} {g tm m lb i : Nat} {kvs : List (Key × V)}
theorem ord_iff : Star H (ord K t r g tm :: F) ↔ ∃ dx s l kvs, (OrdOk r g ∧ Lab kvs r ∧ kvs.length ≤ g ∧ g ≤ 100000) ∧ Star H (Order_o K t dx s l g tm :: pt s (.lst (r.map mkV)) :: pt l (.dK kvs) :: F) := by
  unfold ord
  simp only [Star.ex_iff, Star.sep_iff, List.cons_append, List.nil_append, Star.pr_iff]
theorem ord_i (o : OrdOk r g) (hl : Lab kvs r) (hk : kvs.length ≤ g) (hg : g ≤ 100000) : Fr (Order_o K t dx s l g tm :: pt s (.lst (r.map mkV)) :: pt l (.dK kvs) :: F) (ord K t r g tm :: F) := fun H S => ord_iff.mpr ⟨dx, s, l, kvs, ⟨o, hl, hk, hg⟩, S⟩
theorem ord_ok (S : Star H (ord K t r g tm :: F)) : OrdOk r g := by
  obtain ⟨_, _, _, _, ⟨o, _⟩, _⟩ := ord_iff.mp S
  exact o
theorem ord_g (S : Star H (ord K t r g tm :: F)) : g ≤ 100000 := by
  obtain ⟨_, _, _, _, ⟨_, _, _, h⟩, _⟩ := ord_iff.mp S
  exact h
abbrev isOrd (m : Str) : Prop := m ≠ "standing" ∧ m ≠ "labelled" ∧ m ≠ "given" ∧ m ≠ "times"
theorem look4 {m : Str} {v u x y : V} (h : isOrd m) : List.lookup m [("standing", v), ("labelled", u), ("given", x), ("times", y)] = none := by
  have h1 : (m == ("standing" : Str)) = false := beq_eq_false_iff_ne.mpr h.1
  have h2 : (m == ("labelled" : Str)) = false := beq_eq_false_iff_ne.mpr h.2.1
  have h3 : (m == ("given" : Str)) = false := beq_eq_false_iff_ne.mpr h.2.2.1
  have h4 : (m == ("times" : Str)) = false := beq_eq_false_iff_ne.mpr h.2.2.2
  simp [List.lookup, h1, h2, h3, h4]
theorem dsp_o {spO : Sp} {m : Str} {R : Sp → Prop} (S : Star H (ord K t r g tm :: F)) (h : isOrd m) (q : R spO) : dspX [(He.ga K "Order", spO)] m (.ref t) H R := by
  obtain ⟨dx, s, l, kvs, _, S⟩ := ord_iff.mp S
  exact dsp_i S.get List.mem_cons_self (look4 h) q
theorem Order_init_ok (S : Star H (pt t (.ins (He.ga K "Order") dx []) :: F)) (k : ∀ H', Star H' (ord K t [(0, 0)] 1 0 :: F) → Q .non H') : sp_Order_init K [.ref t] H Q E := by
  refine sp_Order_init_i ?_
  walk_at "go"
  refine al_l S fun s H1 S => ?_
  walk_at "go"
  refine stf_S S.p1 List.mem_cons_self (by decide) fun H1 S => ?_
  walk_at "go"
  refine al_d S fun l H1 S => ?_
  walk_at "go"
  refine dis_S [(.inl 0, .int 0)] S rfl rfl (show 1 ≤ 15 by decide) fun H2 S => ?_
  walk_at "go"
  refine stf_S S.p1 List.mem_cons_self (by show 1 < 1000; decide) fun H1 S => ?_
  walk_at "go"
  refine stf_S S List.mem_cons_self (by show 2 < 1000; decide) fun H1 S => ?_
  walk_at "go"
  refine stf_S S List.mem_cons_self (by show 3 < 1000; decide) fun H1 S => ?_
  walk_at "w"
  refine k _ (Star.fr (ps := Order_o K t dx s l 1 0 :: pt s (.lst ([((0 : Nat), (0 : Nat))].map mkV)) :: pt l (.dK [(.inl 0, nV 0)]) :: F) (S.fr (Fr.c0 (Fr.c1 (Fr.c0 (Fr.refl _))))) (ord_i ord1 lab1 (by decide) (by decide)))
theorem Order_need_ok (S : Star H (Order_o K t dx s l g tm :: pt l (.dK kvs) :: F)) (o : OrdOk r g) (hl : Lab kvs r) (hi : r[i]? = some (m, lb)) (k : Q .non H) : sp_Order_need_mark K [.ref t, nV m] H Q E := by
  have hm := o.lt _ (List.mem_of_getElem? hi)
  have hm : m < g := hm
  refine sp_Order_need_mark_i ?_
  walk_at "go"
  have S1 : Star H (dat (nV m) (.int (m : Nat)) :: F) := S.fr (by walk_at "fr")
  refine is_whole_ok S1 ?_
  rw [wholeD_int, decide_eq_true (by omega), decide_eq_true (by omega)]
  walk_at "go"
  refine in_di S.p1.get ?_
  rw [hl.yes _ (List.mem_of_getElem? hi)]
  walk_at "go"
  exact k
/-- no mark that stands -/
def noMk (r : List (Nat × Nat)) (g : Nat) (d : PyData) : Prop := wholeD d 0 ((g : Nat) - 1 : Int) = false ∨ ∃ z : Int, d = .int z ∧ ∀ p ∈ r, ((p.1 : Nat) : Int) ≠ z
theorem Order_need_bad {v : V} {d : PyData} (S : Star H (dat v d :: Order_o K t dx s l g tm :: pt l (.dK kvs) :: F)) (hl : Lab kvs r) (hb : noMk r g d) (k : ∀ H' e, Star H' (pt e (.xd [("found", v)]) :: dat v d :: Order_o K t dx s l g tm :: pt l (.dK kvs) :: F) → E (.ref (He.ga K "NoMark")) (some e) H') : sp_Order_need_mark K [.ref t, v] H Q E := by
  refine sp_Order_need_mark_i ?_
  walk_at "go"
  refine is_whole_ok S ?_
  have fin : sRaise (He.ga K "NoMark") ["found"] (wE E) (aC (eV 1) aN) (endOf Q) [some (.ref t), some v] H := by
    walk_at "go"
    refine nwx_S (fs' := [("found", v)]) S fun e H1 S => ?_
    exact k _ _ S
  rcases hb with hb | ⟨z, rfl, hz⟩
  · rw [hb]
    exact fin
  · cases hw : wholeD (.int z) 0 ((g : Nat) - 1 : Int) with
    | false => exact fin
    | true =>
      obtain ⟨rfl, _⟩ := dat_i.mp S
      walk_at "go"
      refine in_di S.p2.get ?_
      rw [hl.no z hz]
      exact fin
theorem Order_lbl_ok (S : Star H (Order_o K t dx s l g tm :: pt s (.lst (r.map mkV)) :: pt l (.dK kvs) :: F)) (hl : Lab kvs r) (k : Q (nV (lbl r (i + 1))) H) : sp_Order_label_behind K [.ref t, nV i] H Q E := by
  refine sp_Order_label_behind_i ?_
  walk_at "go"
  rw [List.length_map]
  refine brd (fun hc => ?_) (fun hc => ?_)
  · have hi : i + 1 < r.length := by omega
    have e : r[i + 1]? = some (r[i + 1].1, r[i + 1].2) := List.getElem?_eq_getElem hi
    walk_at "go"
    refine ix_l S.p1.get (v := nV r[i + 1].1) ?_ ?_
    · have e2 : (i : Int) + 1 = ((i + 1 : Nat) : Int) := by omega
      rw [e2]
      exact atI_n (by rw [List.getElem?_map, e]; rfl)
    refine ixd_i S.p2.get (hl.yes _ (List.mem_of_getElem? e)) ?_
    rw [lbl_at e] at k
    exact k
  · walk_at "go"
    rw [lbl_out (by omega)] at k
    exact k
theorem Order_all_ok (S : Star H (Order_o K t dx s l g tm :: pt s (.lst (r.map mkV)) :: pt l (.dK kvs) :: F)) (o : OrdOk r g) (hl : Lab kvs r) (hk : kvs.length ≤ g) (hg : g ≤ 100000)
    (k : ∀ H' kvs', Lab kvs' (relab r) → kvs'.length ≤ g → Star H' (Order_o K t dx s l g (tm + 1) :: pt s (.lst ((relab r).map mkV)) :: pt l (.dK kvs') :: F) → Q .non H') : sp_Order_label_all K [.ref t] H Q E := by
  have h1 := o.ne
  have h2 := o.len
  have h3 : 0 < (r.map mkV).length ∧ (r.map mkV).length ≤ 200 := by
    rw [List.length_map]
    exact ⟨h1, h2⟩
  refine sp_Order_label_all_i ?_
  walk_at "go"
  rw [List.length_map]
  have e1 : (1024 : Int) / ((r.length : Nat) : Int) = ((1024 / r.length : Nat) : Int) := by rw [Int.natCast_ediv]; rfl
  rw [e1]
  refine en_l S.p1.get ?_
  refine Loop.it walk_enum (fun i σ H => ∃ kvs' y2 y3, Lab kvs' (relN r (1024 / r.length) i) ∧ kvs'.length = kvs.length ∧ Star H (Order_o K t dx s l g tm :: pt s (.lst (r.map mkV)) :: pt l (.dK kvs') :: F) ∧ σ = [some (.ref t), some (nV (1024 / r.length)), y2, y3]) ⟨kvs, _, _, hl, rfl, S, rfl⟩ (fun i σ H _ ⟨_, _, _, _, _, z, _⟩ => .of z.p1.get) ?_ ?_
  · rintro i v σ H2 H3 hi ⟨kvs', y2, y3, hl', hk', S, rfl⟩ y
    obtain ⟨T, x, z, rfl, e2, e3, S2⟩ := pair_S S y
    cases e2
    have hi' : i < r.length := by rw [List.length_map] at hi; exact hi
    have e4 : r[i]? = some (r[i].1, r[i].2) := List.getElem?_eq_getElem hi'
    rw [List.getElem?_map, e4] at e3
    cases e3
    unfold gU
    refine unp_t S2.getF rfl ?_
    walk_at "go"
    refine setd_i (S2.p3) (by omega) fun H4 S => ?_
    walk_at "w"
    have e5 : (i : Int) * ((1024 / r.length : Nat) : Int) = ((i * (1024 / r.length) : Nat) : Int) := by rw [Int.natCast_mul]
    rw [e5] at S
    have e6 : (relN r (1024 / r.length) i)[i]? = some (r[i].1, r[i].2) := by rw [relN_at, if_neg (Nat.lt_irrefl _)]; exact e4
    have ndN : ∀ (a b : Nat) (p q : Nat × Nat), (relN r (1024 / r.length) i)[a]? = some p → (relN r (1024 / r.length) i)[b]? = some q → p.1 = q.1 → a = b := fun a b p q ha hb e => by
      have mk : ∀ {a : Nat} {p : Nat × Nat}, (relN r (1024 / r.length) i)[a]? = some p → ∃ p', r[a]? = some p' ∧ p'.1 = p.1 := fun {a p} h => by
        rw [relN_at] at h
        split at h
        · obtain ⟨p', hp', rfl⟩ := Option.map_eq_some_iff.mp h
          exact ⟨p', hp', rfl⟩
        · exact ⟨p, h, rfl⟩
      obtain ⟨p', hp', e1⟩ := mk ha
      obtain ⟨q', hq', e2⟩ := mk hb
      exact o.nd a b p' q' hp' hq' (by rw [e1, e2, e])
    have hset := hl'.set e6 ndN (i * (1024 / r.length))
    have e7 : relN r (1024 / r.length) (i + 1) = (relN r (1024 / r.length) i).set i (r[i].1, i * (1024 / r.length)) := by
      show (relN r (1024 / r.length) i).set i ((r.getD i (0, 0)).1, _) = _
      simp [List.getD, e4]
    refine ⟨_, _, _, by rw [e7]; exact hset, ?_, S.fr (by walk_at "fr"), rfl⟩
    rw [length_putK_in (hl'.yes _ (List.mem_of_getElem? e6)), hk']
  · rintro σ H2 ⟨kvs', y2, y3, hl', hk', S, rfl⟩
    rw [List.length_map] at hl'
    walk_at "go"
    refine stf_S S List.mem_cons_self (by show 4 < 1000; decide) fun H3 S => ?_
    walk_at "w"
    rw [← relab_mkV] at S
    exact k _ kvs' hl' (by omega) (S.fr (Fr.c0 (Fr.refl _)))
theorem Order_behind_ok (S : Star H (ord K t r g tm :: F)) (hi : r[i]? = some (m, lb)) (hl : r.length < 200) (hg : g < 100000) (k : ∀ H', Star H' (ord K t (bhd r g i) (g + 1) (tm + anewN r i) :: F) → Q (nV g) H') : sp_Order_behind K [.ref t, nV m] H Q E := by
  obtain ⟨dx, s, l, kvs, ⟨o, la, hk, _⟩, S⟩ := ord_iff.mp S
  have hil := (List.getElem?_eq_some_iff.mp hi).1
  refine sp_Order_behind_i ?_
  walk_at "go"
  refine Order_need_ok (S.fr (by walk_at "fr")) o la hi ?_
  walk_at "go"
  rw [List.length_map]
  refine brd (fun hc => absurd hc (by omega)) (fun _ => ?_)
  walk_at "go"
  refine idx_S (f := s) (xs := r.map (·.1)) (j := i) (by rw [← mkV_eq]; exact S.p1) (by rw [List.getElem?_map, hi]; rfl) (mk_nd o hi) ?_
  dsimp only
  refine seq_cut (fun σ H => ∃ kvs', Lab kvs' (ahd r i) ∧ kvs'.length ≤ g ∧ Star H (Order_o K t dx s l g (tm + anewN r i) :: pt s (.lst ((ahd r i).map mkV)) :: pt l (.dK kvs') :: F) ∧ σ = [some (.ref t), some (nV m), some (nV i), none]) (fun kk => ?_) ?_
  · walk_at "go"
    refine Order_lbl_ok S la ?_
    walk_at "go"
    refine ixd_i S.p2.get (la.yes _ (List.mem_of_getElem? hi)) ?_
    have hlt := lbl_lt o hil
    rw [lbl_at hi] at hlt
    walk_at "go"
    refine brd (fun hc => ?_) (fun hc => ?_)
    · have hlt2 : lbl r (i + 1) - lbl r i < 2 := by
        rw [lbl_at hi]
        have : ((lbl r (i + 1) : Nat) : Int) - ((lb : Nat) : Int) < 2 := hc
        show lbl r (i + 1) - lb < 2
        omega
      walk_at "go"
      refine Order_all_ok S o la hk (by omega) fun H1 kvs' la' hk' S => ?_
      walk_at "w"
      refine kk _ _ ⟨kvs', ?_, hk', ?_, rfl⟩
      · unfold ahd
        rw [if_pos hlt2]
        exact la'
      · unfold ahd anewN
        rw [if_pos hlt2, if_pos hlt2]
        exact S
    · have hlt2 : ¬ lbl r (i + 1) - lbl r i < 2 := by
        rw [lbl_at hi]
        have : ¬ ((lbl r (i + 1) : Nat) : Int) - ((lb : Nat) : Int) < 2 := hc
        have : lb < lbl r (i + 1) := hlt
        show ¬ lbl r (i + 1) - lb < 2
        omega
      walk_at "w"
      refine kk _ _ ⟨kvs, ?_, hk, ?_, rfl⟩
      · unfold ahd
        rw [if_neg hlt2]
        exact la
      · unfold ahd anewN
        rw [if_neg hlt2, if_neg hlt2]
        exact S
  · rintro σ H1 ⟨kvs', la', hk', S, rfl⟩
    obtain ⟨lb', hi'⟩ := ahd_mark (j := i) hi
    have o2 := ahd_ok (i := i) o
    have hal := ahd_len (r := r) (i := i)
    walk_at "go"
    refine ixd_i S.p2.get (la'.yes _ (List.mem_of_getElem? hi')) ?_
    walk_at "go"
    refine Order_lbl_ok S la' ?_
    walk_at "go"
    have e1 : (((lb' : Nat) : Int) + ((lbl (ahd r i) (i + 1) : Nat) : Int)) / 2 = ((newL r i : Nat) : Int) := by
      unfold newL
      rw [lbl_at hi', Int.natCast_ediv, Int.natCast_add]
      rfl
    have e1' : (((m, lb').2 : Nat) : Int) = ((lb' : Nat) : Int) := rfl
    first
      | rw [e1]
      | (rw [e1'] ; rw [e1])
    refine setd_i S.p2 (by omega) fun H2 S => ?_
    walk_at "go"
    have e2 : (i : Int) + 1 = ((i + 1 : Nat) : Int) := by omega
    rw [e2]
    have S : Star H2 (pt s (.lst ((ahd r i).map mkV)) :: Order_o K t dx s l g (tm + anewN r i) :: pt l (.dK (putK kvs' (.inl (g : Nat)) (nV (newL r i)))) :: F) := S.fr (by walk_at "fr")
    refine ins_S S (by rw [List.length_map]; omega) (by rw [List.length_map]; omega) fun H3 S => ?_
    walk_at "go"
    refine stf_S S.p1 List.mem_cons_self (by show 4 < 1000; decide) fun H4 S => ?_
    walk_at "w"
    have e3 : ((ahd r i).map mkV).take (i + 1) ++ [nV g] ++ ((ahd r i).map mkV).drop (i + 1) = (bhd r g i).map mkV := by rw [bhd_mkV, ahd_mkV]
    rw [e3] at S
    have la2 : Lab (putK kvs' (.inl (g : Nat)) (nV (newL r i))) (bhd r g i) := la'.ins (fun p hp => by have := o2.lt p hp; omega) (fun p => bhd_mem p)
    have hk2 := length_putK kvs' (.inl (g : Nat)) (nV (newL r i))
    refine k _ (Star.fr (ps := Order_o K t dx s l (g + 1) (tm + anewN r i) :: pt s (.lst ((bhd r g i).map mkV)) :: pt l (.dK (putK kvs' (.inl (g : Nat)) (nV (newL r i)))) :: F) (S.fr (Fr.c0 (Fr.c0 (Fr.c0 (Fr.refl _))))) (ord_i (bhd_ok o hil hl) la2 (by omega) (by omega)))
theorem Order_behind_full (S : Star H (ord K t r g tm :: F)) (hi : r[i]? = some (m, lb)) (hl : r.length = 200) (k : ∀ H' e, Star H' (pt e (.xd [("count", .int 201)]) :: ord K t r g tm :: F) → E (.ref (He.ga K "TooMany")) (some e) H') : sp_Order_behind K [.ref t, nV m] H Q E := by
  obtain ⟨dx, s, l, kvs, ⟨o, la, hk, hg⟩, S⟩ := ord_iff.mp S
  refine sp_Order_behind_i ?_
  walk_at "go"
  refine Order_need_ok (S.fr (by walk_at "fr")) o la hi ?_
  walk_at "go"
  rw [List.length_map]
  refine brd (fun _ => ?_) (fun hc => absurd (by omega) hc)
  walk_at "go"
  refine nwx_S (fs' := [("count", .int 201)]) S fun e H1 S => ?_
  exact k _ _ (S.fr (Fr.c0 (ord_i o la hk hg)))
theorem Order_drop_ok (S : Star H (ord K t r g tm :: F)) (hi : r[i]? = some (m, lb)) (hl : 1 < r.length) (k : ∀ H', Star H' (ord K t (r.eraseIdx i) g tm :: F) → Q .non H') : sp_Order_drop K [.ref t, nV m] H Q E := by
  obtain ⟨dx, s, l, kvs, ⟨o, la, hk, hg⟩, S⟩ := ord_iff.mp S
  refine sp_Order_drop_i ?_
  walk_at "go"
  refine Order_need_ok (S.fr (by walk_at "fr")) o la hi ?_
  walk_at "go"
  rw [List.length_map]
  refine brd (fun hc => absurd hc (by omega)) (fun _ => ?_)
  walk_at "go"
  have e1 : r.map mkV = (r.map fun p => ((p.1 : Nat) : Int)).map V.int := by rw [List.map_map]; rfl
  rw [e1] at S
  refine rem_S (j := i) (k := (m : Nat)) S.p1 (by rw [List.getElem?_map, hi]; rfl) (fun j hj e => ?_) fun H1 S => ?_
  · rw [List.getElem?_map] at e
    obtain ⟨q, hq, e2⟩ := Option.map_eq_some_iff.mp e
    have e3 : q.1 = m := by omega
    have := o.nd j i q (m, lb) hq hi e3
    omega
  walk_at "go"
  refine isd_S S.p2 ?_
  walk_at "go"
  refine dpop_i S.p2 (la.yes _ (List.mem_of_getElem? hi)) fun H2 S => ?_
  walk_at "w"
  have e4 : (((r.map fun p => ((p.1 : Nat) : Int)).eraseIdx i).map V.int) = (r.eraseIdx i).map mkV := by
    rw [← erase_map, ← e1, erase_map]
  rw [e4] at S
  have hk2 := dropK_le kvs (.inl ((m : Nat) : Int))
  exact k _ (Star.fr (ps := Order_o K t dx s l g tm :: pt s (.lst ((r.eraseIdx i).map mkV)) :: pt l (.dK (dropK kvs (.inl ((m : Nat) : Int)))) :: F) (S.fr (by walk_at "fr")) (ord_i (drop_ok o hl) (la.drop (drop_mem o hi)) (by omega) hg))
theorem Order_drop_alone (S : Star H (ord K t r g tm :: F)) (hi : r[i]? = some (m, lb)) (hl : r.length = 1) (k : ∀ H' e, Star H' (pt e (.xd [("found", nV m)]) :: ord K t r g tm :: F) → E (.ref (He.ga K "Alone")) (some e) H') : sp_Order_drop K [.ref t, nV m] H Q E := by
  obtain ⟨dx, s, l, kvs, ⟨o, la, hk, hg⟩, S⟩ := ord_iff.mp S
  refine sp_Order_drop_i ?_
  walk_at "go"
  refine Order_need_ok (S.fr (by walk_at "fr")) o la hi ?_
  walk_at "go"
  rw [List.length_map]
  refine brd (fun _ => ?_) (fun hc => absurd (by omega) hc)
  walk_at "go"
  refine nwx_S (fs' := [("found", nV m)]) S fun e H1 S => ?_
  exact k _ _ (S.fr (Fr.c0 (ord_i o la hk hg)))
theorem Order_marks_ok (S : Star H (ord K t r g tm :: F)) (k : ∀ H' f, Star H' (pt f (.lst (r.map mkV)) :: ord K t r g tm :: F) → Q (.ref f) H') : sp_Order_marks K [.ref t] H Q E := by
  obtain ⟨dx, s, l, kvs, ⟨o, la, hk, hg⟩, S⟩ := ord_iff.mp S
  refine sp_Order_marks_i ?_
  walk_at "go"
  refine list_S S S.p1.get fun f H1 S => ?_
  exact k _ _ (S.fr (Fr.c0 (ord_i o la hk hg)))
theorem Order_ahead_ok {j m2 lb2 : Nat} (S : Star H (ord K t r g tm :: F)) (hi : r[i]? = some (m, lb)) (hj : r[j]? = some (m2, lb2)) (k : Q (.bl (decide (i < j))) H) : sp_Order_ahead K [.ref t, nV m, nV m2] H Q E := by
  obtain ⟨dx, s, l, kvs, ⟨o, la, hk, hg⟩, S⟩ := ord_iff.mp S
  refine sp_Order_ahead_i ?_
  walk_at "go"
  refine Order_need_ok (S.fr (by walk_at "fr")) o la hi ?_
  walk_at "go"
  refine Order_need_ok (S.fr (by walk_at "fr")) o la hj ?_
  walk_at "go"
  refine ixd_i S.p2.get (la.yes _ (List.mem_of_getElem? hi)) ?_
  walk_at "go"
  refine ixd_i S.p2.get (la.yes _ (List.mem_of_getElem? hj)) ?_
  walk_at "w"
  have e : decide (((lb : Nat) : Int) < ((lb2 : Nat) : Int)) = decide (i < j) := by
    by_cases hij : i < j
    · have h : lb < lb2 := o.inc i j _ _ hi hj hij
      rw [decide_eq_true hij, decide_eq_true (by omega)]
    · rw [decide_eq_false hij, decide_eq_false]
      by_cases e : i = j
      · subst e
        rw [hi] at hj
        cases hj
        omega
      · have h : lb2 < lb := o.inc j i _ _ hj hi (by omega)
        omega
  rw [← e] at k
  exact k
theorem Order_copied_ok (S : Star H (ord K t r g tm :: F)) (k : ∀ H' u, Star H' (ord K u r g tm :: ord K t r g tm :: F) → Q (.ref u) H') : sp_Order_copied K [.ref t] H Q E := by
  obtain ⟨dx, s, l, kvs, ⟨o, la, hk, hg⟩, S⟩ := ord_iff.mp S
  refine sp_Order_copied_i ?_
  walk_at "w"
  intro x dx1 hx hd hne
  refine Order_init_ok (S.mkI hx hd hne) fun H1 S => ?_
  obtain ⟨dx2, s2, l2, kvs2, _, S⟩ := ord_iff.mp S
  walk_at "go"
  refine list_S S S.p4.get fun s3 H1 S => ?_
  walk_at "go"
  refine stf_S S.p1 List.mem_cons_self (by show 4 < 1000; decide) fun H1 S => ?_
  walk_at "go"
  refine dct_S S S.p6.get fun l3 H1 S => ?_
  walk_at "go"
  refine stf_S S.p1 List.mem_cons_self (by show 4 < 1000; decide) fun H1 S => ?_
  walk_at "go"
  refine stf_S S List.mem_cons_self (by show 4 < 1000; decide) fun H1 S => ?_
  walk_at "go"
  refine stf_S S List.mem_cons_self (by show 4 < 1000; decide) fun H1 S => ?_
  walk_at "w"
  have S2 : Star H1 (Order_o K x dx2 s3 l3 g tm :: pt s3 (.lst (r.map mkV)) :: pt l3 (.dK kvs) :: Order_o K t dx s l g tm :: pt s (.lst (r.map mkV)) :: pt l (.dK kvs) :: F) := S.fr (Fr.c0 (Fr.c1 (Fr.c0 (by walk_at "fr"))))
  exact k _ _ ((S2.fr (ord_i o la hk hg)).fr (Fr.c0 (ord_i o la hk hg)))
end
end Lawk44

namespace Lawk44
open PySem PySem.Spec PyProof.Rows L2 MK
/-! the row of kept makes by their coming, and its runs of one writer -/
/-- n right behind m -/
def insB (m n : Nat) : List Nat → List Nat
  | [] => []
  | x :: l => if x = m then x :: n :: l else x :: insB m n l
def lnP (tr : List Nat) : List Nat × Nat := tr.foldl (fun a m => (insB m a.2 a.1, a.2 + 1)) ([0], 1)
def lnO (tr : List Nat) : List Nat := (lnP tr).1
def RS.ln (s : RS) : List Nat := (lnO s.tr).filter (keepB s.gn)
/-- the first ones of runs, behind one whose writer is prev -/
def runA (f : Nat → Nat) : Nat → List Nat → List Nat
  | _, [] => []
  | prev, b :: l => if f b = prev then runA f prev l else b :: runA f (f b) l
def runs (f : Nat → Nat) : List Nat → List Nat
  | [] => []
  | a :: l => a :: runA f (f a) l
def lastf (f : Nat → Nat) (prev : Nat) (l : List Nat) : Nat := l.foldl (fun _ x => f x) prev
section
variable {m n x y i j p q k : Nat} {l A B tr : List Nat} {f g : Nat → Nat} {gn : List Bool} {s : RS} {z : Int}
theorem insB_mem : x ∈ insB m n l ↔ x ∈ l ∨ (m ∈ l ∧ x = n) := by
  induction l with
  | nil => simp [insB]
  | cons y l ih =>
    unfold insB
    by_cases e : y = m
    · rw [if_pos e]
      subst e
      simp only [List.mem_cons, true_or, true_and]
      constructor
      · rintro (h | h | h)
        · exact .inl (.inl h)
        · exact .inr h
        · exact .inl (.inr h)
      · rintro ((h | h) | h)
        · exact .inl h
        · exact .inr (.inr h)
        · exact .inr (.inl h)
    · rw [if_neg e, List.mem_cons, ih, List.mem_cons, List.mem_cons]
      have e' : ¬ m = y := fun z => e z.symm
      constructor
      · rintro (h | h | ⟨h1, h2⟩)
        · exact .inl (.inl h)
        · exact .inl (.inr h)
        · exact .inr ⟨.inr h1, h2⟩
      · rintro ((h | h) | ⟨h1 | h1, h2⟩)
        · exact .inl h
        · exact .inr (.inl h)
        · exact absurd h1 e'
        · exact .inr (.inr ⟨h1, h2⟩)
theorem insB_nd (hn : l.Nodup) (h : n ∉ l) : (insB m n l).Nodup := by
  induction l with
  | nil => exact List.nodup_nil
  | cons y l ih =>
    obtain ⟨h1, h2⟩ := List.nodup_cons.mp hn
    have hy : ¬ n = y := fun z => h (z ▸ List.mem_cons_self)
    have hl : n ∉ l := fun z => h (List.mem_cons_of_mem _ z)
    unfold insB
    by_cases e : y = m
    · rw [if_pos e]
      refine List.nodup_cons.mpr ⟨fun z => ?_, List.nodup_cons.mpr ⟨hl, h2⟩⟩
      rcases List.mem_cons.mp z with z | z
      · exact hy z.symm
      · exact h1 z
    · rw [if_neg e]
      refine List.nodup_cons.mpr ⟨fun z => ?_, ih h2 hl⟩
      rcases insB_mem.mp z with z | z
      · exact h1 z
      · exact hy z.2.symm
theorem insB_at (hn : l.Nodup) (h : l[i]? = some m) : insB m n l = l.take (i + 1) ++ n :: l.drop (i + 1) := by
  induction l generalizing i with
  | nil => nomatch h
  | cons y l ih =>
    obtain ⟨h1, h2⟩ := List.nodup_cons.mp hn
    unfold insB
    cases i with
    | zero =>
      have e : y = m := by simpa using h
      rw [if_pos e]
      rfl
    | succ i =>
      have h3 : l[i]? = some m := by simpa using h
      have e : ¬ y = m := fun z => h1 (z ▸ List.mem_of_getElem? h3)
      rw [if_neg e, ih h2 h3]
      rfl
theorem insB_filter (pk : Nat → Bool) (hm : pk m = true) (hn : pk n = true) : (insB m n l).filter pk = insB m n (l.filter pk) := by
  induction l with
  | nil => rfl
  | cons y l ih =>
    by_cases e : y = m
    · subst e
      rw [List.filter_cons_of_pos hm]
      unfold insB
      rw [if_pos rfl, if_pos rfl, List.filter_cons_of_pos hm, List.filter_cons_of_pos hn]
    · have e1 : insB m n (y :: l) = y :: insB m n l := by
        conv => lhs; unfold insB
        rw [if_neg e]
      rw [e1]
      cases hy : pk y with
      | true =>
        rw [List.filter_cons_of_pos hy, List.filter_cons_of_pos hy, ih]
        conv => rhs; unfold insB
        rw [if_neg e]
      | false =>
        have hy' : ¬ pk y = true := by rw [hy]; exact Bool.false_ne_true
        rw [List.filter_cons_of_neg hy', List.filter_cons_of_neg hy', ih]
theorem lnP_snoc : lnP (tr ++ [m]) = (insB m (lnP tr).2 (lnP tr).1, (lnP tr).2 + 1) := by
  unfold lnP
  rw [List.foldl_append]
  rfl
theorem lnP_num : (lnP tr).2 = tr.length + 1 := by
  have key : ∀ (tr : List Nat) (a : List Nat × Nat), (tr.foldl (fun a m => (insB m a.2 a.1, a.2 + 1)) a).2 = a.2 + tr.length := by
    intro tr
    induction tr with
    | nil => intro a; rfl
    | cons m tr ih =>
      intro a
      rw [List.foldl_cons, ih, List.length_cons]
      show a.2 + 1 + tr.length = _
      omega
  unfold lnP
  rw [key]
  show 1 + tr.length = _
  omega
theorem lnO_snoc : lnO (tr ++ [m]) = insB m (tr.length + 1) (lnO tr) := by
  unfold lnO
  rw [lnP_snoc, lnP_num]
theorem lnO_key (h : TreeOk tr (dep tr)) : ∀ k, k ≤ tr.length → (∀ x, x ∈ lnO (tr.take k) ↔ x < k + 1) ∧ (lnO (tr.take k)).Nodup := by
  have hb : ∀ i, i < tr.length → tr.getD i 0 ≤ i := fun i hi => by
    have := up1_lt h (show i + 1 < tr.length + 1 by omega) (Nat.succ_pos i)
    have e : up1 tr (i + 1) = tr.getD i 0 := rfl
    omega
  intro k
  induction k with
  | zero =>
    intro _
    refine ⟨fun x => ?_, show ([0] : List Nat).Nodup by decide⟩
    show x ∈ [0] ↔ _
    rw [List.mem_singleton]
    omega
  | succ k ih =>
    intro hk
    obtain ⟨h1, h2⟩ := ih (by omega)
    have e : tr.take (k + 1) = tr.take k ++ [tr.getD k 0] := by
      rw [List.take_succ, List.getElem?_eq_getElem (by omega), List.getD_eq_getElem?_getD, List.getElem?_eq_getElem (by omega)]
      rfl
    have el : (tr.take k).length = k := by
      rw [List.length_take]
      omega
    rw [e, lnO_snoc, el]
    have hm : tr.getD k 0 ∈ lnO (tr.take k) := (h1 _).mpr (by have := hb k (by omega); omega)
    have hno : k + 1 ∉ lnO (tr.take k) := fun z => by
      have := (h1 _).mp z
      omega
    refine ⟨fun x => ?_, insB_nd h2 hno⟩
    rw [insB_mem, h1]
    constructor
    · rintro (h | ⟨_, h⟩) <;> omega
    · intro h
      by_cases e : x = k + 1
      · exact .inr ⟨hm, e⟩
      · exact .inl (by omega)
theorem lnO_ok (h : TreeOk tr (dep tr)) : (∀ x, x ∈ lnO tr ↔ x < tr.length + 1) ∧ (lnO tr).Nodup := by
  have := lnO_key h tr.length (Nat.le_refl _)
  rw [List.take_length] at this
  exact this
theorem RSok.ln_mem (o : RSok s) : x ∈ s.ln ↔ x ∈ keptN s.gn := by
  unfold RS.ln keptN
  rw [List.mem_filter, List.mem_filter, (lnO_ok o.row.tree).1, List.mem_range, o.len]
theorem RSok.ln_nd (o : RSok s) : s.ln.Nodup := (lnO_ok o.row.tree).2.filter _
theorem keepB_of (h : x ∈ keptN gn) : keepB gn x = true := (List.mem_filter.mp h).2
theorem RSok.ln_put (o : RSok s) (hm : m ∈ keptN s.gn) : (s.put m p z).ln = insB m (s.tr.length + 1) s.ln := by
  have hml := o.lt hm
  show (lnO (s.tr ++ [m])).filter (keepB (s.gn ++ [false])) = _
  have hold : ∀ x, x < s.gn.length → keepB (s.gn ++ [false]) x = keepB s.gn x := fun x hx => by
    unfold keepB
    rw [List.getD_eq_getElem?_getD, List.getD_eq_getElem?_getD, List.getElem?_append_left hx]
  have hnew : keepB (s.gn ++ [false]) (s.tr.length + 1) = true := by
    unfold keepB
    rw [List.getD_eq_getElem?_getD, List.getElem?_append_right (by rw [o.len]; exact Nat.le_refl _), o.len, Nat.sub_self]
    rfl
  rw [lnO_snoc, insB_filter _ (by rw [hold m (by rw [o.len]; exact hml)]; exact keepB_of hm) hnew]
  congr 1
  unfold RS.ln
  refine List.filter_congr fun x hx => hold x ?_
  rw [o.len]
  exact ((lnO_ok o.row.tree).1 x).mp hx
theorem RSok.ln_go (hm : m < s.gn.length) : (s.go m).ln = s.ln.filter fun x => decide (x ≠ m) := by
  show (lnO s.tr).filter (keepB (s.gn.set m true)) = _
  unfold RS.ln
  rw [List.filter_filter]
  refine List.filter_congr fun x _ => ?_
  unfold keepB
  by_cases e : x = m
  · subst e
    rw [List.getD_eq_getElem?_getD, List.getElem?_set_self hm]
    simp
  · rw [List.getD_eq_getElem?_getD, List.getElem?_set_ne (Ne.symm e), decide_eq_true e, Bool.true_and, List.getD_eq_getElem?_getD]
/-! runs -/
theorem runA_sub : ∀ {l : List Nat} {prev : Nat}, ∀ x ∈ runA f prev l, x ∈ l
  | [], _, x, h => by cases h
  | b :: l, prev, x, h => by
    unfold runA at h
    by_cases e : f b = prev
    · rw [if_pos e] at h
      exact List.mem_cons_of_mem _ (runA_sub x h)
    · rw [if_neg e] at h
      rcases List.mem_cons.mp h with h | h
      · exact h ▸ List.mem_cons_self
      · exact List.mem_cons_of_mem _ (runA_sub x h)
theorem runs_sub : ∀ {l : List Nat}, ∀ x ∈ runs f l, x ∈ l
  | [], x, h => by cases h
  | a :: l, x, h => by
    rcases List.mem_cons.mp h with h | h
    · exact h ▸ List.mem_cons_self
    · exact List.mem_cons_of_mem _ (runA_sub x h)
theorem runA_len : ∀ {l : List Nat} {prev : Nat}, (runA f prev l).length ≤ l.length
  | [], _ => Nat.le_refl _
  | b :: l, prev => by
    unfold runA
    split
    · exact Nat.le_succ_of_le runA_len
    · exact Nat.succ_le_succ runA_len
theorem runs_len : (runs f l).length ≤ l.length := by
  cases l with
  | nil => exact Nat.le_refl _
  | cons a l => exact Nat.succ_le_succ runA_len
theorem runA_app : ∀ {A B : List Nat} {prev : Nat}, runA f prev (A ++ B) = runA f prev A ++ runA f (lastf f prev A) B
  | [], B, prev => rfl
  | b :: A, B, prev => by
    rw [List.cons_append]
    unfold runA
    by_cases e : f b = prev
    · rw [if_pos e, if_pos e, runA_app]
      have : lastf f prev (b :: A) = lastf f prev A := by
        unfold lastf
        rw [List.foldl_cons, e]
      rw [this]
      conv => rhs; rw [← runA.eq_def]
    · rw [if_neg e, if_neg e, runA_app, List.cons_append]
      have : lastf f prev (b :: A) = lastf f (f b) A := rfl
      rw [this]
      conv => rhs; rw [← runA.eq_def]
theorem runA_congr : ∀ {l : List Nat} {prev : Nat}, (∀ x ∈ l, f x = g x) → runA f prev l = runA g prev l
  | [], _, _ => rfl
  | b :: l, prev, h => by
    unfold runA
    rw [← h b List.mem_cons_self, runA_congr fun x hx => h x (List.mem_cons_of_mem _ hx), runA_congr fun x hx => h x (List.mem_cons_of_mem _ hx)]
theorem runs_congr (h : ∀ x ∈ l, f x = g x) : runs f l = runs g l := by
  cases l with
  | nil => rfl
  | cons a l =>
    show a :: runA f (f a) l = a :: runA g (g a) l
    rw [h a List.mem_cons_self, runA_congr fun x hx => h x (List.mem_cons_of_mem _ hx)]
end
end Lawk44

namespace Lawk44
open PySem PySem.Spec PyProof.Rows L2 MK
/-- what stands ahead of m -/
def upB (m : Nat) (l : List Nat) : List Nat := l.takeWhile fun x => decide (x ≠ m)
/-- how many runs begin up to m -/
def preN (f : Nat → Nat) (m : Nat) (l : List Nat) : Nat := (runs f (upB m l ++ [m])).length
section
variable {m n x y i j p q k b N : Nat} {l A B : List Nat} {f g : Nat → Nat}
theorem split_at : ∀ {l : List Nat}, m ∈ l → ∃ B, l = upB m l ++ m :: B
  | [], h => by cases h
  | x :: l, h => by
    unfold upB
    by_cases e : x = m
    · subst e
      exact ⟨l, by rw [List.takeWhile_cons_of_neg (by simp)]; rfl⟩
    · have h2 : m ∈ l := by
        rcases List.mem_cons.mp h with z | z
        · exact absurd z.symm e
        · exact z
      obtain ⟨B, hB⟩ := split_at h2
      refine ⟨B, ?_⟩
      rw [List.takeWhile_cons_of_pos (by simpa using e), List.cons_append]
      congr 1
theorem runs_split : ∀ {A : List Nat}, runs f (A ++ m :: B) = runs f (A ++ [m]) ++ runA f (f m) B
  | [] => rfl
  | a :: A => by
    have e : A ++ m :: B = (A ++ [m]) ++ B := by simp
    show a :: runA f (f a) (A ++ m :: B) = a :: runA f (f a) (A ++ [m]) ++ runA f (f m) B
    rw [e, runA_app, List.cons_append]
    congr 2
    unfold lastf
    rw [List.foldl_append]
    rfl
theorem runA_last : ∀ {l : List Nat} {prev : Nat}, (runA f prev l = [] ∧ lastf f prev l = prev) ∨ ∃ b, (runA f prev l).getLast? = some b ∧ f b = lastf f prev l
  | [], prev => .inl ⟨rfl, rfl⟩
  | c :: l, prev => by
    unfold runA
    have el : lastf f prev (c :: l) = lastf f (f c) l := rfl
    by_cases e : f c = prev
    · rw [if_pos e, el, e]
      exact runA_last
    · rw [if_neg e, el]
      have hq : (runA f (f c) l = [] ∧ lastf f (f c) l = f c) ∨ ∃ b, (runA f (f c) l).getLast? = some b ∧ f b = lastf f (f c) l := runA_last
      rcases hq with ⟨h1, h2⟩ | ⟨b, h1, h2⟩
      · rw [h1]
        exact .inr ⟨c, rfl, h2.symm⟩
      · exact .inr ⟨b, by rw [List.getLast?_cons, h1]; rfl, h2⟩
theorem runs_last : ∃ b, (runs f (A ++ [m])).getLast? = some b ∧ f b = f m := by
  cases A with
  | nil => exact ⟨m, rfl, rfl⟩
  | cons a A =>
    have el : lastf f (f a) (A ++ [m]) = f m := by
      unfold lastf
      rw [List.foldl_append]
      rfl
    show ∃ b, (a :: runA f (f a) (A ++ [m])).getLast? = some b ∧ _
    have hq : (runA f (f a) (A ++ [m]) = [] ∧ lastf f (f a) (A ++ [m]) = f a) ∨ ∃ b, (runA f (f a) (A ++ [m])).getLast? = some b ∧ f b = lastf f (f a) (A ++ [m]) := runA_last
    rcases hq with ⟨h1, h2⟩ | ⟨b, h1, h2⟩
    · rw [h1]
      exact ⟨a, rfl, by rw [← el, h2]⟩
    · exact ⟨b, by rw [List.getLast?_cons, h1]; rfl, by rw [h2, el]⟩
theorem preN_pos : 0 < preN f m l := by
  unfold preN
  cases upB m l with
  | nil => exact Nat.succ_pos _
  | cons a A => exact Nat.succ_pos _
theorem preN_le (h : m ∈ l) : preN f m l ≤ (runs f l).length := by
  obtain ⟨B, hB⟩ := split_at h
  unfold preN
  conv => rhs; rw [hB, runs_split, List.length_append]
  omega
/-- a run begins behind m just where its spot is beyond -/
theorem ahead_iff (hn : l.Nodup) (hm : m ∈ l) (hi : l[i]? = some m) (hj : l[j]? = some y) (hk : (runs f l)[k]? = some y) : i < j ↔ preN f m l ≤ k := by
  obtain ⟨B, hB⟩ := split_at hm
  obtain ⟨A, hA⟩ : ∃ A, A = upB m l := ⟨_, rfl⟩
  have hp : preN f m l = (runs f (A ++ [m])).length := by unfold preN; rw [hA]
  rw [← hA] at hB
  rw [hp]
  subst hB
  have hnm : m ∉ A := fun z => (List.nodup_append.mp hn).2.2 m z m List.mem_cons_self rfl
  have hAi : i = A.length := by
    have h1 : (A ++ m :: B)[A.length]? = some m := by rw [List.getElem?_append_right (Nat.le_refl _), Nat.sub_self]; rfl
    obtain ⟨a1, a2⟩ := List.getElem?_eq_some_iff.mp hi
    obtain ⟨b1, b2⟩ := List.getElem?_eq_some_iff.mp h1
    exact (List.getElem_inj hn).mp (a2.trans b2.symm)
  have hyA : y ∈ A ++ [m] ↔ j ≤ i := by
    obtain ⟨a1, a2⟩ := List.getElem?_eq_some_iff.mp hj
    constructor
    · intro h
      obtain ⟨j', h1, h2⟩ := List.mem_iff_getElem.mp h
      rw [List.length_append, List.length_singleton] at h1
      have h3 : (A ++ m :: B)[j']? = some y := by
        have e : A ++ m :: B = (A ++ [m]) ++ B := by simp
        rw [e, List.getElem?_append_left (by rw [List.length_append, List.length_singleton]; exact h1), List.getElem?_eq_getElem (by rw [List.length_append, List.length_singleton]; exact h1), h2]
      obtain ⟨b1, b2⟩ := List.getElem?_eq_some_iff.mp h3
      have := (List.getElem_inj hn).mp (a2.trans b2.symm)
      omega
    · intro h
      have e : A ++ m :: B = (A ++ [m]) ++ B := by simp
      rw [e, List.getElem?_append_left (by rw [List.length_append, List.length_singleton]; omega)] at hj
      exact List.mem_of_getElem? hj
  rw [runs_split] at hk
  have hdis : ∀ z ∈ A ++ [m], z ∉ B := fun z h1 h2 => by
    have e : A ++ m :: B = (A ++ [m]) ++ B := by simp
    rw [e] at hn
    exact (List.nodup_append.mp hn).2.2 z h1 z h2 rfl
  constructor
  · intro h
    refine Nat.le_of_not_lt fun z => ?_
    rw [List.getElem?_append_left z] at hk
    have := hyA.mp (runs_sub y (List.mem_of_getElem? hk))
    omega
  · intro h
    refine Nat.lt_of_not_le fun z => ?_
    rw [List.getElem?_append_right h] at hk
    exact hdis y (hyA.mpr z) (runA_sub y (List.mem_of_getElem? hk))
theorem spot_last (hm : m ∈ l) (hb : b + 1 = preN f m l) : ∃ y, (runs f l)[b]? = some y ∧ f y = f m := by
  obtain ⟨B, hB⟩ := split_at hm
  obtain ⟨y, h1, h2⟩ := runs_last (f := f) (A := upB m l) (m := m)
  refine ⟨y, ?_, h2⟩
  unfold preN at hb
  conv => lhs; rw [hB, runs_split]
  rw [List.getElem?_append_left (by omega)]
  rw [List.getLast?_eq_getElem?] at h1
  rw [← h1]
  congr 1
  omega
theorem runs_take (hm : m ∈ l) (hl : l = upB m l ++ m :: B) : (runs f l).take (preN f m l) = runs f (upB m l ++ [m]) ∧ (runs f l).drop (preN f m l) = runA f (f m) B := by
  unfold preN
  have e : runs f l = runs f (upB m l ++ [m]) ++ runA f (f m) B := by
    conv => lhs; rw [hl, runs_split]
  rw [e]
  exact ⟨List.take_left' rfl, List.drop_left' rfl⟩
/-- a new make with a writer of its own right behind m -/
theorem runs_new (hn : l.Nodup) (hm : m ∈ l) (hl : l = upB m l ++ m :: B) (hN : N ∉ l) (hfg : ∀ x ∈ l, g x = f x) (hgN : g N = N) (hfN : ∀ x ∈ l, f x ≠ N) :
    runs g (insB m N l) = (runs f l).take (preN f m l) ++ [N] ++ (B.take 1).filter (fun b => !decide (b ∈ runs f l)) ++ (runs f l).drop (preN f m l) := by
  obtain ⟨A, hA⟩ : ∃ A, A = upB m l := ⟨_, rfl⟩
  obtain ⟨t1, t2⟩ := runs_take (f := f) hm hl
  rw [t1, t2]
  rw [← hA] at hl ⊢
  have hli : l[A.length]? = some m := by
    rw [hl, List.getElem?_append_right (Nat.le_refl _), Nat.sub_self]
    rfl
  have e1 : insB m N l = (A ++ [m]) ++ N :: B := by
    rw [insB_at hn hli, hl]
    have e2 : A ++ m :: B = (A ++ [m]) ++ B := by simp
    have e3 : (A ++ [m]).length = A.length + 1 := by simp
    rw [e2, ← e3, List.take_left, List.drop_left]
  have hmA : ∀ x ∈ A ++ [m], x ∈ l := fun x hx => by
    rw [hl]
    rcases List.mem_append.mp hx with h | h
    · exact List.mem_append_left _ h
    · rw [List.mem_singleton.mp h]
      exact List.mem_append_right _ List.mem_cons_self
  have hmB : ∀ x ∈ B, x ∈ l := fun x hx => by
    rw [hl]
    exact List.mem_append_right _ (List.mem_cons_of_mem _ hx)
  have e4 : runs g ((A ++ [m]) ++ N :: B) = runs g (A ++ [m]) ++ runA g (f m) (N :: B) := by
    have e5 : (A ++ [m]) ++ N :: B = A ++ m :: (N :: B) := by simp
    rw [e5, runs_split, hfg m hm]
  have e6 : runA g (f m) (N :: B) = N :: runA g N B := by
    conv => lhs; unfold runA
    rw [hgN, if_neg (fun z => hfN m hm z.symm)]
  rw [e1, e4, e6, runs_congr (f := g) (g := f) (fun x hx => hfg x (hmA x hx))]
  have e7 : runA g N B = (B.take 1).filter (fun b => !decide (b ∈ runs f l)) ++ runA f (f m) B := by
    cases hB : B with
    | nil => rfl
    | cons b0 B' =>
      have hb0 : b0 ∈ l := hmB b0 (by rw [hB]; exact List.mem_cons_self)
      have hmB' : ∀ x ∈ B', x ∈ l := fun x hx => hmB x (by rw [hB]; exact List.mem_cons_of_mem _ hx)
      have e8 : runA g N (b0 :: B') = b0 :: runA f (f b0) B' := by
        conv => lhs; unfold runA
        rw [hfg b0 hb0, if_neg (hfN b0 hb0), runA_congr (g := f) (fun x hx => hfg x (hmB' x hx))]
      have hnd2 : ((A ++ [m]) ++ b0 :: B').Nodup := by
        have e9 : (A ++ [m]) ++ b0 :: B' = l := by rw [hl, hB]; simp
        rw [e9]
        exact hn
      have hb0A : b0 ∉ A ++ [m] := fun z => (List.nodup_append.mp hnd2).2.2 b0 z b0 List.mem_cons_self rfl
      have hb0B : b0 ∉ B' := (List.nodup_cons.mp (List.nodup_append.mp hnd2).2.1).1
      have er : runs f l = runs f (A ++ [m]) ++ runA f (f m) (b0 :: B') := by
        rw [hl, hB, runs_split]
      rw [e8, List.take_succ_cons, List.take_zero]
      by_cases e : f b0 = f m
      · have hno : b0 ∉ runs f l := fun z => by
          rw [er] at z
          rcases List.mem_append.mp z with z | z
          · exact hb0A (runs_sub _ z)
          · unfold runA at z
            rw [if_pos e] at z
            exact hb0B (runA_sub _ z)
        have ef : [b0].filter (fun b => !decide (b ∈ runs f l)) = [b0] := List.filter_cons_of_pos (p := fun b => !decide (b ∈ runs f l)) (by rw [decide_eq_false hno]; rfl)
        have ea : runA f (f m) (b0 :: B') = runA f (f b0) B' := by
          conv => lhs; unfold runA
          rw [if_pos e, e]
        rw [ef, ea]
        rfl
      · have ea : runA f (f m) (b0 :: B') = b0 :: runA f (f b0) B' := by
          conv => lhs; unfold runA
          rw [if_neg e]
        have hyes : b0 ∈ runs f l := by
          rw [er, ea]
          exact List.mem_append_right _ List.mem_cons_self
        have ef : [b0].filter (fun b => !decide (b ∈ runs f l)) = [] := List.filter_cons_of_neg (p := fun b => !decide (b ∈ runs f l)) (by rw [decide_eq_true hyes]; decide)
        rw [ef, ea]
        rfl
  rw [e7]
  simp
/-- a new make in the run of m -/
theorem runs_same (hn : l.Nodup) (hm : m ∈ l) (hfg : ∀ x ∈ l, g x = f x) (hgN : g N = f m) : runs g (insB m N l) = runs f l := by
  obtain ⟨B, hl⟩ := split_at hm
  obtain ⟨A, hA⟩ : ∃ A, A = upB m l := ⟨_, rfl⟩
  rw [← hA] at hl
  have hli : l[A.length]? = some m := by
    rw [hl, List.getElem?_append_right (Nat.le_refl _), Nat.sub_self]
    rfl
  have e1 : insB m N l = A ++ m :: (N :: B) := by
    rw [insB_at hn hli, hl]
    have e2 : A ++ m :: B = (A ++ [m]) ++ B := by simp
    have e3 : (A ++ [m]).length = A.length + 1 := by simp
    rw [e2, ← e3, List.take_left, List.drop_left]
    simp
  have hmA : ∀ x ∈ A ++ [m], x ∈ l := fun x hx => by
    rw [hl]
    rcases List.mem_append.mp hx with h | h
    · exact List.mem_append_left _ h
    · rw [List.mem_singleton.mp h]
      exact List.mem_append_right _ List.mem_cons_self
  have hmB : ∀ x ∈ B, x ∈ l := fun x hx => by
    rw [hl]
    exact List.mem_append_right _ (List.mem_cons_of_mem _ hx)
  have e6 : runA g (g m) (N :: B) = runA g (f m) B := by
    conv => lhs; unfold runA
    rw [hfg m hm, hgN, if_pos rfl]
  rw [e1, runs_split, e6, runs_congr (f := g) (g := f) (fun x hx => hfg x (hmA x hx)), runA_congr (g := f) (fun x hx => hfg x (hmB x hx)), ← runs_split, ← hl]
/-- each writer begins a run -/
theorem runs_all (hx : x ∈ l) : ∃ y ∈ runs f l, f y = f x := by
  obtain ⟨B, hB⟩ := split_at hx
  obtain ⟨y, h1, h2⟩ := runs_last (f := f) (A := upB x l) (m := x)
  refine ⟨y, ?_, h2⟩
  rw [hB, runs_split]
  exact List.mem_append_left _ (List.mem_of_getLast? h1)
theorem runs_snoc : runs f ((A ++ [m]) ++ [x]) = runs f (A ++ [m]) ++ (if f x = f m then [] else [x]) := by
  have e : (A ++ [m]) ++ [x] = A ++ m :: [x] := by simp
  rw [e, runs_split]
  congr 1
/-- one more of a row -/
theorem runs_step (hx : l[j]? = some x) : (j = 0 ∧ runs f (l.take (j + 1)) = [x] ∧ runs f (l.take j) = []) ∨ ∃ y, (runs f (l.take j)).getLast? = some y ∧ runs f (l.take (j + 1)) = runs f (l.take j) ++ (if f x = f y then [] else [x]) := by
  have e : l.take (j + 1) = l.take j ++ [x] := by rw [List.take_succ, hx]; rfl
  cases j with
  | zero =>
    refine .inl ⟨rfl, ?_, rfl⟩
    rw [e]
    rfl
  | succ j =>
    have hj := (List.getElem?_eq_some_iff.mp hx).1
    obtain ⟨m, hm⟩ : ∃ m, l[j]? = some m := ⟨_, List.getElem?_eq_getElem (by omega)⟩
    have e2 : l.take (j + 1) = l.take j ++ [m] := by rw [List.take_succ, hm]; rfl
    obtain ⟨y, h1, h2⟩ := runs_last (f := f) (A := l.take j) (m := m)
    refine .inr ⟨y, by rw [e2]; exact h1, ?_⟩
    rw [e, e2, runs_snoc, h2]
theorem erase_flt : ∀ {l : List Nat} {j m : Nat}, l.Nodup → l[j]? = some m → l.eraseIdx j = l.filter fun i => decide (i ≠ m)
  | [], _, _, _, h => nomatch h
  | x :: l, 0, m, hn, h => by
    have e : x = m := by simpa using h
    subst e
    have hx := (List.nodup_cons.mp hn).1
    rw [List.filter_cons_of_neg (by simp)]
    exact (List.filter_eq_self.mpr fun y hy => by
      have : y ≠ x := fun z => hx (z ▸ hy)
      simpa using this).symm
  | x :: l, j + 1, m, hn, h => by
    obtain ⟨hx, hn2⟩ := List.nodup_cons.mp hn
    have h2 : l[j]? = some m := by simpa using h
    have hne : x ≠ m := fun z => hx (z ▸ List.mem_of_getElem? h2)
    rw [List.filter_cons_of_pos (by simpa using hne), List.eraseIdx_cons_succ, erase_flt hn2 h2]
end
end Lawk44

namespace Lawk44
open PySem PySem.Spec PyProof.Rows L2 MK
/-! the boxed way: what it has of its own -/
structure BoxedO where
  bx : Addr
  pl : Addr
  ow : Addr
  mr : Addr
abbrev Boxed_own (o : BoxedO) : List (Str × V) := [("boxes", .ref o.bx), ("placed", .ref o.pl), ("owners", .ref o.ow), ("marked", .ref o.mr)]
abbrev Boxed_nm : List Str := ["boxes", "placed", "owners", "marked"]
abbrev BoxedX := Unit
abbrev Boxed_x0 (ws : List Int) : BoxedX := ()
def idK (l : List Nat) : List (Key × V) := l.map fun k => ((.inl ((k : Nat) : Int) : Key), nV k)
abbrev wrF (s : RS) (p : Nat) : Nat → Nat := fun k => s.w k p
def runK (s : RS) (p : Nat) : List Nat := runs (wrF s p) s.ln
def trn (s : RS) (p a : Nat) : PyData := MK.tz [((a : Nat) : Int), ((s.w a p : Nat) : Int), vlW s.ws s.wr p (s.w a p)]
def runT (s : RS) (p : Nat) : List PyData := (runK s p).map (trn s p)
def runsT (s : RS) : List PyData := (List.range s.ws.length).map fun p => .list (runT s p)
def BoxedH (K : PySem.W.Frag) (o : BoxedO) (s : RS) (x : BoxedX) : SP := ex fun r : List (Nat × Nat) => ex fun tm : Nat => ex fun bv : List V => sep [pr (r.map Prod.fst = s.ln), ord K o.pl r (s.tr.length + 1) tm, pt o.ow (.dK (idK (keptN s.gn))), pt o.mr (.dK (idK (keptN s.gn))), pt o.bx (.lst bv), dats bv (runsT s)]
/-- how often the runs of a place are halved -/
def hsB (P b e : Nat) : Nat :=
  if h : 1 < e - b then 1 + (if (b + e) / 2 < P then hsB P ((b + e) / 2) e else hsB P b ((b + e) / 2)) else 0
termination_by e - b
decreasing_by all_goals omega
def bst (s : RS) (m p : Nat) : Int := 1 + ((hsB (preN (wrF s p) m s.ln) 0 (runK s p).length : Nat) : Int)
def bsts (s : RS) (m lo : Nat) : Nat → Int
  | 0 => 0
  | n + 1 => bsts s m lo n + bst s m (lo + n)
abbrev Boxed_cc (s : RS) (x : BoxedX) (m lo hi : Nat) : Int := bsts s m lo (hi - lo)
abbrev Boxed_mx (s : RS) (x : BoxedX) (m : Nat) : BoxedX := ()
abbrev Boxed_pc (s : RS) (x : BoxedX) (m p : Nat) : Int := bst s m p
abbrev Boxed_px (s : RS) (x : BoxedX) (m p : Nat) (z : Int) : BoxedX := ()
abbrev Boxed_nw (s : RS) (m : Nat) : Prop := True
theorem Boxed_nw_new {s : RS} {m : Nat} (_ : m = s.tr.length) : Boxed_nw s m := True.intro
theorem BoxedH_iff {K : PySem.W.Frag} {o : BoxedO} {s : RS} {x : BoxedX} {H : Hp} {F : List SP} : Star H (BoxedH K o s x :: F) ↔ ∃ r tm bv, r.map Prod.fst = s.ln ∧ Star H (ord K o.pl r (s.tr.length + 1) tm :: pt o.ow (.dK (idK (keptN s.gn))) :: pt o.mr (.dK (idK (keptN s.gn))) :: pt o.bx (.lst bv) :: dats bv (runsT s) :: F) := by
  unfold BoxedH
  refine Star.ex_iff.trans (exists_congr fun r => Star.ex_iff.trans (exists_congr fun tm => Star.ex_iff.trans (exists_congr fun bv => Star.sep_iff.trans Star.pr_iff)))
section
variable {K : PySem.W.Frag} {F ps : List SP} {H : Hp} {Q : VK} {a b : Addr} {xs ys : List V} {lo hi : Option Int} {m n p q i k : Nat} {l : List Nat} {s : RS} {z : Int} {r : List (Nat × Nat)}
theorem catt_S (S : Star H ps) (ha : H a = some (.tup xs)) (hb : H b = some (.tup ys)) (hx : xs ≠ []) (hy : ys ≠ []) (hz : xs.length + ys.length ≤ 16777216) (q : ∀ p H', Star H' (fx p (.tup (xs ++ ys)) :: ps) → Q (.ref p) H') : addX K (.ref a) (.ref b) H Q := by
  unfold addX
  exact .inr (.inr ⟨a, b, xs, ys, rfl, rfl, .of ha, .of hb, by rw [sizeLine_eq]; exact hz, fun e => absurd e hx, fun _ e => absurd e hy, fun _ _ p hp => q p _ (S.newT hp)⟩)
theorem slt_S (S : Star H ps) (h : H a = some (.tup xs)) (hw : ¬ (HT.sIx xs.length 0 lo = 0 ∧ HT.sIx xs.length xs.length hi = xs.length)) (q : ∀ p H', Star H' (fx p (.tup (cutV xs lo hi)) :: ps) → Q (.ref p) H') : slX K (.ref a) lo hi H Q := by
  unfold slX
  exact .inr (.inl ⟨a, xs, rfl, .of h, fun e => absurd e hw, fun _ p hp => q p _ (S.newT hp)⟩)
theorem id_in : ∀ {l : List Nat}, k ∈ l → valV (idK l) (.inl ((k : Nat) : Int)) = some (nV k)
  | [], h => by cases h
  | x :: l, h => by
    by_cases e : x = k
    · subst e
      exact valV_pos rfl
    · have h2 : k ∈ l := by
        rcases List.mem_cons.mp h with z | z
        · exact absurd z.symm e
        · exact z
      exact (valV_neg (p := ((.inl ((x : Nat) : Int) : Key), nV x)) (r := idK l) (fun z => by injection z with z; omega)).trans (id_in h2)
theorem id_no : ∀ {l : List Nat}, k ∉ l → valV (idK l) (.inl ((k : Nat) : Int)) = none
  | [], _ => rfl
  | x :: l, h => by
    have e : ¬ x = k := fun e => h (by rw [e]; exact List.mem_cons_self)
    exact (valV_neg (p := ((.inl ((x : Nat) : Int) : Key), nV x)) (r := idK l) (fun z => by injection z with z; omega)).trans (id_no fun z => h (List.mem_cons_of_mem _ z))
theorem id_put (h : k ∉ l) : putK (idK l) (.inl ((k : Nat) : Int)) (nV k) = idK (l ++ [k]) := by
  rw [putK_new _ (id_no h)]
  unfold idK
  rw [List.map_append]
  rfl
theorem id_len : (idK l).length = l.length := by
  unfold idK
  rw [List.length_map]
theorem id_drop : dropK (idK l) (.inl ((k : Nat) : Int)) = idK (l.filter fun x => decide (x ≠ k)) := by
  unfold dropK idK
  rw [List.filter_map]
  congr 1
  refine List.filter_congr fun x _ => ?_
  show decide ((.inl ((x : Nat) : Int) : Key) ≠ .inl ((k : Nat) : Int)) = decide (x ≠ k)
  by_cases e : x = k
  · subst e
    simp
  · have : ¬ (.inl ((x : Nat) : Int) : Key) = .inl ((k : Nat) : Int) := fun z => by injection z with z; omega
    simp [e, this]
theorem runK_len (o : RSok s) : (runK s p).length ≤ 64 := by
  have h1 : (runK s p).length ≤ s.ln.length := runs_len
  have h2 : s.ln.length ≤ s.tr.length + 1 := nd_len o.ln_nd fun x hx => o.lt (o.ln_mem.mp hx)
  have := o.row.few
  omega
theorem ln_len (o : RSok s) : s.ln.length ≤ s.tr.length + 1 := nd_len o.ln_nd fun x hx => o.lt (o.ln_mem.mp hx)
theorem runT_len : (runT s p).length = (runK s p).length := by
  unfold runT
  rw [List.length_map]
theorem runT_at (e : (runK s p)[i]? = some k) : (runT s p)[i]? = some (trn s p k) := by
  unfold runT
  rw [List.getElem?_map, e]
  rfl
theorem runT_fz : ∀ d ∈ runT s p, ∃ zs, d = MK.tz zs := fun d hd => by
  unfold runT at hd
  obtain ⟨k, _, rfl⟩ := List.mem_map.mp hd
  exact ⟨_, rfl⟩
theorem runsT_at (hp : p < s.ws.length) : (runsT s)[p]? = some (.list (runT s p)) := by
  unfold runsT
  rw [List.getElem?_map, List.getElem?_range hp]
  rfl
theorem runsT_len : (runsT s).length = s.ws.length := by
  unfold runsT
  rw [List.length_map, List.length_range]
theorem runK_lt (o : RSok s) (h : k ∈ runK s p) : k < s.tr.length + 1 := o.lt (o.ln_mem.mp (runs_sub k h))
/-- behind a put, at other places -/
theorem runT_put (o : RSok s) (hm : m ∈ keptN s.gn) (hp : p < s.ws.length) (hz : -bigI < z ∧ z < bigI) (hf : s.tr.length < 63) (hq : q ≠ p) : runT (s.put m p z) q = runT s q := by
  have hml := o.lt hm
  have e1 : runK (s.put m p z) q = runK s q := by
    unfold runK
    rw [o.ln_put hm]
    exact runs_same o.ln_nd (o.ln_mem.mpr hm) (fun x hx => o.w_put hml hp hz hf (o.lt (o.ln_mem.mp hx))) (by
      show (s.put m p z).w (s.tr.length + 1) q = s.w m q
      rw [o.w_new hml hp hz hf, if_neg hq])
  unfold runT
  rw [e1]
  refine List.map_congr_left fun k hk => ?_
  have hkl := runK_lt o hk
  have hwl := o.wle (p := q) hkl
  unfold trn
  rw [o.w_put hml hp hz hf hkl]
  show MK.tz [_, _, vlW s.ws (s.wr ++ [(p, z)]) q (s.w k q)] = _
  rw [vlW_app o.row (by omega)]
/-- behind a put, at its place -/
theorem runT_new {B : List Nat} (o : RSok s) (hm : m ∈ keptN s.gn) (hp : p < s.ws.length) (hz : -bigI < z ∧ z < bigI) (hf : s.tr.length < 63) (hl : s.ln = upB m s.ln ++ m :: B) :
    runT (s.put m p z) p = (runT s p).take (preN (wrF s p) m s.ln) ++ [MK.tz [((s.tr.length + 1 : Nat) : Int), ((s.tr.length + 1 : Nat) : Int), z]] ++ ((B.take 1).filter fun b => !decide (b ∈ runK s p)).map (fun b => MK.tz [((b : Nat) : Int), ((s.w m p : Nat) : Int), vlW s.ws s.wr p (s.w m p)]) ++ (runT s p).drop (preN (wrF s p) m s.ln) := by
  have hml := o.lt hm
  have hmn := o.ln_mem.mpr hm
  have hold : ∀ x ∈ s.ln, (s.put m p z).w x p = s.w x p := fun x hx => o.w_put hml hp hz hf (o.lt (o.ln_mem.mp hx))
  have hnew : (s.put m p z).w (s.tr.length + 1) p = s.tr.length + 1 := by rw [o.w_new hml hp hz hf, if_pos rfl]
  have hno : s.tr.length + 1 ∉ s.ln := fun h => by
    have := o.lt (o.ln_mem.mp h)
    omega
  have e1 : runK (s.put m p z) p = (runK s p).take (preN (wrF s p) m s.ln) ++ [s.tr.length + 1] ++ (B.take 1).filter (fun b => !decide (b ∈ runK s p)) ++ (runK s p).drop (preN (wrF s p) m s.ln) := by
    unfold runK
    rw [o.ln_put hm]
    exact runs_new o.ln_nd hmn hl hno hold hnew (fun x hx e => by
      have h1 := o.lt (o.ln_mem.mp hx)
      have h2 := o.wle (p := p) h1
      have e : s.w x p = s.tr.length + 1 := e
      omega)
  have ht : ∀ k ∈ runK s p, trn (s.put m p z) p k = trn s p k := fun k hk => by
    have hkl := runK_lt o hk
    have hwl := o.wle (p := p) hkl
    unfold trn
    rw [o.w_put hml hp hz hf hkl]
    show MK.tz [_, _, vlW s.ws (s.wr ++ [(p, z)]) p (s.w k p)] = _
    rw [vlW_app o.row (by omega)]
  have ev : vlW s.ws (s.wr ++ [(p, z)]) p (s.tr.length + 1) = z := by
    unfold vlW
    rw [if_neg (by omega), Nat.add_sub_cancel, ← o.row.len]
    simp
  have en : trn (s.put m p z) p (s.tr.length + 1) = MK.tz [((s.tr.length + 1 : Nat) : Int), ((s.tr.length + 1 : Nat) : Int), z] := by
    unfold trn
    rw [hnew]
    show MK.tz [_, _, vlW s.ws (s.wr ++ [(p, z)]) p (s.tr.length + 1)] = _
    rw [ev]
  have hb : ∀ b ∈ (B.take 1).filter (fun b => !decide (b ∈ runK s p)), trn (s.put m p z) p b = MK.tz [((b : Nat) : Int), ((s.w m p : Nat) : Int), vlW s.ws s.wr p (s.w m p)] := fun b hb => by
    obtain ⟨h1, h2⟩ := List.mem_filter.mp hb
    have h2 : b ∉ runK s p := by simpa using h2
    have hbl : b ∈ s.ln := by
      rw [hl]
      exact List.mem_append_right _ (List.mem_cons_of_mem _ (List.mem_of_mem_take h1))
    have hbk := o.lt (o.ln_mem.mp hbl)
    have ew : s.w b p = s.w m p := by
      cases hB : B with
      | nil => rw [hB] at h1; cases h1
      | cons b0 B' =>
        rw [hB, List.take_succ_cons, List.take_zero, List.mem_singleton] at h1
        subst h1
        have er : runK s p = runs (wrF s p) (upB m s.ln ++ [m]) ++ runA (wrF s p) (wrF s p m) (b :: B') := by
          unfold runK
          conv => lhs; rw [hl, hB, runs_split]
        by_cases e : wrF s p b = wrF s p m
        · exact e
        · refine absurd ?_ h2
          rw [er]
          refine List.mem_append_right _ ?_
          unfold runA
          rw [if_neg e]
          exact List.mem_cons_self
    have hwl := o.wle (p := p) hml
    unfold trn
    rw [hold b hbl, ew]
    show MK.tz [_, _, vlW s.ws (s.wr ++ [(p, z)]) p (s.w m p)] = _
    rw [vlW_app o.row (by omega)]
  unfold runT
  rw [e1, List.map_append, List.map_append, List.map_append, List.map_take, List.map_drop, List.map_cons, List.map_nil, en, List.map_congr_left ht, List.map_congr_left hb]
theorem runsT_put {d : List PyData} (o : RSok s) (hm : m ∈ keptN s.gn) (hp : p < s.ws.length) (hz : -bigI < z ∧ z < bigI) (hf : s.tr.length < 63) (hd : runT (s.put m p z) p = d) : runsT (s.put m p z) = (runsT s).set p (.list d) := by
  refine List.ext_getElem? fun q => ?_
  by_cases hq : q < s.ws.length
  · rw [runsT_at (s := s.put m p z) (show q < s.ws.length from hq)]
    by_cases e : q = p
    · subst e
      rw [List.getElem?_set_self (by rw [runsT_len]; exact hq), hd]
    · rw [List.getElem?_set_ne (Ne.symm e), runsT_at hq, runT_put o hm hp hz hf e]
  · rw [List.getElem?_eq_none (by rw [runsT_len]; exact Nat.le_of_not_lt hq), List.getElem?_eq_none (by rw [List.length_set, runsT_len]; omega)]
theorem runT_zero {ws : List Int} {w0 : Int} (hi : ws[i]? = some w0) : runT (RS.zero ws) i = [MK.tz [0, 0, w0]] := by
  have e : runK (RS.zero ws) i = [0] := rfl
  unfold runT
  rw [e]
  show [MK.tz [0, 0, vlW ws [] i 0]] = _
  unfold vlW
  rw [if_pos rfl, List.getD_eq_getElem?_getD, hi]
  rfl
theorem fst_at (h : r.map Prod.fst = s.ln) (hi : s.ln[i]? = some m) : ∃ lb, r[i]? = some (m, lb) := by
  rw [← h, List.getElem?_map] at hi
  obtain ⟨⟨a, lb⟩, h1, h2⟩ := Option.map_eq_some_iff.mp hi
  have h2 : a = m := h2
  subst h2
  exact ⟨lb, h1⟩
end
end Lawk44

namespace Lawk44
open PySem PySem.Spec PyProof.Rows L2 MK
abbrev Boxed_o (K : PySem.W.Frag) (t dx : Addr) (n : Nat) (gr w g : Addr) (c : Int) (o : BoxedO) : SP := pt t (.ins (He.ga K "Boxed") dx (("wide", nV n) :: ("grown", .ref gr) :: ("wrote", .ref w) :: ("gone", .ref g) :: ("counted", .int c) :: Boxed_own o))
abbrev BoxedU (K : PySem.W.Frag) (t dx gr w g : Addr) (o : BoxedO) (s : RS) (c : Int) (F : List SP) : List SP :=
  Boxed_o K t dx s.ws.length gr w g c o :: tre K true gr s.tr :: pt w (.lst (wrV s.wr)) :: pt g (.lst (s.gn.map V.bl)) :: F
def BoxedP (K : PySem.W.Frag) (t : Addr) (s : RS) (c : Int) (x : BoxedX) : SP := ex fun dx : Addr => ex fun gr : Addr => ex fun w : Addr => ex fun g : Addr => ex fun o : BoxedO => sep (pr (RSok s) :: BoxedU K t dx gr w g o s c [BoxedH K o s x])
section
variable {K : PySem.W.Frag} {F : List SP} {H : Hp} {Q : VK} {E : XK} {t dx gr w g : Addr} {o : BoxedO} {s : RS} {c z : Int} {x : BoxedX} {m p n lo hi : Nat}
theorem Boxed_of (S : Star H (BoxedP K t s c x :: F)) : RSok s ∧ ∃ dx gr w g o, Star H (BoxedU K t dx gr w g o s c (BoxedH K o s x :: F)) := by
  unfold BoxedP at S
  obtain ⟨dx, S⟩ := Star.ex_iff.mp S
  obtain ⟨gr, S⟩ := Star.ex_iff.mp S
  obtain ⟨w, S⟩ := Star.ex_iff.mp S
  obtain ⟨g, S⟩ := Star.ex_iff.mp S
  obtain ⟨o, S⟩ := Star.ex_iff.mp S
  obtain ⟨h, S⟩ := Star.pr_iff.mp (Star.sep_iff.mp S)
  exact ⟨h, dx, gr, w, g, o, S⟩
theorem Boxed_mk (h : RSok s) (S : Star H (BoxedU K t dx gr w g o s c (BoxedH K o s x :: F))) : Star H (BoxedP K t s c x :: F) := by
  unfold BoxedP
  exact Star.ex_iff.mpr ⟨dx, Star.ex_iff.mpr ⟨gr, Star.ex_iff.mpr ⟨w, Star.ex_iff.mpr ⟨g, Star.ex_iff.mpr ⟨o, Star.sep_iff.mpr (Star.pr_iff.mpr ⟨h, S⟩)⟩⟩⟩⟩⟩
theorem Boxed_ok (S : Star H (BoxedP K t s c x :: F)) : RSok s := (Boxed_of S).1
theorem dsp_Boxed {tbl : List (Addr × Sp)} {sp : Sp} {m : Str} {R : Sp → Prop} (S : Star H (BoxedP K t s c x :: F)) (h : m ∉ (("wide" : Str) :: "grown" :: "wrote" :: "gone" :: "counted" :: Boxed_nm)) (hm : (He.ga K "Boxed", sp) ∈ tbl) (q : R sp) : dspX tbl m (.ref t) H R := by
  obtain ⟨_, dx, gr, w, g, o, S⟩ := Boxed_of S
  exact dsp_i S.get hm (look_no h) q
theorem iso_Boxed {tbl : List (Addr × Bool)} {b : Bool} (S : Star H (BoxedP K t s c x :: F)) (hm : (He.ga K "Boxed", b) ∈ tbl) (q : Q (.bl b) H) : isoX tbl (.ref t) H Q := by
  obtain ⟨_, dx, gr, w, g, o, S⟩ := Boxed_of S
  exact iso_i S.get hm q
theorem Boxed_need_make_u (S : Star H (BoxedU K t dx gr w g o s c F)) (hm : m ∈ keptN s.gn) (k : Q .non H) : sp_Boxed_need_make K [.ref t, nV m] H Q E := by
  obtain ⟨h1, h2⟩ := mem_kept.mp hm
  refine sp_Boxed_need_make_i ?_
  walk_at "go"
  rw [List.length_map]
  have S1 : Star H (dat (nV m) (.int (m : Nat)) :: F) := S.fr (by walk_at "fr")
  refine is_whole_ok S1 ?_
  rw [wholeD_int, decide_eq_true (by omega), decide_eq_true (by omega)]
  walk_at "go"
  refine ix_l S.p3.get (atI_n (gone_at h1 h2)) ?_
  walk_at "go"
  exact k
theorem Boxed_need_place_u (S : Star H (BoxedU K t dx gr w g o s c F)) (hp : p < s.ws.length) (k : Q .non H) : sp_Boxed_need_place K [.ref t, nV p] H Q E := by
  refine sp_Boxed_need_place_i ?_
  walk_at "go"
  have S1 : Star H (dat (nV p) (.int (p : Nat)) :: F) := S.fr (by walk_at "fr")
  refine is_whole_ok S1 ?_
  rw [wholeD_int, decide_eq_true (by omega), decide_eq_true (by omega)]
  walk_at "go"
  exact k
theorem Boxed_add_steps_u (S : Star H (Boxed_o K t dx n gr w g c o :: F)) (k : ∀ H', Star H' (Boxed_o K t dx n gr w g (c + z) o :: F) → Q .non H') : sp_Boxed_add_steps K [.ref t, .int z] H Q E := by
  refine sp_Boxed_add_steps_i ?_
  walk_at "go"
  refine stf_S S List.mem_cons_self (Nat.le_of_ble_eq_true rfl) fun H1 S => ?_
  walk_at "w"
  exact k _ S
theorem Boxed_writer_of_u (S : Star H (BoxedU K t dx gr w g o s c F)) (h : RSok s) (hm : m < s.tr.length + 1) (k : Q (nV (s.w m p)) H) : sp_Boxed_writer_of K [.ref t, nV m, nV p] H Q E := by
  have h := h.row
  refine sp_Boxed_writer_of_i ?_
  walk_at "go"
  refine while_i (fun z σ H' => H' = H ∧ z < s.tr.length + 1 ∧ wof s.tr s.wr p z = wof s.tr s.wr p m ∧ σ = [some (.ref t), some (nV z), some (nV p)]) m ⟨rfl, hm, rfl, rfl⟩ ?_
  rintro z σ H' ⟨rfl, hz, ez, rfl⟩
  walk_at "go"
  refine brd (fun h0 => ?_) (fun h0 => ?_)
  · have h0' : 0 < z := by omega
    walk_at "go"
    refine ix_l S.p2.get (atI_n (wrV_at h.len hz h0')) ?_
    walk_at "go"
    refine brn (fun e => ?_) (fun e => ?_)
    · have e' : (s.wr.getD (z - 1) (0, 0)).1 ≠ p := fun e2 => e (by rw [e2])
      walk_at "go"
      refine dsp_L S.p1 (by decide +kernel) ?_
      walk_at "go"
      refine own_L S.p1 (osV_up h.tree hz h0') ?_
      walk_at "w"
      have hu := up1_lt h.tree hz h0'
      exact ⟨_, hu, rfl, by omega, by rw [← wof_up h.tree hz h0' e']; exact ez, rfl⟩
    · have e' : (s.wr.getD (z - 1) (0, 0)).1 = p := by omega
      have k : Q (nV (wof s.tr s.wr p m)) H' := k
      rw [← ez, wof_here h0' e'] at k
      walk_at "go"
      exact k
  · have e0 : z = 0 := by omega
    subst e0
    have k : Q (nV (wof s.tr s.wr p m)) H' := k
    rw [← ez] at k
    walk_at "go"
    exact k
theorem Boxed_writer_u (S : Star H (BoxedU K t dx gr w g o s c F)) (h : RSok s) (hm : m < s.tr.length + 1) (hp : p < s.ws.length) (k : Q (nV (s.w m p)) H) : sp_Boxed_writer K [.ref t, nV m, nV p] H Q E := by
  have hl := h.wr_len
  refine sp_Boxed_writer_i ?_
  walk_at "go"
  rw [hl]
  have S1 : Star H (dat (nV m) (.int (m : Nat)) :: F) := S.fr (by walk_at "fr")
  refine is_whole_ok S1 ?_
  rw [wholeD_int, decide_eq_true (by omega), decide_eq_true (by omega)]
  walk_at "go"
  refine Boxed_need_place_u S hp ?_
  walk_at "go"
  exact Boxed_writer_of_u S h hm k
theorem Boxed_need_room_u (S : Star H (BoxedU K t dx gr w g o s c F)) (hn : s.tr.length + 1 + n ≤ 64) (k : Q .non H) : sp_Boxed_need_room K [.ref t, nV n] H Q E := by
  refine sp_Boxed_need_room_i ?_
  walk_at "go"
  refine dsp_L S.p1 (by decide +kernel) ?_
  walk_at "go"
  refine many_L S.p1 ?_
  walk_at "go"
  refine brd (fun hc => absurd hc (by omega)) (fun _ => ?_)
  walk_at "go"
  exact k
theorem Boxed_makes_u (S : Star H (BoxedU K t dx gr w g o s c F)) (h : RSok s) (k : ∀ H' D, Star H' (pt D (.lst ((keptN s.gn).map nV)) :: BoxedU K t dx gr w g o s c F) → Q (.ref D) H') : sp_Boxed_makes K [.ref t] H Q E := by
  have hf := h.row.few
  refine sp_Boxed_makes_i ?_
  walk_at "go"
  refine en_l S.p3.get ?_
  intro D hD
  refine lc_kept (S.p3) (by rw [h.len]; omega) hD fun H1 S => ?_
  exact k _ _ (S.fr (by walk_at "fr"))
theorem Boxed_size_u (S : Star H (BoxedU K t dx gr w g o s c F)) (k : Q (nV s.ws.length) H) : sp_Boxed_size K [.ref t] H Q E := by
  refine sp_Boxed_size_i ?_
  walk_at "go"
  exact k
/-! packed -/
theorem Boxed_makes_p (S : Star H (BoxedP K t s c x :: F)) (k : ∀ H' D, Star H' (pt D (.lst ((keptN s.gn).map nV)) :: BoxedP K t s c x :: F) → Q (.ref D) H') : sp_Boxed_makes K [.ref t] H Q E := by
  obtain ⟨h, dx, gr, w, g, o, S⟩ := Boxed_of S
  refine Boxed_makes_u S h fun H1 D S => ?_
  exact k _ _ (Boxed_mk h (S.fr (by walk_at "fr"))).p1
theorem Boxed_size_p (S : Star H (BoxedP K t s c x :: F)) (k : Q (nV s.ws.length) H) : sp_Boxed_size K [.ref t] H Q E := by
  obtain ⟨h, dx, gr, w, g, o, S⟩ := Boxed_of S
  exact Boxed_size_u S k
theorem Boxed_writer_p (S : Star H (BoxedP K t s c x :: F)) (hm : m < s.tr.length + 1) (hp : p < s.ws.length) (k : Q (nV (s.w m p)) H) : sp_Boxed_writer K [.ref t, nV m, nV p] H Q E := by
  obtain ⟨h, dx, gr, w, g, o, S⟩ := Boxed_of S
  exact Boxed_writer_u S h hm hp k
end
end Lawk44

namespace Lawk44
open PySem PySem.Spec PyProof.Rows L2 MK
theorem Boxed_need_new_u {K : PySem.W.Frag} {F : List SP} {H : Hp} {Q : VK} {E : XK} {t dx gr w g : Addr} {o : BoxedO} {s : RS} {c : Int} {m : Nat} (S : Star H (BoxedU K t dx gr w g o s c F)) (hm : m ∈ keptN s.gn) (_ : Boxed_nw s m) (k : Q .non H) : sp_Boxed_need_new K [.ref t, nV m] H Q E := by
  refine sp_Boxed_need_new_i ?_
  walk_at "go"
  refine Boxed_need_make_u S hm ?_
  walk_at "go"
  exact k
end Lawk44

namespace Lawk44
open PySem PySem.Spec PyProof.Rows L2 MK
section
variable {K : PySem.W.Frag} {F : List SP} {H : Hp} {Q : VK} {E : XK} {t dx gr w g a u : Addr} {o : BoxedO} {s : RS} {c z : Int} {x : BoxedX} {m p n lo hi tm : Nat} {ws : List Int} {r : List (Nat × Nat)} {bv xs : List V}
theorem Boxed_begin_u (S : Star H (pt t (.ins (He.ga K "Boxed") dx [("wide", nV n), ("grown", .ref gr), ("wrote", .ref w), ("gone", .ref g), ("counted", .int c)]) :: pt u (.lst (ws.map V.int)) :: F)) (hw : ws.length ≤ 16)
    (k : ∀ H' o, Star H' (Boxed_o K t dx n gr w g c o :: BoxedH K o (RS.zero ws) () :: F) → Q .non H') : sp_Boxed_begin K [.ref t, .ref u] H Q E := by
  refine sp_Boxed_begin_i ?_
  walk_at "go"
  have S1 : Star H (dats (ws.map V.int) (ws.map PyData.int) :: pt t (.ins (He.ga K "Boxed") dx [("wide", nV n), ("grown", .ref gr), ("wrote", .ref w), ("gone", .ref g), ("counted", .int c)]) :: pt u (.lst (ws.map V.int)) :: F) := zints.mpr ⟨rfl, S⟩
  refine it_l S.p1.get ?_
  intro D hD
  refine lc_dat (a := u) (xs := ws.map V.int) (ds := ws.map PyData.int) (F := pt t (.ins (He.ga K "Boxed") dx [("wide", nV n), ("grown", .ref gr), ("wrote", .ref w), ("gone", .ref g), ("counted", .int c)]) :: F) _ (fun _ => true) (fun i => .list (runT (RS.zero ws) i)) (fun x H Q q => q) (by rw [List.length_map]; omega) hD (S1.fr (Fr.c2 (Fr.c0 (Fr.refl _)))) (fun x => rfl) (fun i v d Z H1 R _ _ S r => r _ S) ?_ fun H1 ys S => ?_
  · intro i v d Z H1 R hv hd _ S r
    rw [List.getElem?_map] at hv
    obtain ⟨w0, hw0, rfl⟩ := Option.map_eq_some_iff.mp hv
    walk_at "go"
    refine al_t S fun T H2 S => ?_
    walk_at "go"
    refine al_l S fun l H3 S => ?_
    refine r _ _ ?_
    rw [runT_zero hw0]
    have S3 : Star H3 (dat (.ref T) (MK.tz [0, 0, w0]) :: pt l (.lst [.ref T]) :: dat (.int w0) d :: Z :: pt u (.lst (ws.map V.int)) :: hole (ws.map V.int) (ws.map PyData.int) i :: pt t (.ins (He.ga K "Boxed") dx [("wide", nV n), ("grown", .ref gr), ("wrote", .ref w), ("gone", .ref g), ("counted", .int c)]) :: F) := dat_tz.mpr ⟨T, rfl, S.p1⟩
    have S4 : Star H3 (dats [.ref T] [MK.tz [0, 0, w0]] :: pt l (.lst [.ref T]) :: dat (.int w0) d :: Z :: pt u (.lst (ws.map V.int)) :: hole (ws.map V.int) (ws.map PyData.int) i :: pt t (.ins (He.ga K "Boxed") dx [("wide", nV n), ("grown", .ref gr), ("wrote", .ref w), ("gone", .ref g), ("counted", .int c)]) :: F) := dats_c.mpr ⟨_, _, rfl, S3.fr (Fr.c0 (Fr.ds0 (Fr.refl _)))⟩
    exact dat_l.mpr ⟨l, _, rfl, S4.p1⟩
  · rw [filt_true, List.length_map] at S
    have eb : (List.range ws.length).map (fun i => PyData.list (runT (RS.zero ws) i)) = runsT (RS.zero ws) := rfl
    rw [eb] at S
    walk_at "go"
    refine stf_S (a := t) (C := He.ga K "Boxed") (dx := dx) (fs := [("wide", nV n), ("grown", .ref gr), ("wrote", .ref w), ("gone", .ref g), ("counted", .int c)]) (S.fr (Fr.c4 (Fr.refl _))) List.mem_cons_self (by show 5 < 1000; decide) fun H2 S => ?_
    walk_at "w"
    intro ox dx1 hx hd hne
    refine Order_init_ok (S.mkI hx hd hne) fun H3 S => ?_
    walk_at "go"
    refine stf_S (a := t) (C := He.ga K "Boxed") (dx := dx) (fs := [("wide", nV n), ("grown", .ref gr), ("wrote", .ref w), ("gone", .ref g), ("counted", .int c), ("boxes", .ref D)]) (S.fr (Fr.c1 (Fr.refl _))) List.mem_cons_self (by show 6 < 1000; decide) fun H4 S => ?_
    walk_at "go"
    refine al_d S fun ow H5 S => ?_
    walk_at "go"
    refine dis_S (idK [0]) S rfl rfl (show 1 ≤ 15 by decide) fun H6 S => ?_
    walk_at "go"
    refine stf_S (a := t) (C := He.ga K "Boxed") (dx := dx) (fs := [("wide", nV n), ("grown", .ref gr), ("wrote", .ref w), ("gone", .ref g), ("counted", .int c), ("boxes", .ref D), ("placed", .ref ox)]) (S.fr (Fr.c1 (Fr.refl _))) List.mem_cons_self (by show 7 < 1000; decide) fun H7 S => ?_
    walk_at "go"
    refine al_d S fun mr H8 S => ?_
    walk_at "go"
    refine dis_S (idK [0]) S rfl rfl (show 1 ≤ 15 by decide) fun H9 S => ?_
    walk_at "go"
    refine stf_S (a := t) (C := He.ga K "Boxed") (dx := dx) (fs := [("wide", nV n), ("grown", .ref gr), ("wrote", .ref w), ("gone", .ref g), ("counted", .int c), ("boxes", .ref D), ("placed", .ref ox), ("owners", .ref ow)]) (S.fr (Fr.c1 (Fr.refl _))) List.mem_cons_self (by show 8 < 1000; decide) fun H10 S => ?_
    walk_at "w"
    refine k _ ⟨D, ox, ow, mr⟩ ?_
    have S2 : Star H10 (BoxedH K ⟨D, ox, ow, mr⟩ (RS.zero ws) () :: Boxed_o K t dx n gr w g c ⟨D, ox, ow, mr⟩ :: F) := BoxedH_iff.mpr ⟨[(0, 0)], 0, ys, rfl, S.fr (by walk_at "fr")⟩
    exact S2.p1
theorem trn_at {i k : Nat} (S : Star H (dats xs (runT s p) :: F)) (e : (runK s p)[i]? = some k) : ∃ T, xs[i]? = some (.ref T) ∧ Star H (fx T (.tup [nV k, nV (s.w k p), .int (vlW s.ws s.wr p (s.w k p))]) :: dats xs (runT s p) :: F) := by
  obtain ⟨v, hv, S1⟩ := S.take (runT_at e)
  have S2 := tz_dup (zs := [((k : Nat) : Int), ((s.w k p : Nat) : Int), vlW s.ws s.wr p (s.w k p)]) S1
  obtain ⟨T, eT, S3⟩ := dat_tz.mp S2
  subst eT
  have S4 : Star H (dat (.ref T) (trn s p k) :: hole xs (runT s p) i :: fx T (.tup [nV k, nV (s.w k p), .int (vlW s.ws s.wr p (s.w k p))]) :: F) := S3.fr (Fr.c1 (Fr.c1 (Fr.refl _)))
  exact ⟨T, hv, (hole_back S4 hv (runT_at e)).p1⟩
theorem Boxed_in_order_u {L ln : List Nat} {G : Nat} (S : Star H (Boxed_o K t dx n gr w g c o :: ord K o.pl r G tm :: pt o.ow (.dK (idK L)) :: F)) (hr : r.map Prod.fst = ln) (hL : ∀ x ∈ ln, x ∈ L) (hl : ln.length ≤ 1000)
    (k : ∀ H' D, Star H' (pt D (.lst (ln.map nV)) :: Boxed_o K t dx n gr w g c o :: ord K o.pl r G tm :: pt o.ow (.dK (idK L)) :: F) → Q (.ref D) H') : sp_Boxed_in_order K [.ref t] H Q E := by
  have er : r.map mkV = ln.map nV := by
    rw [← hr, List.map_map]
    rfl
  refine sp_Boxed_in_order_i ?_
  walk_at "go"
  refine dsp_o (t := o.pl) (r := r) (g := G) (tm := tm) (F := []) (S.fr (by walk_at "fr")) (by decide +kernel) ?_
  walk_at "go"
  refine Order_marks_ok (t := o.pl) (r := r) (g := G) (tm := tm) (F := Boxed_o K t dx n gr w g c o :: pt o.ow (.dK (idK L)) :: F) (S.fr (by walk_at "fr")) fun H1 f S => ?_
  rw [er] at S
  walk_at "go"
  refine it_l S.get ?_
  intro D hD
  refine lc_map (xs := ln.map nV) (f := fun i => nV (ln.getD i 0)) _ (fun x H Q q => q) walk_list (by rw [List.length_map]; omega) hD (S.fr (by walk_at "fr") : Star H1 (Boxed_o K t dx n gr w g c o :: pt f (.lst (ln.map nV)) :: ord K o.pl r G tm :: pt o.ow (.dK (idK L)) :: F)) (fun H1 acc S => .of S.p2.get) (fun x => rfl) ?_ fun H2 S => ?_
  · intro i x H2 acc R hx S r
    rw [List.getElem?_map] at hx
    obtain ⟨k0, hk0, rfl⟩ := Option.map_eq_some_iff.mp hx
    have egd : ln.getD i 0 = k0 := by rw [List.getD_eq_getElem?_getD, hk0]; rfl
    have r := r _ S
    rw [egd] at r
    walk_at "go"
    exact ixd_i S.p4.get (id_in (hL k0 (List.mem_of_getElem? hk0))) r
  · rw [List.length_map] at S
    have er2 : (List.range ln.length).map (fun i => nV (ln.getD i 0)) = ln.map nV := range_at (l := ln) nV 0
    rw [er2] at S
    exact k _ _ (S.fr (by walk_at "fr"))
theorem Boxed_spot_of_u {G : Nat} (S : Star H (Boxed_o K t dx n gr w g c o :: ord K o.pl r G tm :: pt o.mr (.dK (idK (keptN s.gn))) :: pt o.bx (.lst bv) :: dats bv (runsT s) :: F)) (hr : r.map Prod.fst = s.ln) (h : RSok s) (hm : m ∈ keptN s.gn) (hp : p < s.ws.length)
    (k : ∀ H', Star H' (Boxed_o K t dx n gr w g (c + bst s m p) o :: ord K o.pl r G tm :: pt o.mr (.dK (idK (keptN s.gn))) :: pt o.bx (.lst bv) :: dats bv (runsT s) :: F) → Q (nV (preN (wrF s p) m s.ln - 1)) H') : sp_Boxed_spot_of K [.ref t, nV m, nV p] H Q E := by
  have hmn := h.ln_mem.mpr hm
  obtain ⟨im, him, eim⟩ := List.mem_iff_getElem.mp hmn
  have him' : s.ln[im]? = some m := by rw [List.getElem?_eq_getElem him, eim]
  obtain ⟨lb, hlb⟩ := fst_at hr him'
  have hP := preN_pos (f := wrF s p) (m := m) (l := s.ln)
  have hPl : preN (wrF s p) m s.ln ≤ (runK s p).length := preN_le hmn
  have hkl := runK_len (p := p) h
  obtain ⟨v, hv, S1⟩ := Star.take (S.fr (by walk_at "fr") : Star H (dats bv (runsT s) :: Boxed_o K t dx n gr w g c o :: ord K o.pl r G tm :: pt o.mr (.dK (idK (keptN s.gn))) :: pt o.bx (.lst bv) :: F)) (runsT_at hp)
  obtain ⟨b, xs, ev, S2⟩ := dat_l.mp S1
  subst ev
  have hxl : xs.length = (runK s p).length := by
    have := S2.p1.dlen
    rw [runT_len] at this
    exact this
  have S : Star H (Boxed_o K t dx n gr w g c o :: ord K o.pl r G tm :: pt o.mr (.dK (idK (keptN s.gn))) :: pt o.bx (.lst bv) :: pt b (.lst xs) :: dats xs (runT s p) :: hole bv (runsT s) p :: F) := S2.fr (by walk_at "fr")
  refine sp_Boxed_spot_of_i ?_
  walk_at "go"
  refine ix_l S.p3.get (atI_n hv) ?_
  walk_at "go"
  rw [hxl]
  refine Boxed_add_steps_u (t := t) (dx := dx) (n := n) (gr := gr) (w := w) (g := g) (o := o) (c := c) S fun H3 S => ?_
  walk_at "w"
  refine while_i (fun z σ H => ∃ (b' e' : Nat) (c' : Int) (y6 : Option V), z = e' - b' ∧ ((b' < preN (wrF s p) m s.ln ∧ preN (wrF s p) m s.ln ≤ e' ∧ e' ≤ (runK s p).length) ∧ c' + ((hsB (preN (wrF s p) m s.ln) b' e' : Nat) : Int) = c + bst s m p) ∧ σ = [some (.ref t), some (nV m), some (nV p), some (.ref b), some (nV b'), some (nV e'), y6] ∧ Star H (Boxed_o K t dx n gr w g c' o :: ord K o.pl r G tm :: pt o.mr (.dK (idK (keptN s.gn))) :: pt o.bx (.lst bv) :: pt b (.lst xs) :: dats xs (runT s p) :: hole bv (runsT s) p :: F)) ((runK s p).length - 0) ⟨0, _, _, _, rfl, ⟨⟨hP, hPl, Nat.le_refl _⟩, ?_⟩, rfl, S⟩ ?_
  · unfold bst
    omega
  rintro z σ H2 ⟨b', e', c', y6, rfl, ⟨⟨hb1, hb2, hb3⟩, hc⟩, rfl, S⟩
  walk_at "go"
  refine brd (fun h1 => ?_) (fun h1 => ?_)
  · have h1' : 1 < e' - b' := by omega
    have em : (((b' : Nat) : Int) + ((e' : Nat) : Int)) / 2 = (((b' + e') / 2 : Nat) : Int) := by omega
    walk_at "go"
    rw [em]
    refine Boxed_add_steps_u (t := t) (dx := dx) (n := n) (gr := gr) (w := w) (g := g) (o := o) (c := c') S fun H3 S => ?_
    have hmid : (b' + e') / 2 < (runK s p).length := by omega
    obtain ⟨km, hkm⟩ : ∃ km, (runK s p)[(b' + e') / 2]? = some km := ⟨_, List.getElem?_eq_getElem hmid⟩
    have hkn : km ∈ s.ln := runs_sub km (List.mem_of_getElem? hkm)
    obtain ⟨jm, hjm, ejm⟩ := List.mem_iff_getElem.mp hkn
    have hjm' : s.ln[jm]? = some km := by rw [List.getElem?_eq_getElem hjm, ejm]
    obtain ⟨lb2, hlb2⟩ := fst_at hr hjm'
    obtain ⟨T, hT, S⟩ := trn_at (F := Boxed_o K t dx n gr w g (c' + 1) o :: ord K o.pl r G tm :: pt o.mr (.dK (idK (keptN s.gn))) :: pt o.bx (.lst bv) :: pt b (.lst xs) :: hole bv (runsT s) p :: F) (S.fr (by walk_at "fr")) hkm
    have hiff := ahead_iff (f := wrF s p) (k := (b' + e') / 2) h.ln_nd hmn him' hjm' hkm
    rw [hsB, dif_pos h1'] at hc
    walk_at "go"
    refine dsp_o (t := o.pl) (r := r) (g := G) (tm := tm) (F := []) (S.fr (by walk_at "fr")) (by decide +kernel) ?_
    walk_at "go"
    refine ixd_i (S.fr (qs := [pt o.mr (.dK (idK (keptN s.gn)))]) (by walk_at "fr")).get (id_in hm) ?_
    walk_at "go"
    refine ix_l (S.fr (qs := [pt b (.lst xs)]) (by walk_at "fr")).get (atI_n hT) ?_
    walk_at "go"
    refine ixd_i (S.fr (qs := [pt o.mr (.dK (idK (keptN s.gn)))]) (by walk_at "fr")).get (id_in (h.ln_mem.mp hkn)) ?_
    walk_at "go"
    refine Order_ahead_ok (t := o.pl) (r := r) (g := G) (tm := tm) (F := []) (S.fr (by walk_at "fr")) hlb hlb2 ?_
    walk_at "go"
    refine brd (fun h2 => ?_) (fun h2 => ?_)
    · have h3 := hiff.mp h2
      rw [if_neg (by omega)] at hc
      walk_at "w"
      exact ⟨(b' + e') / 2 - b', by omega, b', (b' + e') / 2, c' + 1, _, rfl, ⟨⟨hb1, h3, by omega⟩, by omega⟩, rfl, S.fr (by walk_at "fr")⟩
    · have h3 : (b' + e') / 2 < preN (wrF s p) m s.ln := by
        refine Nat.lt_of_not_le fun z => h2 (hiff.mpr z)
      rw [if_pos h3] at hc
      walk_at "w"
      exact ⟨e' - (b' + e') / 2, by omega, (b' + e') / 2, e', c' + 1, _, rfl, ⟨⟨h3, hb2, hb3⟩, by omega⟩, rfl, S.fr (by walk_at "fr")⟩
  · rw [hsB, dif_neg (by omega)] at hc
    have ec : c + bst s m p = c' := by omega
    have ep : preN (wrF s p) m s.ln - 1 = b' := by omega
    walk_at "go"
    rw [ec, ep] at k
    refine k _ ?_
    have T3 : Star H2 (dat (.ref b) (.list (runT s p)) :: hole bv (runsT s) p :: Boxed_o K t dx n gr w g c' o :: ord K o.pl r G tm :: pt o.mr (.dK (idK (keptN s.gn))) :: pt o.bx (.lst bv) :: F) := dat_l.mpr ⟨b, xs, rfl, S.fr (by walk_at "fr")⟩
    exact (hole_back T3 hv (runsT_at hp)).fr (by walk_at "fr")
theorem dats_cut : ∀ {n : Nat} {ds : List PyData} {vs : List V} {F : List SP}, Star H (dats vs ds :: F) → Star H (dats (vs.take n) (ds.take n) :: dats (vs.drop n) (ds.drop n) :: F)
  | 0, ds, vs, F, S => by
    rw [List.take_zero, List.take_zero, List.drop_zero, List.drop_zero]
    exact dats_n.mpr ⟨rfl, S⟩
  | n + 1, [], vs, F, S => by
    obtain ⟨e, S1⟩ := dats_n.mp S
    subst e
    exact dats_n.mpr ⟨rfl, dats_n.mpr ⟨rfl, S1⟩⟩
  | n + 1, d :: ds, vs, F, S => by
    obtain ⟨v, r, e, S1⟩ := dats_c.mp S
    subst e
    have S2 := dats_cut (n := n) (S1.p1)
    exact dats_c.mpr ⟨v, r.take n, rfl, S2.fr (Fr.c2 (Fr.c0 (Fr.c0 (Fr.refl _))))⟩
theorem nV_map_inj : ∀ {a b : List Nat}, a.map nV = b.map nV → a = b
  | [], [], _ => rfl
  | [], _ :: _, h => by cases h
  | _ :: _, [], h => by cases h
  | x :: a, y :: b, h => by
    rw [List.map_cons, List.map_cons] at h
    injection h with h1 h2
    injection h1 with h1
    rw [nV_map_inj h2, show x = y by omega]
theorem bhd_fst {i G : Nat} : (bhd r G i).map Prod.fst = (r.map Prod.fst).take (i + 1) ++ G :: (r.map Prod.fst).drop (i + 1) := by
  refine nV_map_inj ?_
  have e1 : ((bhd r G i).map Prod.fst).map nV = (bhd r G i).map mkV := by rw [List.map_map]; rfl
  have e2 : (r.map Prod.fst).map nV = r.map mkV := by rw [List.map_map]; rfl
  rw [e1, bhd_mkV, List.map_append, List.map_cons, List.map_take, List.map_drop, e2]
  simp
theorem Boxed_store_u (S : Star H (BoxedU K t dx gr w g o (s.put m p z) c (BoxedH K o s x :: F))) (h : RSok s) (hm : m ∈ keptN s.gn) (hp : p < s.ws.length) (hz : -bigI < z ∧ z < bigI) (hf : s.tr.length < 63) (hw : Boxed_nw s m)
    (k : ∀ H' o', Star H' (BoxedU K t dx gr w g o' (s.put m p z) (c + Boxed_pc s x m p) (BoxedH K o' (s.put m p z) (Boxed_px s x m p z) :: F)) → Q .non H') : sp_Boxed_store K [.ref t, nV m, nV (s.tr.length + 1), nV p, .int z] H Q E := by
  have hmn := h.ln_mem.mpr hm
  have hP := preN_pos (f := wrF s p) (m := m) (l := s.ln)
  have hPl : preN (wrF s p) m s.ln ≤ (runK s p).length := preN_le hmn
  have hkl := runK_len (p := p) h
  have hll := ln_len h
  obtain ⟨B, hB⟩ := split_at hmn
  obtain ⟨r, tm, bv, hr, S⟩ := BoxedH_iff.mp (Star.fr S (qs := BoxedH K o s x :: BoxedU K t dx gr w g o (s.put m p z) c F) (by walk_at "fr"))
  have S : Star H (BoxedU K t dx gr w g o (s.put m p z) c (ord K o.pl r (s.tr.length + 1) tm :: pt o.mr (.dK (idK (keptN s.gn))) :: pt o.bx (.lst bv) :: dats bv (runsT s) :: pt o.ow (.dK (idK (keptN s.gn))) :: F)) := S.fr (by walk_at "fr")
  refine sp_Boxed_store_i ?_
  walk_at "go"
  refine Boxed_spot_of_u (t := t) (dx := dx) (n := (s.put m p z).ws.length) (gr := gr) (w := w) (g := g) (o := o) (c := c) (s := s) (r := r) (tm := tm) (bv := bv) (m := m) (p := p) (F := tre K true gr (s.put m p z).tr :: pt w (.lst (wrV (s.put m p z).wr)) :: pt g (.lst ((s.put m p z).gn.map V.bl)) :: pt o.ow (.dK (idK (keptN s.gn))) :: F) (S.fr (by walk_at "fr")) hr h hm hp fun H1 S => ?_
  obtain ⟨v, hv, S1⟩ := Star.take (S.fr (by walk_at "fr") : Star H1 (dats bv (runsT s) :: BoxedU K t dx gr w g o (s.put m p z) (c + bst s m p) (ord K o.pl r (s.tr.length + 1) tm :: pt o.mr (.dK (idK (keptN s.gn))) :: pt o.bx (.lst bv) :: pt o.ow (.dK (idK (keptN s.gn))) :: F))) (runsT_at hp)
  obtain ⟨b, xs, ev, S2⟩ := dat_l.mp S1
  subst ev
  have hxl : xs.length = (runK s p).length := by
    have := S2.p1.dlen
    rw [runT_len] at this
    exact this
  walk_at "go"
  refine ix_l (S2.fr (qs := [pt o.bx (.lst bv)]) (by walk_at "fr")).get (atI_n hv) ?_
  walk_at "go"
  refine Boxed_in_order_u (t := t) (dx := dx) (n := (s.put m p z).ws.length) (gr := gr) (w := w) (g := g) (o := o) (c := c + bst s m p) (r := r) (tm := tm) (G := s.tr.length + 1) (L := keptN s.gn) (ln := s.ln) (F := pt b (.lst xs) :: dats xs (runT s p) :: hole bv (runsT s) p :: pt o.mr (.dK (idK (keptN s.gn))) :: pt o.bx (.lst bv) :: tre K true gr (s.put m p z).tr :: pt w (.lst (wrV (s.put m p z).wr)) :: pt g (.lst ((s.put m p z).gn.map V.bl)) :: F) (S2.fr (by walk_at "fr")) hr (fun x hx => h.ln_mem.mp hx) (by omega) fun H2 ln S => ?_
  walk_at "go"
  obtain ⟨A, hA⟩ : ∃ A, A = upB m s.ln := ⟨_, rfl⟩
  have hB2 : s.ln = A ++ m :: B := by rw [hA]; exact hB
  have hmA : m ∉ A := fun z => by
    have := h.ln_nd
    rw [hB2] at this
    exact (List.nodup_append.mp this).2.2 m z m List.mem_cons_self rfl
  have hj1 : s.ln[A.length]? = some m := by
    rw [hB2, List.getElem?_append_right (Nat.le_refl _), Nat.sub_self]
    rfl
  have hj2 : ∀ i, i < A.length → s.ln[i]? ≠ some m := fun i hi z => by
    rw [hB2, List.getElem?_append_left hi] at z
    exact hmA (List.mem_of_getElem? z)
  obtain ⟨lb, hlb⟩ := fst_at hr hj1
  have hrl : r.length = s.ln.length := by rw [← hr, List.length_map]
  refine idx_S S hj1 hj2 ?_
  have ej : ((A.length : Nat) : Int) + 1 = ((A.length + 1 : Nat) : Int) := by omega
  walk_at "go"
  rw [ej]
  refine ⟨_, rfl, ?_⟩
  walk_at "w"
  refine sl_S S S.get fun l7 H3 S => ?_
  rw [cut_from] at S
  walk_at "w"
  refine ⟨_, rfl, ?_⟩
  walk_at "w"
  refine sl_S S S.get fun l8 H4 S => ?_
  have e8 : cutV (((s.ln.map nV).drop (A.length + 1))) none (some 1) = (B.take 1).map nV := by
    have e9 : (1 : Int) = ((1 : Nat) : Int) := rfl
    rw [e9, cut_to, hB2]
    have e10 : A ++ m :: B = (A ++ [m]) ++ B := by simp
    have e11 : A.length + 1 = (A ++ [m]).length := by simp
    rw [← List.map_drop, e10, e11, List.drop_left, List.map_take]
  rw [e8] at S
  have hb1 : (B.take 1).length ≤ 1 := by
    rw [List.length_take]
    omega
  have ek : (B.take 1).map nV = ((B.take 1).map fun k => ((k : Nat) : Int)).map V.int := by rw [List.map_map]; rfl
  walk_at "go"
  refine it_l S.get ?_
  intro D9 hD9
  have S3 : Star H4 (dats ((B.take 1).map nV) (((B.take 1).map fun k => ((k : Nat) : Int)).map PyData.int) :: pt l8 (.lst ((B.take 1).map nV)) :: pt b (.lst xs) :: dats xs (runT s p) :: BoxedU K t dx gr w g o (s.put m p z) (c + bst s m p) (ord K o.pl r (s.tr.length + 1) tm :: pt o.mr (.dK (idK (keptN s.gn))) :: pt o.bx (.lst bv) :: hole bv (runsT s) p :: pt o.ow (.dK (idK (keptN s.gn))) :: F)) := zints.mpr ⟨ek, S.fr (by walk_at "fr")⟩
  refine lc_dat (a := l8) (xs := (B.take 1).map nV) (ds := ((B.take 1).map fun k => ((k : Nat) : Int)).map PyData.int) (F := pt b (.lst xs) :: dats xs (runT s p) :: BoxedU K t dx gr w g o (s.put m p z) (c + bst s m p) (ord K o.pl r (s.tr.length + 1) tm :: pt o.mr (.dK (idK (keptN s.gn))) :: pt o.bx (.lst bv) :: hole bv (runsT s) p :: pt o.ow (.dK (idK (keptN s.gn))) :: F)) _ (fun i => !decide ((B.take 1).getD i 0 ∈ runK s p)) (fun i => MK.tz [(((B.take 1).getD i 0 : Nat) : Int), ((s.w m p : Nat) : Int), vlW s.ws s.wr p (s.w m p)]) (fun x H Q q => q) (by rw [List.length_map]; omega) hD9 (S3.fr (Fr.c1 (Fr.c0 (Fr.refl _)))) (fun x => rfl) ?_ ?_ fun H5 rs S => ?_
  · intro i v d Z H5 R hv hd S r1
    rw [List.getElem?_map] at hv
    obtain ⟨bi, hbi, rfl⟩ := Option.map_eq_some_iff.mp hv
    have egd : (B.take 1).getD i 0 = bi := by rw [List.getD_eq_getElem?_getD, hbi]; rfl
    rw [egd] at r1
    have S : Star H5 (pt b (.lst xs) :: dats xs (runT s p) :: dat (nV bi) d :: Z :: pt l8 (.lst ((B.take 1).map nV)) :: hole ((B.take 1).map nV) (((B.take 1).map fun k => ((k : Nat) : Int)).map PyData.int) i :: BoxedU K t dx gr w g o (s.put m p z) (c + bst s m p) (ord K o.pl r (s.tr.length + 1) tm :: pt o.mr (.dK (idK (keptN s.gn))) :: pt o.bx (.lst bv) :: hole bv (runsT s) p :: pt o.ow (.dK (idK (keptN s.gn))) :: F)) := S.fr (by walk_at "fr")
    walk_at "go"
    refine it_l S.get ?_
    intro D hD
    refine lc_dat (a := b) (xs := xs) (ds := runT s p) (F := dat (nV bi) d :: Z :: pt l8 (.lst ((B.take 1).map nV)) :: hole ((B.take 1).map nV) (((B.take 1).map fun k => ((k : Nat) : Int)).map PyData.int) i :: BoxedU K t dx gr w g o (s.put m p z) (c + bst s m p) (ord K o.pl r (s.tr.length + 1) tm :: pt o.mr (.dK (idK (keptN s.gn))) :: pt o.bx (.lst bv) :: hole bv (runsT s) p :: pt o.ow (.dK (idK (keptN s.gn))) :: F)) _ (fun _ => true) (fun j => .int (((runK s p).getD j 0 : Nat) : Int)) (fun x H Q q => q) (by omega) hD S (fun x => rfl) (fun i v d Z H1 R _ _ S r => r _ S) ?_ fun H6 zs S => ?_
    · intro j v d' Z' H6 R hv hd _ S r2
      obtain ⟨kj, hkj⟩ : ∃ kj, (runK s p)[j]? = some kj := ⟨_, List.getElem?_eq_getElem (by have := (List.getElem?_eq_some_iff.mp hv).1; omega)⟩
      have egj : (runK s p).getD j 0 = kj := by rw [List.getD_eq_getElem?_getD, hkj]; rfl
      rw [egj] at r2
      rw [runT_at hkj] at hd
      cases hd
      obtain ⟨T, eT, S7⟩ := dat_tz.mp (show Star H6 (dat v (MK.tz [((kj : Nat) : Int), ((s.w kj p : Nat) : Int), vlW s.ws s.wr p (s.w kj p)]) :: Z' :: pt b (.lst xs) :: hole xs (runT s p) j :: dat (nV bi) d :: Z :: pt l8 (.lst ((B.take 1).map nV)) :: hole ((B.take 1).map nV) (((B.take 1).map fun k => ((k : Nat) : Int)).map PyData.int) i :: BoxedU K t dx gr w g o (s.put m p z) (c + bst s m p) (ord K o.pl r (s.tr.length + 1) tm :: pt o.mr (.dK (idK (keptN s.gn))) :: pt o.bx (.lst bv) :: hole bv (runsT s) p :: pt o.ow (.dK (idK (keptN s.gn))) :: F)) from S)
      subst eT
      walk_at "go"
      refine r2 _ _ (dat_i.mpr ⟨rfl, ?_⟩)
      exact dat_tz.mpr ⟨T, rfl, S7⟩
    rw [filt_true] at S
    have ezs : (List.range xs.length).map (fun j => PyData.int (((runK s p).getD j 0 : Nat) : Int)) = ((runK s p).map fun k => ((k : Nat) : Int)).map PyData.int := by
      rw [hxl, List.map_map]
      exact range_at (l := runK s p) (fun k => PyData.int ((k : Nat) : Int)) 0
    rw [ezs] at S
    obtain ⟨ey, S⟩ := zints.mp S.p1
    subst ey
    walk_at "go"
    refine in_l S.get rfl (by rw [List.all_map]; exact List.all_eq_true.mpr fun _ _ => rfl) ?_
    have ed : decide (((bi : Nat) : Int) ∈ (runK s p).map fun k => ((k : Nat) : Int)) = decide (bi ∈ runK s p) := by
      refine decide_eq_decide.mpr ⟨fun z => ?_, fun z => List.mem_map.mpr ⟨bi, z, rfl⟩⟩
      obtain ⟨y, hy, ey⟩ := List.mem_map.mp z
      have : y = bi := by omega
      exact this ▸ hy
    rw [if_pos rfl, inV_ints, ed]
    walk_at "w"
    exact r1 _ (S.fr (by walk_at "fr"))
  · intro i v d Z H5 R hv hd _ S r1
    rw [List.getElem?_map] at hv
    obtain ⟨bi, hbi, rfl⟩ := Option.map_eq_some_iff.mp hv
    have egd : (B.take 1).getD i 0 = bi := by rw [List.getD_eq_getElem?_getD, hbi]; rfl
    rw [egd] at r1
    obtain ⟨y, hy, ey⟩ := spot_last (f := wrF s p) (b := preN (wrF s p) m s.ln - 1) hmn (by omega)
    have hy : (runK s p)[preN (wrF s p) m s.ln - 1]? = some y := hy
    have ew : s.w y p = s.w m p := ey
    obtain ⟨T, hT, S⟩ := trn_at (F := pt b (.lst xs) :: dat (nV bi) d :: Z :: pt l8 (.lst ((B.take 1).map nV)) :: hole ((B.take 1).map nV) (((B.take 1).map fun k => ((k : Nat) : Int)).map PyData.int) i :: BoxedU K t dx gr w g o (s.put m p z) (c + bst s m p) (ord K o.pl r (s.tr.length + 1) tm :: pt o.mr (.dK (idK (keptN s.gn))) :: pt o.bx (.lst bv) :: hole bv (runsT s) p :: pt o.ow (.dK (idK (keptN s.gn))) :: F)) (S.fr (by walk_at "fr")) hy
    rw [ew] at S
    walk_at "go"
    refine al_t S fun T1 H6 S => ?_
    walk_at "go"
    refine ix_l (S.fr (qs := [pt b (.lst xs)]) (by walk_at "fr")).get (atI_n hT) ?_
    walk_at "go"
    refine ⟨_, rfl, ?_⟩
    walk_at "w"
    refine slt_S S S.p1.getF (by
      show ¬ (HT.sIx 3 0 (some 1) = 0 ∧ HT.sIx 3 3 none = 3)
      decide) fun T2 H7 S => ?_
    have ec : cutV [nV y, nV (s.w m p), V.int (vlW s.ws s.wr p (s.w m p))] (some 1) none = [nV (s.w m p), V.int (vlW s.ws s.wr p (s.w m p))] := rfl
    rw [ec] at S
    walk_at "w"
    refine catt_S S S.p1.getF S.getF (by simp) (by simp) (by show 1 + 2 ≤ 16777216; decide) fun T3 H8 S => ?_
    refine r1 _ (.ref T3) ?_
    have S9 : Star H8 (fx T3 (.tup ([((bi : Nat) : Int), ((s.w m p : Nat) : Int), vlW s.ws s.wr p (s.w m p)].map V.int)) :: dat (nV bi) d :: Z :: pt l8 (.lst ((B.take 1).map nV)) :: hole ((B.take 1).map nV) (((B.take 1).map fun k => ((k : Nat) : Int)).map PyData.int) i :: pt b (.lst xs) :: dats xs (runT s p) :: BoxedU K t dx gr w g o (s.put m p z) (c + bst s m p) (ord K o.pl r (s.tr.length + 1) tm :: pt o.mr (.dK (idK (keptN s.gn))) :: pt o.bx (.lst bv) :: hole bv (runsT s) p :: pt o.ow (.dK (idK (keptN s.gn))) :: F)) := S.fr (Fr.c0 (by walk_at "fr"))
    exact dat_tz.mpr ⟨T3, rfl, S9⟩
  have ers : ((List.range ((B.take 1).map nV).length).filter fun i => !decide ((B.take 1).getD i 0 ∈ runK s p)).map (fun i => MK.tz [(((B.take 1).getD i 0 : Nat) : Int), ((s.w m p : Nat) : Int), vlW s.ws s.wr p (s.w m p)]) = ((B.take 1).filter fun b => !decide (b ∈ runK s p)).map fun b => MK.tz [((b : Nat) : Int), ((s.w m p : Nat) : Int), vlW s.ws s.wr p (s.w m p)] := by
    rw [List.length_map]
    exact range_flt (l := B.take 1) (fun b => !decide (b ∈ runK s p)) (fun b => MK.tz [((b : Nat) : Int), ((s.w m p : Nat) : Int), vlW s.ws s.wr p (s.w m p)]) 0
  rw [ers] at S
  obtain ⟨rD, erD⟩ : ∃ rD, rD = ((B.take 1).filter fun b => !decide (b ∈ runK s p)).map fun b => MK.tz [((b : Nat) : Int), ((s.w m p : Nat) : Int), vlW s.ws s.wr p (s.w m p)] := ⟨_, rfl⟩
  rw [← erD] at S
  have hrs : rs.length ≤ 1 := by
    have h1 := S.p1.dlen
    have h2 : rD.length ≤ (B.take 1).length := by
      rw [erD, List.length_map]
      exact List.length_filter_le _ _
    omega
  obtain ⟨P, eP⟩ : ∃ P, P = preN (wrF s p) m s.ln := ⟨_, rfl⟩
  rw [← eP] at hP hPl
  have S : Star H5 (pt D9 (.lst rs) :: dats rs rD :: pt b (.lst xs) :: dats xs (runT s p) :: pt o.bx (.lst bv) :: hole bv (runsT s) p :: BoxedU K t dx gr w g o (s.put m p z) (c + bst s m p) (ord K o.pl r (s.tr.length + 1) tm :: pt o.mr (.dK (idK (keptN s.gn))) :: pt o.ow (.dK (idK (keptN s.gn))) :: F)) := S.fr (by walk_at "fr")
  have esp : ((preN (wrF s p) m s.ln - 1 : Nat) : Int) + 1 = ((P : Nat) : Int) := by omega
  walk_at "go"
  rw [esp]
  refine ⟨_, rfl, ?_⟩
  walk_at "w"
  refine sl_S S (S.fr (qs := [pt b (.lst xs)]) (by walk_at "fr")).get fun l1 H6 S => ?_
  rw [cut_to] at S
  walk_at "go"
  refine al_t S fun T5 H7 S => ?_
  walk_at "go"
  refine al_l S fun l2 H8 S => ?_
  walk_at "w"
  refine add_S S (S.fr (qs := [pt l1 (.lst (xs.take P))]) (by walk_at "fr")).get S.get (by rw [List.length_take]; show min P xs.length + 1 ≤ _; omega) fun l3 H9 S => ?_
  have S : Star H9 (pt l3 (.lst (xs.take P ++ [.ref T5])) :: fx T5 (.tup [nV (s.tr.length + 1), nV (s.tr.length + 1), .int z]) :: pt D9 (.lst rs) :: dats rs rD :: pt b (.lst xs) :: dats xs (runT s p) :: pt o.bx (.lst bv) :: hole bv (runsT s) p :: BoxedU K t dx gr w g o (s.put m p z) (c + bst s m p) (ord K o.pl r (s.tr.length + 1) tm :: pt o.mr (.dK (idK (keptN s.gn))) :: pt o.ow (.dK (idK (keptN s.gn))) :: F)) := S.fr (by walk_at "fr")
  walk_at "w"
  refine add_S S S.get (S.fr (qs := [pt D9 (.lst rs)]) (by walk_at "fr")).get (by rw [List.length_append, List.length_take]; show min P xs.length + 1 + rs.length ≤ _; omega) fun l4 H10 S => ?_
  have S : Star H10 (pt l4 (.lst (xs.take P ++ [.ref T5] ++ rs)) :: fx T5 (.tup [nV (s.tr.length + 1), nV (s.tr.length + 1), .int z]) :: dats rs rD :: pt b (.lst xs) :: dats xs (runT s p) :: pt o.bx (.lst bv) :: hole bv (runsT s) p :: BoxedU K t dx gr w g o (s.put m p z) (c + bst s m p) (ord K o.pl r (s.tr.length + 1) tm :: pt o.mr (.dK (idK (keptN s.gn))) :: pt o.ow (.dK (idK (keptN s.gn))) :: F)) := S.fr (by walk_at "fr")
  walk_at "go"
  rw [esp]
  refine ⟨_, rfl, ?_⟩
  walk_at "w"
  refine sl_S S (S.fr (qs := [pt b (.lst xs)]) (by walk_at "fr")).get fun l5 H11 S => ?_
  rw [cut_from] at S
  walk_at "w"
  refine add_S S S.p1.get S.get (by rw [List.length_append, List.length_append, List.length_take, List.length_drop]; show min P xs.length + 1 + rs.length + (xs.length - P) ≤ _; omega) fun l6 H12 S => ?_
  have S : Star H12 (pt o.bx (.lst bv) :: pt l6 (.lst (xs.take P ++ [.ref T5] ++ rs ++ xs.drop P)) :: fx T5 (.tup [nV (s.tr.length + 1), nV (s.tr.length + 1), .int z]) :: dats rs rD :: dats xs (runT s p) :: hole bv (runsT s) p :: BoxedU K t dx gr w g o (s.put m p z) (c + bst s m p) (ord K o.pl r (s.tr.length + 1) tm :: pt o.mr (.dK (idK (keptN s.gn))) :: pt o.ow (.dK (idK (keptN s.gn))) :: F)) := S.fr (by walk_at "fr")
  walk_at "go"
  refine set_S (a := o.bx) (xs := bv) (j := p) S (ixN_n (by have := (List.getElem?_eq_some_iff.mp hv).1; omega)) fun H13 S => ?_
  have T1 := dats_cut (n := P) (S.fr (by walk_at "fr") : Star H13 (dats xs (runT s p) :: pt o.bx (.lst (bv.set p (.ref l6))) :: pt l6 (.lst (xs.take P ++ [.ref T5] ++ rs ++ xs.drop P)) :: fx T5 (.tup [nV (s.tr.length + 1), nV (s.tr.length + 1), .int z]) :: dats rs rD :: hole bv (runsT s) p :: BoxedU K t dx gr w g o (s.put m p z) (c + bst s m p) (ord K o.pl r (s.tr.length + 1) tm :: pt o.mr (.dK (idK (keptN s.gn))) :: pt o.ow (.dK (idK (keptN s.gn))) :: F)))
  have T2 : Star H13 (dat (.ref T5) (MK.tz [((s.tr.length + 1 : Nat) : Int), ((s.tr.length + 1 : Nat) : Int), z]) :: dats (xs.take P) ((runT s p).take P) :: dats rs rD :: dats (xs.drop P) ((runT s p).drop P) :: pt l6 (.lst (xs.take P ++ [.ref T5] ++ rs ++ xs.drop P)) :: hole bv (runsT s) p :: pt o.bx (.lst (bv.set p (.ref l6))) :: BoxedU K t dx gr w g o (s.put m p z) (c + bst s m p) (ord K o.pl r (s.tr.length + 1) tm :: pt o.mr (.dK (idK (keptN s.gn))) :: pt o.ow (.dK (idK (keptN s.gn))) :: F)) := dat_tz.mpr ⟨T5, rfl, T1.fr (Fr.c4 (by walk_at "fr"))⟩
  have T3 := Star.snoc (T2.fr (Fr.c1 (Fr.c0 (Fr.refl _))))
  have T4 := dats_app (T3.fr (Fr.c0 (Fr.c0 (Fr.refl _))))
  have T5' := dats_app (T4.fr (Fr.c0 (Fr.c0 (Fr.refl _))))
  have enew : (runT s p).take P ++ [MK.tz [((s.tr.length + 1 : Nat) : Int), ((s.tr.length + 1 : Nat) : Int), z]] ++ rD ++ (runT s p).drop P = runT (s.put m p z) p := by
    rw [runT_new h hm hp hz hf hB, erD, eP]
  rw [enew] at T5'
  have T6 : Star H13 (dat (.ref l6) (.list (runT (s.put m p z) p)) :: hole bv (runsT s) p :: pt o.bx (.lst (bv.set p (.ref l6))) :: BoxedU K t dx gr w g o (s.put m p z) (c + bst s m p) (ord K o.pl r (s.tr.length + 1) tm :: pt o.mr (.dK (idK (keptN s.gn))) :: pt o.ow (.dK (idK (keptN s.gn))) :: F)) := dat_l.mpr ⟨l6, _, rfl, T5'.p1⟩
  have T7 := T6.back
  rw [← runsT_put h hm hp hz hf rfl] at T7
  have S : Star H13 (BoxedU K t dx gr w g o (s.put m p z) (c + bst s m p) (ord K o.pl r (s.tr.length + 1) tm :: pt o.mr (.dK (idK (keptN s.gn))) :: pt o.ow (.dK (idK (keptN s.gn))) :: pt o.bx (.lst (bv.set p (.ref l6))) :: dats (bv.set p (.ref l6)) (runsT (s.put m p z)) :: F)) := T7.fr (by walk_at "fr")
  have hfew := h.row.few
  have hkk := kept_len (gn := s.gn)
  have hgl := h.len
  have hnk : s.tr.length + 1 ∉ keptN s.gn := fun z => by
    have := h.lt z
    omega
  walk_at "go"
  refine dsp_o (t := o.pl) (r := r) (g := s.tr.length + 1) (tm := tm) (F := []) (S.fr (by walk_at "fr")) (by decide +kernel) ?_
  walk_at "go"
  refine ixd_i (S.fr (qs := [pt o.mr (.dK (idK (keptN s.gn)))]) (by walk_at "fr")).get (id_in hm) ?_
  walk_at "go"
  refine Order_behind_ok (t := o.pl) (r := r) (g := s.tr.length + 1) (tm := tm) (i := A.length) (F := BoxedU K t dx gr w g o (s.put m p z) (c + bst s m p) (pt o.mr (.dK (idK (keptN s.gn))) :: pt o.ow (.dK (idK (keptN s.gn))) :: pt o.bx (.lst (bv.set p (.ref l6))) :: dats (bv.set p (.ref l6)) (runsT (s.put m p z)) :: F)) (S.fr (by walk_at "fr")) hlb (by omega) (by omega) fun H14 S => ?_
  walk_at "go"
  refine setd_i (a := o.mr) (kvs := idK (keptN s.gn)) (S.fr (by walk_at "fr")) (by rw [id_len]; omega) fun H15 S => ?_
  rw [id_put hnk] at S
  have hkp : keptN s.gn ++ [s.tr.length + 1] = keptN (s.put m p z).gn := by rw [RS.kept_put, hgl]
  rw [hkp] at S
  have S : Star H15 (BoxedU K t dx gr w g o (s.put m p z) (c + bst s m p) (pt o.mr (.dK (idK (keptN (s.put m p z).gn))) :: pt o.ow (.dK (idK (keptN s.gn))) :: ord K o.pl (bhd r (s.tr.length + 1) A.length) (s.tr.length + 1 + 1) (tm + anewN r A.length) :: pt o.bx (.lst (bv.set p (.ref l6))) :: dats (bv.set p (.ref l6)) (runsT (s.put m p z)) :: F)) := S.fr (by walk_at "fr")
  have hin : s.tr.length + 1 ∈ keptN (s.put m p z).gn := by
    rw [← hkp]
    exact List.mem_append_right _ List.mem_cons_self
  walk_at "go"
  refine ixd_i (S.fr (qs := [pt o.mr (.dK (idK (keptN (s.put m p z).gn)))]) (by walk_at "fr")).get (id_in hin) ?_
  walk_at "go"
  refine setd_i (a := o.ow) (kvs := idK (keptN s.gn)) (S.fr (by walk_at "fr")) (by rw [id_len]; omega) fun H16 S => ?_
  rw [id_put hnk, hkp] at S
  walk_at "w"
  refine k _ o ?_
  have hr2 : (bhd r (s.tr.length + 1) A.length).map Prod.fst = (s.put m p z).ln := by
    rw [bhd_fst, hr, h.ln_put hm, insB_at h.ln_nd hj1]
  have etl : (s.put m p z).tr.length = s.tr.length + 1 := by
    show (s.tr ++ [m]).length = _
    rw [List.length_append]
    rfl
  have T8 : Star H16 (BoxedH K o (s.put m p z) () :: BoxedU K t dx gr w g o (s.put m p z) (c + bst s m p) F) := BoxedH_iff.mpr ⟨bhd r (s.tr.length + 1) A.length, tm + anewN r A.length, bv.set p (.ref l6), hr2, by
    rw [etl]
    exact S.fr (by walk_at "fr")⟩
  exact T8.fr (by walk_at "fr")
end
end Lawk44

namespace Lawk44
open PySem PySem.Spec PyProof.Rows L2 MK
section
variable {K : PySem.W.Frag} {F : List SP} {H : Hp} {Q : VK} {E : XK} {t dx gr w g a : Addr} {o : BoxedO} {s : RS} {c z : Int} {x : BoxedX} {m p n lo hi : Nat}
theorem Boxed_written_p (S : Star H (BoxedP K t s c x :: F)) (hm : m ∈ keptN s.gn) (hp : p < s.ws.length) (hz : -bigI < z ∧ z < bigI) (hf : s.tr.length < 63) (hw : Boxed_nw s m)
    (k : ∀ H', Star H' (BoxedP K t (s.put m p z) (c + Boxed_pc s x m p) (Boxed_px s x m p z) :: F) → Q (nV (s.tr.length + 1)) H') : sp_Boxed_written K [.ref t, nV m, nV p, .int z] H Q E := by
  obtain ⟨h, dx, gr, w, g, o, S⟩ := Boxed_of S
  have hml := h.lt hm
  have hlen := h.row.len
  have hg := h.len
  refine sp_Boxed_written_i ?_
  walk_at "go"
  refine dsp_L S.p1 (by decide +kernel) ?_
  walk_at "go"
  refine grow_L (t := gr) (tr := s.tr) S.p1 hml (by omega) fun H1 S => ?_
  have S : Star H1 (Boxed_o K t dx s.ws.length gr w g c o :: tre K true gr (s.tr ++ [m]) :: pt w (.lst (wrV s.wr)) :: pt g (.lst (s.gn.map V.bl)) :: BoxedH K o s x :: F) := S.fr (by walk_at "fr")
  walk_at "go"
  refine app_S (a := w) (xs := wrV s.wr) (S.fr (by walk_at "fr")) (by rw [h.wr_len]; omega) fun H2 S => ?_
  have e1 : wrV s.wr ++ [nV p] = wrV (s.wr ++ [(p, z)]) := by
    unfold wrV
    rw [List.map_append]
    rfl
  rw [e1] at S
  walk_at "go"
  refine app_S (a := g) (xs := s.gn.map V.bl) (S.fr (by walk_at "fr")) (by rw [List.length_map]; omega) fun H3 S => ?_
  have e3 : s.gn.map V.bl ++ [.bl false] = (s.gn ++ [false]).map V.bl := by
    rw [List.map_append]
    rfl
  rw [e3] at S
  have S : Star H3 (BoxedU K t dx gr w g o (s.put m p z) c (BoxedH K o s x :: F)) := S.fr (by walk_at "fr")
  walk_at "go"
  refine Boxed_store_u S h hm hp hz hf hw fun H4 o' S => ?_
  walk_at "go"
  exact k _ (Boxed_mk (h.put hml hp hz hf) S)
theorem Boxed_put_p (S : Star H (BoxedP K t s c x :: F)) (hm : m ∈ keptN s.gn) (hp : p < s.ws.length) (hz : -bigI < z ∧ z < bigI) (hf : s.tr.length < 63) (hw : Boxed_nw s m)
    (k : ∀ H', Star H' (BoxedP K t (s.put m p z) (c + Boxed_pc s x m p) (Boxed_px s x m p z) :: F) → Q (nV (s.tr.length + 1)) H') : sp_Boxed_put K [.ref t, nV m, nV p, .int z] H Q E := by
  obtain ⟨h, dx, gr, w, g, o, S⟩ := Boxed_of S
  refine sp_Boxed_put_i ?_
  walk_at "go"
  refine Boxed_need_make_u S hm ?_
  walk_at "go"
  refine Boxed_need_place_u S hp ?_
  walk_at "go"
  have S1 : Star H (dat (.int z) (.int z) :: F) := dat_i.mpr ⟨rfl, S.fr (by walk_at "fr")⟩
  refine is_worth_ok S1 ?_
  rw [worth_yes hz]
  walk_at "go"
  refine Boxed_need_new_u S hm hw ?_
  walk_at "go"
  refine Boxed_need_room_u (n := 1) S (by omega) ?_
  walk_at "go"
  exact Boxed_written_p (Boxed_mk h S) hm hp hz hf hw k
end
end Lawk44

namespace Lawk44
open PySem PySem.Spec PyProof.Rows L2 MK
theorem Boxed_init_p {K : PySem.W.Frag} {F : List SP} {H : Hp} {Q : VK} {E : XK} {t dx a : Addr} {ws : List Int} {b : Bool} (S : Star H (pt t (.ins (He.ga K "Boxed") dx []) :: sq b a (ws.map V.int) :: F)) (h1 : 1 ≤ ws.length) (h2 : ws.length ≤ 16) (h3 : ∀ z ∈ ws, -bigI < z ∧ z < bigI)
    (k : ∀ H', Star H' (BoxedP K t (RS.zero ws) 0 (Boxed_x0 ws) :: sq b a (ws.map V.int) :: F) → Q .non H') : sp_Boxed_Rows_init K [.ref t, .ref a] H Q E := by
  refine sp_Boxed_Rows_init_i ?_
  walk_at "go"
  have S1 : Star H (sq b a (ws.map V.int) :: pt t (.ins (He.ga K "Boxed") dx []) :: F) := S.p1
  have S2 : Star H (sq b a (ws.map V.int) :: dats (ws.map V.int) (ws.map PyData.int) :: pt t (.ins (He.ga K "Boxed") dx []) :: F) := Star.fr (intsZ (xs := ws) S1) (Fr.c1 (Fr.c0 (Fr.refl _)))
  refine is_worths_sq (b := b) (ds := ws.map PyData.int) (dat_sq.mpr ⟨a, _, rfl, S2⟩) fun H1 S => ?_
  rw [worths_yes h1 h2 h3]
  obtain ⟨a', xs, ea, S⟩ := dat_sq.mp S
  cases ea
  obtain ⟨ex, S⟩ := intsZ_of (xs := ws) (vs := xs) (Star.p1 S)
  subst ex
  walk_at "go"
  rw [List.length_map]
  refine stf_S (a := t) (C := He.ga K "Boxed") (dx := dx) (fs := []) (S.fr (by walk_at "fr")) List.mem_cons_self (by show 0 < 1000; decide) fun H2 S => ?_
  walk_at "w"
  intro x dx1 hx hd hne
  refine LeapTree_init_ok (S.mkI hx hd hne) fun H3 S => ?_
  walk_at "go"
  refine stf_S (a := t) (C := He.ga K "Boxed") (dx := dx) (fs := [("wide", nV ws.length)]) (S.fr (by walk_at "fr")) List.mem_cons_self (by show 1 < 1000; decide) fun H4 S => ?_
  walk_at "go"
  refine al_l S fun w H5 S => ?_
  walk_at "go"
  refine stf_S (a := t) (C := He.ga K "Boxed") (dx := dx) (fs := [("wide", nV ws.length), ("grown", .ref x)]) (S.fr (by walk_at "fr")) List.mem_cons_self (by show 2 < 1000; decide) fun H6 S => ?_
  walk_at "go"
  refine al_l S fun g H7 S => ?_
  walk_at "go"
  refine stf_S (a := t) (C := He.ga K "Boxed") (dx := dx) (fs := [("wide", nV ws.length), ("grown", .ref x), ("wrote", .ref w)]) (S.fr (by walk_at "fr")) List.mem_cons_self (by show 3 < 1000; decide) fun H8 S => ?_
  walk_at "go"
  refine stf_S (a := t) (C := He.ga K "Boxed") (dx := dx) (fs := [("wide", nV ws.length), ("grown", .ref x), ("wrote", .ref w), ("gone", .ref g)]) S List.mem_cons_self (by show 4 < 1000; decide) fun H9 S => ?_
  have S : Star H9 (pt t (.ins (He.ga K "Boxed") dx [("wide", nV ws.length), ("grown", .ref x), ("wrote", .ref w), ("gone", .ref g), ("counted", .int 0)]) :: sq b a (ws.map V.int) :: tre K true x [] :: pt w (.lst (wrV [])) :: pt g (.lst ([false].map V.bl)) :: F) := S.fr (Fr.c0 (by walk_at "fr"))
  walk_at "go"
  refine list_sq (b := b) (a := a) (xs := ws.map V.int) S.p1 fun u H10 S => ?_
  walk_at "go"
  refine Boxed_begin_u (t := t) (dx := dx) (u := u) (n := ws.length) (gr := x) (w := w) (g := g) (c := 0) (ws := ws) (S.fr (by walk_at "fr")) h2 fun H11 o S => ?_
  walk_at "go"
  exact k _ (Boxed_mk (s := RS.zero ws) (dx := dx) (gr := x) (w := w) (g := g) (o := o) (RSok.zero h1 h2 h3) (S.fr (by walk_at "fr")))
end Lawk44

namespace Lawk44
open PySem PySem.Spec PyProof.Rows L2 MK
def Boxed_ac (s : RS) (x : BoxedX) (m : Nat) : List (Nat × Int) → Int
  | [] => 0
  | p :: cs => Boxed_pc s x m p.1 + Boxed_ac (s.put m p.1 p.2) (Boxed_px s x m p.1 p.2) (s.tr.length + 1) cs
def Boxed_ax (s : RS) (x : BoxedX) (m : Nat) : List (Nat × Int) → BoxedX
  | [] => x
  | p :: cs => Boxed_ax (s.put m p.1 p.2) (Boxed_px s x m p.1 p.2) (s.tr.length + 1) cs
section
variable {K : PySem.W.Frag} {F : List SP} {H : Hp} {Q : VK} {E : XK} {t dx gr w g a u d2 gr2 w2 g2 : Addr} {o o2 : BoxedO} {s : RS} {c c2 z : Int} {x : BoxedX} {m p n j n2 : Nat} {b : Bool} {xs : List V} {cs : List (Nat × Int)} {q : Nat × Int}
theorem Boxed_ac_snoc : ∀ {cs : List (Nat × Int)} {s : RS} {x : BoxedX} {m : Nat}, Boxed_ac s x m (cs ++ [q]) = Boxed_ac s x m cs + Boxed_pc (s.puts m cs) (Boxed_ax s x m cs) (lastM s m cs.length) q.1
  | [], s, x, m => by
    show Boxed_pc s x m q.1 + 0 = 0 + Boxed_pc s x m q.1
    omega
  | p :: cs, s, x, m => by
    show Boxed_pc s x m p.1 + Boxed_ac (s.put m p.1 p.2) (Boxed_px s x m p.1 p.2) (s.tr.length + 1) (cs ++ [q]) = Boxed_pc s x m p.1 + Boxed_ac (s.put m p.1 p.2) (Boxed_px s x m p.1 p.2) (s.tr.length + 1) cs + Boxed_pc ((s.put m p.1 p.2).puts (s.tr.length + 1) cs) (Boxed_ax (s.put m p.1 p.2) (Boxed_px s x m p.1 p.2) (s.tr.length + 1) cs) (lastM s m (cs.length + 1)) q.1
    rw [Boxed_ac_snoc, lastM_put]
    omega
theorem Boxed_ax_snoc : ∀ {cs : List (Nat × Int)} {s : RS} {x : BoxedX} {m : Nat}, Boxed_ax s x m (cs ++ [q]) = Boxed_px (s.puts m cs) (Boxed_ax s x m cs) (lastM s m cs.length) q.1 q.2
  | [], s, x, m => rfl
  | p :: cs, s, x, m => by
    show Boxed_ax (s.put m p.1 p.2) (Boxed_px s x m p.1 p.2) (s.tr.length + 1) (cs ++ [q]) = Boxed_px ((s.put m p.1 p.2).puts (s.tr.length + 1) cs) (Boxed_ax (s.put m p.1 p.2) (Boxed_px s x m p.1 p.2) (s.tr.length + 1) cs) (lastM s m (cs.length + 1)) q.1 q.2
    rw [Boxed_ax_snoc, lastM_put]
theorem Boxed_put_all_p (S : Star H (BoxedP K t s c x :: sq b a xs :: dats xs (cs.map chD) :: F)) (hm : m ∈ keptN s.gn) (hc : ∀ x ∈ cs, x.1 < s.ws.length ∧ (-bigI < x.2 ∧ x.2 < bigI)) (hl : cs.length ≤ 20) (hf : s.tr.length + cs.length ≤ 63) (hw : cs ≠ [] → Boxed_nw s m)
    (k : ∀ H' D, Star H' (pt D (.lst ((List.range' (s.tr.length + 1) cs.length).map nV)) :: BoxedP K t (s.puts m cs) (c + Boxed_ac s x m cs) (Boxed_ax s x m cs) :: sq b a xs :: dats xs (cs.map chD) :: F) → Q (.ref D) H') : sp_Boxed_put_all K [.ref t, nV m, .ref a] H Q E := by
  obtain ⟨h, dx, gr, w, g, o, S⟩ := Boxed_of S
  have hxl : xs.length = cs.length := by
    have := (Star.fr S (qs := dats xs (cs.map chD) :: F) (by walk_at "fr")).dlen
    rw [List.length_map] at this
    exact this
  refine sp_Boxed_put_all_i ?_
  walk_at "go"
  refine Boxed_need_make_u S hm ?_
  walk_at "go"
  refine is_changes_sq (b := b) (xs := xs) (ds := cs.map chD) (F := BoxedU K t dx gr w g o s c (BoxedH K o s x :: F)) (S.fr (by walk_at "fr")) (by rw [List.length_map]; omega) fun H1 S => ?_
  rw [changes_yes hl hc]
  have S : Star H1 (BoxedU K t dx gr w g o s c (BoxedH K o s x :: sq b a xs :: dats xs (cs.map chD) :: F)) := S.fr (by walk_at "fr")
  walk_at "go"
  rw [hxl]
  refine brd (fun h0 => ?_) (fun h0 => ?_)
  · walk_at "go"
    have e : cs = [] := List.length_eq_zero_iff.mp (by omega)
    subst e
    refine al_l S fun D H2 S => ?_
    refine k _ D ?_
    have S2 := Boxed_mk (x := x) h (S.fr (by walk_at "fr") : Star H2 (BoxedU K t dx gr w g o s c (BoxedH K o s x :: pt D (.lst []) :: sq b a xs :: dats xs (([] : List (Nat × Int)).map chD) :: F)))
    have e1 : c + Boxed_ac s x m [] = c := Int.add_zero c
    rw [e1]
    exact S2.fr (by walk_at "fr")
  · have hne : cs ≠ [] := fun e => h0 (by rw [e]; rfl)
    walk_at "go"
    refine Boxed_need_new_u S hm (hw hne) ?_
    walk_at "go"
    rw [hxl]
    refine Boxed_need_room_u (n := cs.length) S (by omega) ?_
    walk_at "go"
    refine al_l S fun fd H2 S => ?_
    have S : Star H2 (pt fd (.lst (foundV s m 0)) :: BoxedP K t s c x :: sq b a xs :: dats xs (cs.map chD) :: F) := Star.p1 (Boxed_mk (x := x) h (S.fr (by unfold foundV; walk_at "fr")))
    walk_at "go"
    refine Star.it_sq (b := b) (xs := xs) (F := []) (S.fr (by walk_at "fr")) fun J wk => ?_
    refine Loop.it wk (fun j σ H => ∃ y4 y5, Star H (pt fd (.lst (foundV s m j)) :: BoxedP K t (s.puts m (cs.take j)) (c + Boxed_ac s x m (cs.take j)) (Boxed_ax s x m (cs.take j)) :: sq b a xs :: dats xs (cs.map chD) :: F) ∧ σ = [some (.ref t), some (nV m), some (.ref a), some (.ref fd), y4, y5]) ⟨_, _, by rw [List.take_zero, show c + Boxed_ac s x m [] = c from Int.add_zero c]; exact S, rfl⟩ (fun j σ H _ ⟨_, _, z, _⟩ => Star.sqb (z.fr (qs := [sq b a xs]) (by walk_at "fr"))) ?_ ?_
    · rintro j v σ H3 H4 hj ⟨y4, y5, S, rfl⟩ ⟨rfl, hv⟩
      have hj' : j < cs.length := by omega
      obtain ⟨q, hq⟩ : ∃ q, cs[j]? = some q := ⟨_, List.getElem?_eq_getElem hj'⟩
      obtain ⟨T, hT, S⟩ := chs_at (cs := cs) (j := j) (x := q) (F := pt fd (.lst (foundV s m j)) :: BoxedP K t (s.puts m (cs.take j)) (c + Boxed_ac s x m (cs.take j)) (Boxed_ax s x m (cs.take j)) :: sq b a xs :: F) (S.fr (by walk_at "fr")) hq
      rw [hT] at hv
      cases hv
      have hqc := hc q (List.mem_of_getElem? hq)
      have htl : (cs.take j).length = j := by rw [List.length_take]; omega
      have hpu := h.puts (cs := cs.take j) (m := m) hm (fun x hx => hc x (List.mem_of_mem_take hx)) (by rw [htl]; omega)
      rw [htl] at hpu
      have hpl : (s.puts m (cs.take j)).tr.length = s.tr.length + j := by rw [RS.puts_len, htl]
      unfold gU
      refine unp_t S.getF rfl ?_
      walk_at "go"
      refine dsp_Boxed (t := t) (s := s.puts m (cs.take j)) (c := c + Boxed_ac s x m (cs.take j)) (x := Boxed_ax s x m (cs.take j)) (F := []) (S.fr (by walk_at "fr")) (by decide +kernel) List.mem_cons_self ?_
      walk_at "go"
      refine ix_l (a := fd) (S.fr (qs := [pt fd (.lst (foundV s m j))]) (by walk_at "fr")).get (atI_last foundV_last) ?_
      walk_at "go"
      refine Boxed_written_p (t := t) (s := s.puts m (cs.take j)) (c := c + Boxed_ac s x m (cs.take j)) (x := Boxed_ax s x m (cs.take j)) (m := lastM s m j) (p := q.1) (z := q.2) (F := pt fd (.lst (foundV s m j)) :: sq b a xs :: dats xs (cs.map chD) :: F) (S.fr (by walk_at "fr")) hpu.2 (by rw [RS.puts_ws]; exact hqc.1) hqc.2 (by rw [hpl]; omega) ?_ fun H5 S => ?_
      · by_cases e : j = 0
        · subst e
          exact hw hne
        · exact Boxed_nw_new (by unfold lastM; rw [if_neg e, hpl])
      · walk_at "go"
        refine app_S (a := fd) (xs := foundV s m j) (S.fr (by walk_at "fr")) (by rw [foundV_len]; omega) fun H6 S => ?_
        rw [hpl, foundV_app] at S
        walk_at "w"
        refine ⟨_, _, ?_, rfl⟩
        have e2 : cs.take (j + 1) = cs.take j ++ [q] := by rw [List.take_succ, hq]; rfl
        rw [RS.puts_take hq, e2, Boxed_ac_snoc, Boxed_ax_snoc, htl, ← Int.add_assoc]
        exact S.fr (by walk_at "fr")
    · rintro σ H3 ⟨y4, y5, S, rfl⟩
      rw [hxl, List.take_length] at S
      walk_at "w"
      refine ⟨1, rfl, ?_⟩
      walk_at "w"
      refine sl_S S S.get fun D H4 S => ?_
      rw [show (some (1 : Int)) = some ((1 : Nat) : Int) from rfl, cut_from] at S
      exact k _ D (S.fr (by walk_at "fr"))
theorem Boxed_same_makes_u (S : Star H (Boxed_o K u d2 n2 gr2 w2 g2 c2 o2 :: BoxedU K t dx gr w g o s c F)) (h : RSok s)
    (k : ∀ H' gr2 w2 g2, Star H' (Boxed_o K u d2 n2 gr2 w2 g2 c o2 :: tre K true gr2 s.tr :: pt w2 (.lst (wrV s.wr)) :: pt g2 (.lst (s.gn.map V.bl)) :: BoxedU K t dx gr w g o s c F) → Q (.ref u) H') : sp_Boxed_same_makes K [.ref t, .ref u] H Q E := by
  have hf := h.row.few
  refine sp_Boxed_same_makes_i ?_
  walk_at "go"
  refine dsp_L (t := gr) (tr := s.tr) (F := []) (S.fr (by walk_at "fr")) (by decide +kernel) ?_
  walk_at "go"
  refine LeapTree_copied_ok (t := gr) (tr := s.tr) (S.fr (by walk_at "fr")) (by omega) fun H1 g3 S => ?_
  have S : Star H1 (Boxed_o K u d2 n2 gr2 w2 g2 c2 o2 :: tre K true g3 s.tr :: BoxedU K t dx gr w g o s c F) := S.fr (by walk_at "fr")
  walk_at "go"
  refine stf_S S List.mem_cons_self (Nat.le_of_ble_eq_true rfl) fun H2 S => ?_
  have S : Star H2 (Boxed_o K u d2 n2 g3 w2 g2 c2 o2 :: tre K true g3 s.tr :: BoxedU K t dx gr w g o s c F) := S
  walk_at "go"
  refine list_S S (a := w) (xs := wrV s.wr) (S.fr (qs := [pt w (.lst (wrV s.wr))]) (by walk_at "fr")).get fun w3 H3 S => ?_
  walk_at "go"
  refine stf_S S.p1 List.mem_cons_self (Nat.le_of_ble_eq_true rfl) fun H4 S => ?_
  have S : Star H4 (Boxed_o K u d2 n2 g3 w3 g2 c2 o2 :: pt w3 (.lst (wrV s.wr)) :: tre K true g3 s.tr :: BoxedU K t dx gr w g o s c F) := S
  walk_at "go"
  refine list_S S (a := g) (xs := s.gn.map V.bl) (S.fr (qs := [pt g (.lst (s.gn.map V.bl))]) (by walk_at "fr")).get fun g4 H5 S => ?_
  walk_at "go"
  refine stf_S S.p1 List.mem_cons_self (Nat.le_of_ble_eq_true rfl) fun H6 S => ?_
  have S : Star H6 (Boxed_o K u d2 n2 g3 w3 g4 c2 o2 :: pt g4 (.lst (s.gn.map V.bl)) :: pt w3 (.lst (wrV s.wr)) :: tre K true g3 s.tr :: BoxedU K t dx gr w g o s c F) := S
  walk_at "go"
  refine stf_S S List.mem_cons_self (Nat.le_of_ble_eq_true rfl) fun H7 S => ?_
  have S : Star H7 (Boxed_o K u d2 n2 g3 w3 g4 c o2 :: pt g4 (.lst (s.gn.map V.bl)) :: pt w3 (.lst (wrV s.wr)) :: tre K true g3 s.tr :: BoxedU K t dx gr w g o s c F) := S
  walk_at "go"
  exact k _ g3 w3 g4 (S.fr (by walk_at "fr"))
end
end Lawk44

namespace Lawk44
open PySem PySem.Spec PyProof.Rows L2 MK
section
variable {K : PySem.W.Frag} {F : List SP} {H : Hp} {Q : VK} {E : XK} {t dx gr w g a u : Addr} {o : BoxedO} {s : RS} {c z : Int} {x : BoxedX} {m p n lo hi j k tm : Nat} {ws : List Int} {xs bv : List V} {r : List (Nat × Nat)}
theorem mul_S {a : Addr} {zs : List V} {k : Nat} (S : Star H (pt a (.lst zs) :: F)) (hk : zs.length * k ≤ 1000) (hk2 : k ≤ 1000) (q : ∀ p H', Star H' (pt p (.lst (List.replicate k zs).flatten) :: pt a (.lst zs) :: F) → Q (.ref p) H') : mulX (.ref a) (.int (k : Nat)) H Q := by
  refine mul_l S.get (by omega) (by omega) (by rw [Int.toNat_natCast, sizeLine_eq]; omega) fun p hp => ?_
  rw [Int.toNat_natCast]
  exact q p _ (S.newL hp)
theorem rep_zero {k : Nat} : (List.replicate k [V.int 0]).flatten = (List.replicate k (0 : Int)).map V.int := by
  induction k with
  | zero => rfl
  | succ k ih => rw [List.replicate_succ, List.flatten_cons, ih, List.replicate_succ]; rfl
theorem Boxed_copied_p (S : Star H (BoxedP K t s c x :: F)) (k : ∀ H' u, Star H' (BoxedP K u s c x :: BoxedP K t s c x :: F) → Q (.ref u) H') : sp_Boxed_copied K [.ref t] H Q E := by
  obtain ⟨h, dx, gr, w, g, o, S⟩ := Boxed_of S
  have hle := h.row.le
  have hne := h.row.ne
  have hf := h.row.few
  have hlen := h.row.len
  refine sp_Boxed_copied_i ?_
  walk_at "go"
  refine al_l S fun a H1 S => ?_
  walk_at "go"
  refine Boxed_size_u (t := t) (s := s) (c := c) (F := []) (S.fr (by walk_at "fr")) ?_
  walk_at "go"
  refine mul_S S (by show 1 * _ ≤ 1000; omega) (by omega) fun b H2 S => ?_
  rw [rep_zero] at S
  walk_at "w"
  intro u d2 hu hd hne
  have hl : (List.replicate s.ws.length (0 : Int)).length = s.ws.length := List.length_replicate
  refine Boxed_init_p (t := u) (dx := d2) (a := b) (b := true) (ws := List.replicate s.ws.length 0) (F := BoxedU K t dx gr w g o s c (BoxedH K o s x :: F)) ((S.mkI (C := He.ga K "Boxed") hu hd hne).fr (Fr.c0 (Fr.c0 (by walk_at "fr")))) (by omega) (by omega) (fun z hz => by
    rw [List.eq_of_mem_replicate hz]
    decide) fun H3 S => ?_
  obtain ⟨_, dx2, gr2, w2, g2, o2, S⟩ := Boxed_of S
  refine ⟨rfl, ?_⟩
  obtain ⟨r, tm, bv, hr, S⟩ := BoxedH_iff.mp (S.fr (qs := BoxedH K o s x :: Boxed_o K u dx2 (RS.zero (List.replicate s.ws.length 0)).ws.length gr2 w2 g2 0 o2 :: BoxedU K t dx gr w g o s c F) (by walk_at "fr"))
  have hbl : bv.length = s.ws.length := by
    have := (Star.fr S (qs := dats bv (runsT s) :: F) (by walk_at "fr")).dlen
    rw [runsT_len] at this
    exact this
  have e : (RS.zero (List.replicate s.ws.length (0 : Int))).ws.length = s.ws.length := hl
  rw [e] at S
  have S : Star H3 (pt o.bx (.lst bv) :: dats bv (runsT s) :: Boxed_o K u dx2 s.ws.length gr2 w2 g2 0 o2 :: Boxed_o K t dx s.ws.length gr w g c o :: ord K o.pl r (s.tr.length + 1) tm :: pt o.ow (.dK (idK (keptN s.gn))) :: pt o.mr (.dK (idK (keptN s.gn))) :: tre K true gr s.tr :: pt w (.lst (wrV s.wr)) :: pt g (.lst (s.gn.map V.bl)) :: F) := S.fr (by walk_at "fr")
  walk_at "go"
  refine it_l S.get ?_
  intro D hD
  refine lc_dat (a := o.bx) (xs := bv) (ds := runsT s) (F := Boxed_o K u dx2 s.ws.length gr2 w2 g2 0 o2 :: Boxed_o K t dx s.ws.length gr w g c o :: ord K o.pl r (s.tr.length + 1) tm :: pt o.ow (.dK (idK (keptN s.gn))) :: pt o.mr (.dK (idK (keptN s.gn))) :: tre K true gr s.tr :: pt w (.lst (wrV s.wr)) :: pt g (.lst (s.gn.map V.bl)) :: F) _ (fun _ => true) (fun i => .list (runT s i)) (fun x H Q q => q) (by omega) hD S (fun x => rfl) (fun i v d Z H1 R _ _ S r => r _ S) ?_ fun H4 ys S => ?_
  · intro i v d Z H1 R hv hd _ S r1
    have hi : i < s.ws.length := by
      have := (List.getElem?_eq_some_iff.mp hv).1
      omega
    rw [runsT_at hi] at hd
    cases hd
    obtain ⟨b, xs, ev, S7⟩ := dat_l.mp S
    subst ev
    walk_at "go"
    refine list_S S7 S7.get fun D2 H2 S8 => ?_
    have T1 := fz_dup runT_fz (S8.fr (Fr.c2 (Fr.refl _)))
    have T2 := dat_l.mpr ⟨b, xs, rfl, T1.fr (Fr.c3 (Fr.c0 (Fr.refl _)))⟩
    have T3 := dat_l.mpr ⟨D2, xs, rfl, T2.fr (Fr.c2 (Fr.c1 (Fr.c0 (Fr.refl _))))⟩
    exact r1 _ _ T3
  · rw [filt_true, hbl] at S
    have eb : (List.range s.ws.length).map (fun i => PyData.list (runT s i)) = runsT s := rfl
    rw [eb] at S
    walk_at "go"
    refine stf_S (a := u) (S.fr (Fr.c4 (Fr.refl _))) List.mem_cons_self (Nat.le_of_ble_eq_true rfl) fun H5 S => ?_
    walk_at "go"
    refine dsp_o (t := o.pl) (r := r) (g := s.tr.length + 1) (tm := tm) (F := []) (S.fr (by walk_at "fr")) (by decide +kernel) ?_
    walk_at "go"
    refine Order_copied_ok (t := o.pl) (r := r) (g := s.tr.length + 1) (tm := tm) (S.fr (Fr.c6 (Fr.refl _))) fun H6 pl2 S => ?_
    walk_at "go"
    refine stf_S (a := u) (S.fr (Fr.c2 (Fr.refl _))) List.mem_cons_self (Nat.le_of_ble_eq_true rfl) fun H7 S => ?_
    walk_at "go"
    refine dct_S S (S.fr (qs := [pt o.ow (.dK (idK (keptN s.gn)))]) (by walk_at "fr")).get fun ow2 H8 S => ?_
    walk_at "go"
    refine stf_S (a := u) (S.fr (Fr.c1 (Fr.refl _))) List.mem_cons_self (Nat.le_of_ble_eq_true rfl) fun H9 S => ?_
    have S : Star H9 (_ :: Boxed_o K t dx s.ws.length gr w g c o :: pt o.mr (.dK (idK (keptN s.gn))) :: pt ow2 (.dK (idK (keptN s.gn))) :: ord K pl2 r (s.tr.length + 1) tm :: ord K o.pl r (s.tr.length + 1) tm :: pt D (.lst ys) :: dats ys (runsT s) :: pt o.bx (.lst bv) :: dats bv (runsT s) :: pt o.ow (.dK (idK (keptN s.gn))) :: tre K true gr s.tr :: pt w (.lst (wrV s.wr)) :: pt g (.lst (s.gn.map V.bl)) :: F) := S.fr (Fr.c0 (Fr.c7 (by walk_at "fr")))
    walk_at "go"
    refine dct_S S S.p2.get fun mr2 H10 S => ?_
    walk_at "go"
    refine stf_S (a := u) (S.fr (Fr.c1 (Fr.refl _))) List.mem_cons_self (Nat.le_of_ble_eq_true rfl) fun H11 S => ?_
    have S : Star H11 (Boxed_o K u dx2 s.ws.length gr2 w2 g2 0 ⟨D, pl2, ow2, mr2⟩ :: BoxedU K t dx gr w g o s c (ord K o.pl r (s.tr.length + 1) tm :: pt o.ow (.dK (idK (keptN s.gn))) :: pt o.mr (.dK (idK (keptN s.gn))) :: pt o.bx (.lst bv) :: dats bv (runsT s) :: ord K pl2 r (s.tr.length + 1) tm :: pt ow2 (.dK (idK (keptN s.gn))) :: pt mr2 (.dK (idK (keptN s.gn))) :: pt D (.lst ys) :: dats ys (runsT s) :: F)) := Star.fr S (Fr.c0 (Fr.c1 (by walk_at "fr")))
    walk_at "go"
    refine Boxed_same_makes_u S h fun H12 g3 w3 g4 S => ?_
    have S1 : Star H12 (BoxedH K o s x :: Boxed_o K u dx2 s.ws.length g3 w3 g4 c ⟨D, pl2, ow2, mr2⟩ :: tre K true g3 s.tr :: pt w3 (.lst (wrV s.wr)) :: pt g4 (.lst (s.gn.map V.bl)) :: ord K pl2 r (s.tr.length + 1) tm :: pt ow2 (.dK (idK (keptN s.gn))) :: pt mr2 (.dK (idK (keptN s.gn))) :: pt D (.lst ys) :: dats ys (runsT s) :: BoxedU K t dx gr w g o s c F) := BoxedH_iff.mpr ⟨r, tm, bv, hr, S.fr (by walk_at "fr")⟩
    have S2 : Star H12 (BoxedH K ⟨D, pl2, ow2, mr2⟩ s x :: Boxed_o K u dx2 s.ws.length g3 w3 g4 c ⟨D, pl2, ow2, mr2⟩ :: tre K true g3 s.tr :: pt w3 (.lst (wrV s.wr)) :: pt g4 (.lst (s.gn.map V.bl)) :: BoxedH K o s x :: BoxedU K t dx gr w g o s c F) := BoxedH_iff.mpr ⟨r, tm, ys, hr, S1.fr (by walk_at "fr")⟩
    have S3 := Boxed_mk (t := u) (dx := dx2) (gr := g3) (w := w3) (g := g4) (o := ⟨D, pl2, ow2, mr2⟩) (c := c) (x := x) h (S2.fr (by walk_at "fr") : Star H12 (BoxedU K u dx2 g3 w3 g4 ⟨D, pl2, ow2, mr2⟩ s c (BoxedH K ⟨D, pl2, ow2, mr2⟩ s x :: BoxedH K o s x :: BoxedU K t dx gr w g o s c F)))
    have S4 := Boxed_mk (t := t) (dx := dx) (gr := gr) (w := w) (g := g) (o := o) (c := c) (x := x) h (S3.fr (by walk_at "fr") : Star H12 (BoxedU K t dx gr w g o s c (BoxedH K o s x :: BoxedP K u s c x :: F)))
    exact k _ u S4.p1
theorem merge_val (k : Key) (v : V) : ∀ (kvs acc : List (Key × V)), (∀ kv ∈ kvs, kv.1 = k → kv.2 = v) → (valV acc k = some v ∨ ∃ kv ∈ kvs, kv.1 = k) → valV (mergeK acc kvs) k = some v
  | [], acc, _, h => by
    rcases h with h | ⟨kv, h, _⟩
    · exact h
    · cases h
  | kv :: r, acc, hc, h => by
    show valV (mergeK (putK acc kv.1 kv.2) r) k = some v
    refine merge_val k v r _ (fun y hy => hc y (List.mem_cons_of_mem _ hy)) ?_
    by_cases e : kv.1 = k
    · left
      rw [valV_put, if_pos e.symm, hc kv List.mem_cons_self e]
    · rw [valV_put, if_neg (fun z => e z.symm)]
      rcases h with h | ⟨y, hy, e2⟩
      · exact .inl h
      · rcases List.mem_cons.mp hy with z | z
        · rw [z] at e2
          exact absurd e2 e
        · exact .inr ⟨y, z, e2⟩
theorem trn_pl {l : List Nat} {s : RS} {p : Nat} : Pl (.list (l.map (trn s p))) := pl_l fun d hd => by
  obtain ⟨m, _, rfl⟩ := List.mem_map.mp hd
  exact pl_t fun d hd => by
    obtain ⟨z, _, rfl⟩ := List.mem_map.mp hd
    rfl
theorem trn_ni {l : List Nat} {s : RS} {p : Nat} (h : RSok s) (hp : p < s.ws.length) (hl : l.length ≤ 64) (hm : ∀ m ∈ l, m < s.tr.length + 1) : Ni 2 20000 (.list (l.map (trn s p))) := by
  have hf := h.row.few
  refine ni_l (n := 1) (m := 100) (fun d hd => ?_) (by decide) (by rw [List.length_map]; omega)
  obtain ⟨m, hm1, rfl⟩ := List.mem_map.mp hd
  have h1 := hm m hm1
  have h2 := h.wle (p := p) h1
  have h3 : -bigI < s.v m p ∧ s.v m p < bigI := h.vbig h1 hp
  have h4 : s.v m p = vlW s.ws s.wr p (s.w m p) := rfl
  rw [h4] at h3
  unfold bigI at h3
  exact ni_t (n := 0) (m := 20) (fa1 (ni_i (by omega)) (fa1 (ni_i (by omega)) (fa1 (ni_i (by omega)) fa0))) (by decide) (show 3 * (20 + 1) ≤ 100 by decide)
/-- the runs of a place along a row of makes -/
theorem Boxed_runs_u {s2 : RS} {l : List Nat} {T : List PyData} {ln : Addr} (S : Star H (BoxedU K t dx gr w g o s2 c (pt o.bx (.lst bv) :: pt ln (.lst (l.map nV)) :: dats bv T :: F))) (h : RSok s) (h2 : RSok s2) (e1 : s2.tr = s.tr) (e2 : s2.wr = s.wr) (e3 : s2.ws = s.ws) (hp : p < s.ws.length) (hT : T[p]? = some (.list (runT s p))) (hl : l.length ≤ 64) (hls : ∀ x ∈ l, x ∈ s.ln)
    (k : ∀ H' D ys, Star H' (pt D (.lst ys) :: dats ys ((runs (wrF s p) l).map (trn s p)) :: BoxedU K t dx gr w g o s2 c (pt o.bx (.lst bv) :: pt ln (.lst (l.map nV)) :: dats bv T :: F)) → Q (.ref D) H') : sp_Boxed_runs K [.ref t, nV p, .ref ln] H Q E := by
  have ew : ∀ m q, s2.w m q = s.w m q := fun m q => by
    unfold RS.w
    rw [e1, e2]
  have hkl := runK_len (p := p) h
  obtain ⟨v, hv, S1⟩ := Star.take (S.fr (by walk_at "fr") : Star H (dats bv T :: BoxedU K t dx gr w g o s2 c (pt o.bx (.lst bv) :: pt ln (.lst (l.map nV)) :: F))) hT
  obtain ⟨b, xs, ev, S2⟩ := dat_l.mp S1
  subst ev
  have hxl : xs.length = (runK s p).length := by
    have := S2.p1.dlen
    rw [runT_len] at this
    exact this
  have S : Star H (pt b (.lst xs) :: dats xs (runT s p) :: pt o.bx (.lst bv) :: pt ln (.lst (l.map nV)) :: BoxedU K t dx gr w g o s2 c (hole bv T p :: F)) := S2.fr (by walk_at "fr")
  refine sp_Boxed_runs_i ?_
  walk_at "go"
  refine ix_l S.p2.get (atI_n hv) ?_
  walk_at "go"
  refine it_l S.get ?_
  intro D hD
  refine lc_dat (a := b) (xs := xs) (ds := runT s p) (F := pt o.bx (.lst bv) :: pt ln (.lst (l.map nV)) :: BoxedU K t dx gr w g o s2 c (hole bv T p :: F)) _ (fun _ => true) (fun j => .tuple [.int ((s.w ((runK s p).getD j 0) p : Nat) : Int), .int (vlW s.ws s.wr p (s.w ((runK s p).getD j 0) p))]) (fun x H Q q => q) (by omega) hD S (fun x => rfl) (fun i v d Z H1 R _ _ S r => r _ S) ?_ fun H1 zs S => ?_
  · intro j v d' Z' H6 R hv hd _ S r2
    obtain ⟨kj, hkj⟩ : ∃ kj, (runK s p)[j]? = some kj := ⟨_, List.getElem?_eq_getElem (by have := (List.getElem?_eq_some_iff.mp hv).1; omega)⟩
    have egj : (runK s p).getD j 0 = kj := by rw [List.getD_eq_getElem?_getD, hkj]; rfl
    rw [egj] at r2
    rw [runT_at hkj] at hd
    cases hd
    obtain ⟨T1, eT, S7⟩ := dat_tz.mp (show Star H6 (dat v (MK.tz [((kj : Nat) : Int), ((s.w kj p : Nat) : Int), vlW s.ws s.wr p (s.w kj p)]) :: Z' :: pt b (.lst xs) :: hole xs (runT s p) j :: pt o.bx (.lst bv) :: pt ln (.lst (l.map nV)) :: BoxedU K t dx gr w g o s2 c (hole bv T p :: F)) from S)
    subst eT
    walk_at "go"
    refine al_t S7 fun T2 H7 S8 => ?_
    have S9 : Star H7 (dat (.ref T1) (trn s p kj) :: fx T2 (.tup [nV (s.w kj p), .int (vlW s.ws s.wr p (s.w kj p))]) :: Z' :: pt b (.lst xs) :: hole xs (runT s p) j :: pt o.bx (.lst bv) :: pt ln (.lst (l.map nV)) :: BoxedU K t dx gr w g o s2 c (hole bv T p :: F)) := dat_tz.mpr ⟨T1, rfl, S8.p1⟩
    refine r2 _ (.ref T2) ?_
    exact S9.fr (by walk_at "fr")
  rw [filt_true] at S
  have ezs : (List.range xs.length).map (fun j => PyData.tuple [.int ((s.w ((runK s p).getD j 0) p : Nat) : Int), .int (vlW s.ws s.wr p (s.w ((runK s p).getD j 0) p))]) = (runK s p).map fun y => PyData.tuple [.int ((s.w y p : Nat) : Int), .int (vlW s.ws s.wr p (s.w y p))] := by
    rw [hxl]
    exact range_at (l := runK s p) (fun y => PyData.tuple [.int ((s.w y p : Nat) : Int), .int (vlW s.ws s.wr p (s.w y p))]) 0
  rw [ezs] at S
  obtain ⟨ps, eps, hps⟩ := dats_paired (K := K) (fun y : Nat => ((s.w y p : Nat) : Int)) (fun y => V.int (vlW s.ws s.wr p (s.w y p))) (fun y => PyData.int (vlW s.ws s.wr p (s.w y p))) (fun _ {F v} S => dat_i.mp S) (l := runK s p) S.p1
  walk_at "go"
  refine dctp_S (a := D) (ps := ps) S (by rw [← eps]; exact S.get) hps fun rd H2 S => ?_
  have hrd : ∀ x ∈ l, valV (mergeK [] ((runK s p).map fun y => ((.inl ((s.w y p : Nat) : Int) : Key), V.int (vlW s.ws s.wr p (s.w y p))))) (.inl ((s.w x p : Nat) : Int)) = some (.int (vlW s.ws s.wr p (s.w x p))) := fun x hx => by
    refine merge_val _ _ _ _ (fun kv hkv e => ?_) (.inr ?_)
    · obtain ⟨y, _, rfl⟩ := List.mem_map.mp hkv
      injection e with e
      have : s.w y p = s.w x p := by omega
      show V.int (vlW s.ws s.wr p (s.w y p)) = _
      rw [this]
    · obtain ⟨y, hy, ey⟩ := runs_all (f := wrF s p) (hls x hx)
      have ey : s.w y p = s.w x p := ey
      exact ⟨_, List.mem_map.mpr ⟨y, hy, rfl⟩, by rw [ey]⟩
  generalize hkv : mergeK [] ((runK s p).map fun y => ((.inl ((s.w y p : Nat) : Int) : Key), V.int (vlW s.ws s.wr p (s.w y p)))) = kvs at S hrd
  walk_at "go"
  refine al_l S fun D5 H3 S => ?_
  have S : Star H3 (dats [] ((runs (wrF s p) (l.take 0)).map (trn s p)) :: pt D5 (.lst []) :: pt rd (.dK kvs) :: pt ln (.lst (l.map nV)) :: BoxedU K t dx gr w g o s2 c (pt o.bx (.lst bv) :: pt b (.lst xs) :: dats xs (runT s p) :: hole bv T p :: F)) := dats_n.mpr ⟨rfl, S.fr (by walk_at "fr")⟩
  walk_at "go"
  refine it_l S.p3.get ?_
  refine Loop.list (fun j σ H => ∃ (ys : List V) (y6 y7 : Option V), Star H (dats ys ((runs (wrF s p) (l.take j)).map (trn s p)) :: pt D5 (.lst ys) :: pt rd (.dK kvs) :: pt ln (.lst (l.map nV)) :: BoxedU K t dx gr w g o s2 c (pt o.bx (.lst bv) :: pt b (.lst xs) :: dats xs (runT s p) :: hole bv T p :: F)) ∧ σ = [some (.ref t), some (nV p), some (.ref ln), some (.ref rd), none, some (.ref D5), y6, y7]) ⟨[], _, _, S, rfl⟩ (fun j σ H _ ⟨_, _, _, z, _⟩ => .of z.p3.get) ?_ ?_
  · rintro j v σ H4 hv2 ⟨ys, y6, y7, S, rfl⟩
    rw [List.getElem?_map] at hv2
    obtain ⟨x0, hx0, rfl⟩ := Option.map_eq_some_iff.mp hv2
    have hx1 := List.mem_of_getElem? hx0
    have hxl2 := h.lt (h.ln_mem.mp (hls x0 hx1))
    walk_at "go"
    refine Boxed_writer_u (t := t) (dx := dx) (gr := gr) (w := w) (g := g) (o := o) (c := c) (s := s2) (F := []) (S.fr (by walk_at "fr")) h2 (by rw [e1]; exact hxl2) (by rw [e3]; exact hp) ?_
    rw [ew]
    have hyl : ys.length = (runs (wrF s p) (l.take j)).length := by
      have := S.dlen
      rw [List.length_map] at this
      exact this
    have hrl : (runs (wrF s p) (l.take j)).length ≤ 64 := by
      have h3 : (runs (wrF s p) (l.take j)).length ≤ (l.take j).length := runs_len
      rw [List.length_take] at h3
      omega
    have hni := (trn_ni (l := runs (wrF s p) (l.take j)) h hp hrl (fun m hm => h.lt (h.ln_mem.mp (hls m (List.mem_of_mem_take (runs_sub m hm)))))).shd trn_pl
    walk_at "go"
    refine al_l S fun E0 H5 S => ?_
    walk_at "w"
    have dp1 : Dp K H5 (.ref D5) (.list ((runs (wrF s p) (l.take j)).map (trn s p))) := Star.dp (F := []) (dat_l.mpr ⟨D5, ys, rfl, S.fr (by walk_at "fr")⟩) (trn_pl (s := s) (p := p)).nd
    have dp2 : Dp K H5 (.ref E0) (.list []) := Star.dp (F := []) (dat_l.mpr ⟨E0, [], rfl, S.fr (Fr.c0 (Fr.ds0 (Fr.nil _)))⟩) rfl
    refine eq_d dp1 dp2 hni rfl ?_
    rcases runs_step (f := wrF s p) hx0 with ⟨hj0, hs1, hs0⟩ | ⟨y, hy, hst⟩
    · have eq : PyData.eqv (.list ((runs (wrF s p) (l.take j)).map (trn s p))) (.list []) = true := by
        rw [hs0]
        rfl
      rw [eq]
      have hst2 : runs (wrF s p) (l.take (j + 1)) = runs (wrF s p) (l.take j) ++ [x0] := by rw [hs1, hs0]; rfl
      walk_at "go"
      refine ixd_i (S.fr (qs := [pt rd (.dK kvs)]) (by walk_at "fr")).get (hrd x0 hx1) ?_
      walk_at "go"
      refine al_t S fun T6 H6 S => ?_
      walk_at "go"
      refine app_S (a := D5) (xs := ys) (S.fr (by walk_at "fr")) (by omega) fun H7 S => ?_
      walk_at "w"
      have T7 : Star H7 (dat (.ref T6) (trn s p x0) :: dats ys ((runs (wrF s p) (l.take j)).map (trn s p)) :: pt D5 (.lst (ys ++ [.ref T6])) :: pt rd (.dK kvs) :: pt ln (.lst (l.map nV)) :: BoxedU K t dx gr w g o s2 c (pt o.bx (.lst bv) :: pt b (.lst xs) :: dats xs (runT s p) :: hole bv T p :: F)) := dat_tz.mpr ⟨T6, rfl, S.fr (Fr.c1 (by walk_at "fr"))⟩
      have T8 := Star.snoc (T7.fr (Fr.c1 (Fr.c0 (Fr.refl _))))
      have e9 : (runs (wrF s p) (l.take j)).map (trn s p) ++ [trn s p x0] = (runs (wrF s p) (l.take (j + 1))).map (trn s p) := by
        rw [hst2, List.map_append]
        rfl
      rw [e9] at T8
      exact ⟨ys ++ [.ref T6], _, _, T8.fr (by walk_at "fr"), rfl⟩
    · have hne : runs (wrF s p) (l.take j) ≠ [] := fun z => by rw [z] at hy; cases hy
      have eq : PyData.eqv (.list ((runs (wrF s p) (l.take j)).map (trn s p))) (.list []) = false := by
        cases hr : runs (wrF s p) (l.take j) with
        | nil => exact absurd hr hne
        | cons a r => rfl
      rw [eq]
      have hpos : 0 < (runs (wrF s p) (l.take j)).length := List.length_pos_iff.mpr hne
      rw [List.getLast?_eq_getElem?] at hy
      obtain ⟨v9, hv9, S9⟩ := Star.take (S.fr (Fr.c1 (Fr.refl _))) (i := (runs (wrF s p) (l.take j)).length - 1) (d := trn s p y) (by rw [List.getElem?_map, hy]; rfl)
      have S10 := tz_dup (zs := [((y : Nat) : Int), ((s.w y p : Nat) : Int), vlW s.ws s.wr p (s.w y p)]) S9
      obtain ⟨T9, eT, S11⟩ := dat_tz.mp S10
      subst eT
      have S12 := hole_back (S11.fr (Fr.c1 (Fr.c1 (Fr.refl _)))) hv9 (by rw [List.getElem?_map, hy]; rfl)
      have hlast : ys.getLast? = some (.ref T9) := by
        rw [List.getLast?_eq_getElem?, hyl]
        exact hv9
      walk_at "go"
      refine ix_l (S12.fr (qs := [pt D5 (.lst ys)]) (by walk_at "fr")).get (atI_last hlast) ?_
      walk_at "go"
      refine brn (fun hne2 => ?_) (fun heq => ?_)
      · have hst2 : runs (wrF s p) (l.take (j + 1)) = runs (wrF s p) (l.take j) ++ [x0] := by
          rw [hst, if_neg (fun z => hne2 (by have z : s.w x0 p = s.w y p := z; rw [z]))]
        have S := S12
        walk_at "go"
        refine ixd_i (S.fr (qs := [pt rd (.dK kvs)]) (by walk_at "fr")).get (hrd x0 hx1) ?_
        walk_at "go"
        refine al_t S fun T6 H6 S => ?_
        walk_at "go"
        refine app_S (a := D5) (xs := ys) (S.fr (by walk_at "fr")) (by omega) fun H7 S => ?_
        walk_at "w"
        have T7 : Star H7 (dat (.ref T6) (trn s p x0) :: dats ys ((runs (wrF s p) (l.take j)).map (trn s p)) :: pt D5 (.lst (ys ++ [.ref T6])) :: pt rd (.dK kvs) :: pt ln (.lst (l.map nV)) :: BoxedU K t dx gr w g o s2 c (pt o.bx (.lst bv) :: pt b (.lst xs) :: dats xs (runT s p) :: hole bv T p :: F)) := dat_tz.mpr ⟨T6, rfl, S.fr (Fr.c1 (by walk_at "fr"))⟩
        have T8 := Star.snoc (T7.fr (Fr.c1 (Fr.c0 (Fr.refl _))))
        have e9 : (runs (wrF s p) (l.take j)).map (trn s p) ++ [trn s p x0] = (runs (wrF s p) (l.take (j + 1))).map (trn s p) := by
          rw [hst2, List.map_append]
          rfl
        rw [e9] at T8
        exact ⟨ys ++ [.ref T6], _, _, T8.fr (by walk_at "fr"), rfl⟩
      · have hst2 : runs (wrF s p) (l.take (j + 1)) = runs (wrF s p) (l.take j) := by
          rw [hst, if_pos (show s.w x0 p = s.w y p by omega), List.append_nil]
        walk_at "w"
        refine ⟨ys, _, _, ?_, rfl⟩
        rw [hst2]
        exact S12.fr (by walk_at "fr")
  · rintro σ H4 ⟨ys, y6, y7, S, rfl⟩
    rw [List.length_map, List.take_length] at S
    walk_at "go"
    refine k _ D5 ys ?_
    have T3 : Star H4 (dat (.ref b) (.list (runT s p)) :: hole bv T p :: pt D5 (.lst ys) :: dats ys ((runs (wrF s p) l).map (trn s p)) :: BoxedU K t dx gr w g o s2 c (pt o.bx (.lst bv) :: pt ln (.lst (l.map nV)) :: F)) := dat_l.mpr ⟨b, xs, rfl, S.fr (Fr.c9 (by walk_at "fr"))⟩
    exact (hole_back T3 hv hT).fr (by walk_at "fr")
theorem Boxed_is_read_u {s2 : RS} {l : List Nat} {T : List PyData} (S : Star H (BoxedU K t dx gr w g o s2 c (pt o.bx (.lst bv) :: dats bv T :: F))) (hT : T[p]? = some (.list (l.map (trn s p)))) (hl : l.length ≤ 64)
    (k : ∀ H', Star H' (BoxedU K t dx gr w g o s2 c (pt o.bx (.lst bv) :: dats bv T :: F)) → Q (.bl (decide (n ∈ l.map fun y => s.w y p))) H') : sp_Boxed_is_read K [.ref t, nV p, nV n] H Q E := by
  obtain ⟨v, hv, S1⟩ := Star.take (S.fr (by walk_at "fr") : Star H (dats bv T :: BoxedU K t dx gr w g o s2 c (pt o.bx (.lst bv) :: F))) hT
  obtain ⟨b, xs, ev, S2⟩ := dat_l.mp S1
  subst ev
  have hxl : xs.length = l.length := by
    have := S2.p1.dlen
    rw [List.length_map] at this
    exact this
  have S : Star H (pt b (.lst xs) :: dats xs (l.map (trn s p)) :: pt o.bx (.lst bv) :: BoxedU K t dx gr w g o s2 c (hole bv T p :: F)) := S2.fr (by walk_at "fr")
  refine sp_Boxed_is_read_i ?_
  walk_at "go"
  refine ix_l S.p2.get (atI_n hv) ?_
  walk_at "go"
  refine it_l S.get ?_
  intro D hD
  refine lc_dat (a := b) (xs := xs) (ds := l.map (trn s p)) (F := pt o.bx (.lst bv) :: BoxedU K t dx gr w g o s2 c (hole bv T p :: F)) _ (fun _ => true) (fun j => .int ((s.w (l.getD j 0) p : Nat) : Int)) (fun x H Q q => q) (by omega) hD S (fun x => rfl) (fun i v d Z H1 R _ _ S r => r _ S) ?_ fun H1 zs S => ?_
  · intro j v d' Z' H6 R hv hd _ S r2
    obtain ⟨kj, hkj⟩ : ∃ kj, l[j]? = some kj := ⟨_, List.getElem?_eq_getElem (by have := (List.getElem?_eq_some_iff.mp hv).1; omega)⟩
    have egj : l.getD j 0 = kj := by rw [List.getD_eq_getElem?_getD, hkj]; rfl
    rw [egj] at r2
    rw [List.getElem?_map, hkj] at hd
    cases hd
    obtain ⟨T1, eT, S7⟩ := dat_tz.mp (show Star H6 (dat v (MK.tz [((kj : Nat) : Int), ((s.w kj p : Nat) : Int), vlW s.ws s.wr p (s.w kj p)]) :: Z' :: pt b (.lst xs) :: hole xs (l.map (trn s p)) j :: pt o.bx (.lst bv) :: BoxedU K t dx gr w g o s2 c (hole bv T p :: F)) from S)
    subst eT
    walk_at "go"
    refine r2 _ _ (dat_i.mpr ⟨rfl, ?_⟩)
    exact dat_tz.mpr ⟨T1, rfl, S7⟩
  rw [filt_true] at S
  have ezs : (List.range xs.length).map (fun j => PyData.int ((s.w (l.getD j 0) p : Nat) : Int)) = ((l.map fun y => s.w y p).map fun k => ((k : Nat) : Int)).map PyData.int := by
    rw [hxl, List.map_map, List.map_map]
    exact range_at (l := l) (fun y => PyData.int ((s.w y p : Nat) : Int)) 0
  rw [ezs] at S
  obtain ⟨ey, S⟩ := zints.mp S.p1
  subst ey
  walk_at "go"
  refine in_l S.get rfl (by rw [List.all_map]; exact List.all_eq_true.mpr fun _ _ => rfl) ?_
  have ed : decide (((n : Nat) : Int) ∈ (l.map fun y => s.w y p).map fun k => ((k : Nat) : Int)) = decide (n ∈ l.map fun y => s.w y p) := by
    refine decide_eq_decide.mpr ⟨fun z => ?_, fun z => List.mem_map.mpr ⟨n, z, rfl⟩⟩
    obtain ⟨y, hy, ey⟩ := List.mem_map.mp z
    have : y = n := by omega
    exact this ▸ hy
  rw [if_neg Bool.false_ne_true, inV_ints, ed]
  refine k _ ?_
  have T3 : Star H1 (dat (.ref b) (.list (l.map (trn s p))) :: hole bv T p :: BoxedU K t dx gr w g o s2 c (pt o.bx (.lst bv) :: F)) := dat_l.mpr ⟨b, xs, rfl, S.fr (by walk_at "fr")⟩
  exact (hole_back T3 hv hT).fr (by walk_at "fr")
/-! what is freed -/
abbrev BoxedF (s : RS) (x : BoxedX) (m : Nat) (D : Addr) : SP := frF s m D
abbrev Boxed_gc (s : RS) (x : BoxedX) (m : Nat) : Int := 0
abbrev Boxed_gx (s : RS) (x : BoxedX) (m : Nat) : BoxedX := ()
def mixR (s : RS) (m j : Nat) : List PyData := (List.range s.ws.length).map fun q => .list (if q < j then runT (s.go m) q else runT s q)
theorem mixR_at (hq : j < s.ws.length) : (mixR s m n)[j]? = some (.list (if j < n then runT (s.go m) j else runT s j)) := by
  unfold mixR
  rw [List.getElem?_map, List.getElem?_range hq]
  rfl
theorem mixR_len : (mixR s m n).length = s.ws.length := by
  unfold mixR
  rw [List.length_map, List.length_range]
theorem mixR_zero : mixR s m 0 = runsT s := by
  unfold mixR runsT
  refine List.map_congr_left fun q _ => ?_
  rw [if_neg (Nat.not_lt_zero _)]
theorem mixR_all : mixR s m s.ws.length = runsT (s.go m) := by
  unfold mixR runsT
  refine List.map_congr_left fun q hq => ?_
  rw [if_pos (List.mem_range.mp hq)]
theorem mixR_succ (hj : j < s.ws.length) : (mixR s m j).set j (.list (runT (s.go m) j)) = mixR s m (j + 1) := by
  refine List.ext_getElem? fun q => ?_
  by_cases hq : q < s.ws.length
  · rw [mixR_at hq]
    by_cases e : q = j
    · subst e
      rw [List.getElem?_set_self (by rw [mixR_len]; exact hq), if_pos (Nat.lt_succ_self _)]
    · rw [List.getElem?_set_ne (Ne.symm e), mixR_at hq]
      by_cases z : q < j
      · rw [if_pos z, if_pos (by omega)]
      · rw [if_neg z, if_neg (by omega)]
  · rw [List.getElem?_eq_none (by rw [List.length_set, mixR_len]; omega), List.getElem?_eq_none (by rw [mixR_len]; omega)]
/-- what the make let go read, and none else does -/
def frB (s : RS) (m : Nat) : List (Nat × Nat) := ((List.range s.ws.length).filter fun q => !(s.go m).nd (q, s.w m q)).map fun q => (q, s.w m q)
theorem frB_ok (h : RSok s) (hm : m ∈ keptN s.gn) : FrOk s m (frB s m) := by
  have hp : (frB s m).Pairwise fun x y => x.1 < y.1 := by
    unfold frB
    exact List.pairwise_map.mpr ((List.pairwise_lt_range.filter _).imp fun {a b} hab => hab)
  refine ⟨hp.imp fun {a b} hab => .inl hab, hp.imp fun {a b} hab e => ?_, fun y => ?_⟩
  · subst e
    exact Nat.lt_irrefl _ hab
  · unfold frB
    rw [List.mem_map]
    constructor
    · rintro ⟨q, hq, rfl⟩
      obtain ⟨h1, h2⟩ := List.mem_filter.mp hq
      exact ⟨RS.nd_iff.mpr ⟨List.mem_range.mp h1, m, hm, rfl⟩, by simpa using h2⟩
    · rintro ⟨h1, h2⟩
      obtain ⟨h3, m', h4, h5⟩ := RS.nd_iff.mp h1
      have em : m' = m := by
        refine Decidable.byContradiction fun hne => ?_
        have : (s.go m).nd y = true := RS.nd_iff.mpr ⟨h3, m', by rw [RS.kept_go]; exact List.mem_filter.mpr ⟨h4, decide_eq_true hne⟩, h5⟩
        rw [this] at h2
        cases h2
      subst em
      have ey : (y.1, s.w m' y.1) = y := Prod.ext rfl h5
      refine ⟨y.1, List.mem_filter.mpr ⟨List.mem_range.mpr h3, ?_⟩, ey⟩
      rw [ey, h2]
      rfl
/-- [f(i) for i in range(n)], new data -/
theorem lc_rngD {G : List SP} {D : Addr} {σ : L2.St} {g : TG} {te : TE} {vs : List Nat} {n : Nat} (gx : V → L2.St) (f : Nat → PyData) (S : Star H G) (hz : n ≤ 1000) (hD : H D = none) (hg : ∀ x H Q, Q (gx x) H → g x (wipe σ vs) H Q) (hw : ∀ x, wipe (gx x) vs = wipe σ vs)
    (he : ∀ (j : Nat) H (Z : SP) (R : VK), j < n → Star H (Z :: G) → (∀ H' v, Star H' (dat v (f j) :: Z :: G) → R v H') → te (gx (.int ((j : Nat) : Int))) H R)
    (q : ∀ H1 ys, Star H1 (pt D (.lst ys) :: dats ys ((List.range n).map f) :: G) → Q (.ref D) H1) : LoopC (Itr 0 n) g tYes te vs σ D H Q := by
  refine lc_turns gx hg walk_rng (by rw [List.length_map, List.length_range]; omega) hD (fun i acc => dats acc ((List.range i).map f) :: G) (dats_n.mpr ⟨rfl, S⟩) (fun _ _ _ _ => True.intro) hw ?_ ?_
  · intro i x H1 acc R hx ha S kk
    have hi := (List.getElem?_eq_some_iff.mp hx).1
    rw [List.length_map, List.length_range] at hi
    rw [List.getElem?_map, List.getElem?_range hi] at hx
    have ex : x = .int ((i : Nat) : Int) := by
      have e3 := Option.some.inj hx
      rw [← e3]
      show V.int ((0 : Int) + ((i : Nat) : Int)) = _
      rw [Int.zero_add]
    subst ex
    have S1 : Star H1 (sep [pt D (.lst acc), dats acc ((List.range i).map f)] :: G) := Star.sep_iff.mpr S
    refine he i H1 _ R hi S1 fun H2 v S2 => kk _ _ ?_
    have S3 := Star.sep_iff.mp (S2.fr (Fr.c1 (Fr.refl _)))
    have S4 : Star H2 (dats acc ((List.range i).map f) :: dat v (f i) :: pt D (.lst acc) :: G) := S3.fr (Fr.c1 (Fr.c1 (Fr.refl _)))
    have S5 := Star.snoc S4
    have e : (List.range i).map f ++ [f i] = (List.range (i + 1)).map f := by
      rw [List.range_succ, List.map_append]
      rfl
    rw [e] at S5
    exact S5.p1
  · intro H1 acc ha S
    rw [List.length_map, List.length_range] at S
    exact q H1 acc S
theorem Boxed_freed_u (S : Star H (BoxedU K t dx gr w g o (s.go m) c (BoxedH K o s x :: F))) (h : RSok s) (hm : m ∈ keptN s.gn) (h1 : 1 < (keptN s.gn).length)
    (k : ∀ H' D o', Star H' (BoxedF s x m D :: BoxedU K t dx gr w g o' (s.go m) (c + Boxed_gc s x m) (BoxedH K o' (s.go m) (Boxed_gx s x m) :: F)) → Q (.ref D) H') : sp_Boxed_freed K [.ref t, nV m] H Q E := by
  have h2 := h.go hm h1
  have hle := h.row.le
  have hml := h.lt hm
  have hgl := h.len
  have hmn := h.ln_mem.mpr hm
  have hll := ln_len h
  have hfew := h.row.few
  have hln2 : (s.go m).ln = s.ln.filter fun x => decide (x ≠ m) := RSok.ln_go (by omega)
  obtain ⟨im, him, eim⟩ := List.mem_iff_getElem.mp hmn
  have him' : s.ln[im]? = some m := by rw [List.getElem?_eq_getElem him, eim]
  obtain ⟨r, tm, bv, hr, S⟩ := BoxedH_iff.mp (Star.fr S (qs := BoxedH K o s x :: BoxedU K t dx gr w g o (s.go m) c F) (by walk_at "fr"))
  obtain ⟨lb, hlb⟩ := fst_at hr him'
  have S : Star H (BoxedU K t dx gr w g o (s.go m) c (ord K o.pl r (s.tr.length + 1) tm :: pt o.mr (.dK (idK (keptN s.gn))) :: pt o.ow (.dK (idK (keptN s.gn))) :: pt o.bx (.lst bv) :: dats bv (runsT s) :: F)) := S.fr (by walk_at "fr")
  refine sp_Boxed_freed_i ?_
  walk_at "go"
  refine Boxed_size_u (t := t) (s := s.go m) (c := c) (F := []) (S.fr (by walk_at "fr")) ?_
  walk_at "go"
  refine ⟨MK.rng1 (by show -4611686018427387904 ≤ ((s.ws.length : Nat) : Int) ∧ ((s.ws.length : Nat) : Int) < 4611686018427387904; omega), ?_⟩
  walk_at "w"
  intro D hD
  refine lc_rngD (n := s.ws.length) _ (fun q => pD (q, s.w m q)) S (by omega) hD (fun x H Q q => q) (fun x => rfl) ?_ fun H1 ys S => ?_
  · intro j H1 Z R hj S r1
    walk_at "go"
    refine Boxed_writer_u (t := t) (dx := dx) (gr := gr) (w := w) (g := g) (o := o) (c := c) (s := s.go m) (F := []) (S.fr (by walk_at "fr")) h2 hml hj ?_
    walk_at "go"
    refine al_t S fun T H2 S => ?_
    refine r1 _ (.ref T) ?_
    have S9 : Star H2 (fx T (.tup ([((j : Nat) : Int), ((s.w m j : Nat) : Int)].map V.int)) :: Z :: BoxedU K t dx gr w g o (s.go m) c (ord K o.pl r (s.tr.length + 1) tm :: pt o.mr (.dK (idK (keptN s.gn))) :: pt o.ow (.dK (idK (keptN s.gn))) :: pt o.bx (.lst bv) :: dats bv (runsT s) :: F)) := S
    exact dat_tz.mpr ⟨T, rfl, S9⟩
  have S : Star H1 (pt o.mr (.dK (idK (keptN s.gn))) :: BoxedU K t dx gr w g o (s.go m) c (ord K o.pl r (s.tr.length + 1) tm :: pt D (.lst ys) :: dats ys ((List.range s.ws.length).map fun q => pD (q, s.w m q)) :: pt o.ow (.dK (idK (keptN s.gn))) :: pt o.bx (.lst bv) :: dats bv (runsT s) :: F)) := S.fr (by walk_at "fr")
  walk_at "go"
  refine isd_S S ?_
  walk_at "go"
  refine dpop_i S (id_in hm) fun H2 S => ?_
  rw [id_drop] at S
  have ek2 : (keptN s.gn).filter (fun x => decide (x ≠ m)) = keptN (s.go m).gn := RS.kept_go.symm
  rw [ek2] at S
  have hrl : r.length = s.ln.length := by rw [← hr, List.length_map]
  have hl1 : 1 < r.length := by
    have h3 : (keptN s.gn).Perm s.ln := List.perm_iff_count.mpr fun a => by
      rw [(kept_nd (gn := s.gn)).count, h.ln_nd.count]
      by_cases ha : a ∈ keptN s.gn
      · rw [if_pos ha, if_pos (h.ln_mem.mpr ha)]
      · rw [if_neg ha, if_neg fun z => ha (h.ln_mem.mp z)]
    have h4 := h3.length_eq
    omega
  have hr2 : (r.eraseIdx im).map Prod.fst = (s.go m).ln := by
    rw [hln2, ← erase_map (f := Prod.fst), hr, erase_flt h.ln_nd him']
  have hll2 := ln_len h2
  have etr : (s.go m).tr.length = s.tr.length := rfl
  walk_at "go"
  refine dsp_o (t := o.pl) (r := r) (g := s.tr.length + 1) (tm := tm) (F := []) (S.fr (by walk_at "fr")) (by decide +kernel) ?_
  walk_at "go"
  refine Order_drop_ok (t := o.pl) (r := r) (g := s.tr.length + 1) (tm := tm) (i := im) (F := pt o.mr (.dK (idK (keptN (s.go m).gn))) :: BoxedU K t dx gr w g o (s.go m) c (pt D (.lst ys) :: dats ys ((List.range s.ws.length).map fun q => pD (q, s.w m q)) :: pt o.ow (.dK (idK (keptN s.gn))) :: pt o.bx (.lst bv) :: dats bv (runsT s) :: F)) (S.fr (by walk_at "fr")) hlb hl1 fun H3 S => ?_
  have S : Star H3 (pt o.ow (.dK (idK (keptN s.gn))) :: BoxedU K t dx gr w g o (s.go m) c (ord K o.pl (r.eraseIdx im) (s.tr.length + 1) tm :: pt D (.lst ys) :: dats ys ((List.range s.ws.length).map fun q => pD (q, s.w m q)) :: pt o.mr (.dK (idK (keptN (s.go m).gn))) :: pt o.bx (.lst bv) :: dats bv (runsT s) :: F)) := S.fr (by walk_at "fr")
  walk_at "go"
  refine isd_S S ?_
  walk_at "go"
  refine dpop_i S (id_in hm) fun H4 S => ?_
  rw [id_drop, ek2] at S
  walk_at "go"
  refine Boxed_in_order_u (t := t) (r := r.eraseIdx im) (G := s.tr.length + 1) (tm := tm) (L := keptN (s.go m).gn) (ln := (s.go m).ln) (F := tre K true gr s.tr :: pt w (.lst (wrV s.wr)) :: pt g (.lst ((s.go m).gn.map V.bl)) :: pt D (.lst ys) :: dats ys ((List.range s.ws.length).map fun q => pD (q, s.w m q)) :: pt o.mr (.dK (idK (keptN (s.go m).gn))) :: pt o.bx (.lst bv) :: dats bv (runsT s) :: F) (S.fr (by walk_at "fr")) hr2 (fun x hx => h2.ln_mem.mp hx) (by omega) fun H5 ln S => ?_
  have S : Star H5 (BoxedU K t dx gr w g o (s.go m) c (dats bv (mixR s m 0) :: pt o.bx (.lst bv) :: pt ln (.lst ((s.go m).ln.map nV)) :: pt D (.lst ys) :: dats ys ((List.range s.ws.length).map fun q => pD (q, s.w m q)) :: ord K o.pl (r.eraseIdx im) (s.tr.length + 1) tm :: pt o.mr (.dK (idK (keptN (s.go m).gn))) :: pt o.ow (.dK (idK (keptN (s.go m).gn))) :: F)) := by
    rw [mixR_zero]
    exact S.fr (by walk_at "fr")
  walk_at "go"
  refine Boxed_size_u (t := t) (s := s.go m) (c := c) (F := []) (S.fr (by walk_at "fr")) ?_
  walk_at "go"
  refine ⟨MK.rng1 (by show -4611686018427387904 ≤ ((s.ws.length : Nat) : Int) ∧ ((s.ws.length : Nat) : Int) < 4611686018427387904; omega), ?_⟩
  walk_at "w"
  refine Loop.range (fun j σ H => ∃ (bv : List V) (y3 y6 : Option V), Star H (BoxedU K t dx gr w g o (s.go m) c (dats bv (mixR s m j) :: pt o.bx (.lst bv) :: pt ln (.lst ((s.go m).ln.map nV)) :: pt D (.lst ys) :: dats ys ((List.range s.ws.length).map fun q => pD (q, s.w m q)) :: ord K o.pl (r.eraseIdx im) (s.tr.length + 1) tm :: pt o.mr (.dK (idK (keptN (s.go m).gn))) :: pt o.ow (.dK (idK (keptN (s.go m).gn))) :: F)) ∧ σ = [some (.ref t), some (nV m), some (.ref D), y3, some (nV m), some (.ref ln), y6]) ⟨bv, _, _, S, rfl⟩ ?_ ?_
  · rintro j σ H6 hj ⟨bv, y3, y6, S, rfl⟩
    have hj : j < s.ws.length := hj
    have e0 : (0 : Int) + (j : Nat) = (j : Nat) := by omega
    rw [e0]
    have hTj : (mixR s m j)[j]? = some (.list (runT s j)) := by rw [mixR_at hj, if_neg (Nat.lt_irrefl _)]
    have hbl : bv.length = s.ws.length := by
      have := (S.fr (by walk_at "fr") : Star H6 (dats bv (mixR s m j) :: F)).dlen
      rw [mixR_len] at this
      exact this
    walk_at "go"
    refine Boxed_runs_u (t := t) (dx := dx) (gr := gr) (w := w) (g := g) (o := o) (c := c) (s := s) (s2 := s.go m) (l := (s.go m).ln) (bv := bv) (T := mixR s m j) (ln := ln) (F := pt D (.lst ys) :: dats ys ((List.range s.ws.length).map fun q => pD (q, s.w m q)) :: ord K o.pl (r.eraseIdx im) (s.tr.length + 1) tm :: pt o.mr (.dK (idK (keptN (s.go m).gn))) :: pt o.ow (.dK (idK (keptN (s.go m).gn))) :: F) (S.fr (by walk_at "fr")) h h2 rfl rfl rfl hj hTj (by omega) (fun x hx => by
      rw [hln2] at hx
      exact (List.mem_filter.mp hx).1) fun H7 D8 us S => ?_
    have er : (runs (wrF s j) (s.go m).ln).map (trn s j) = runT (s.go m) j := rfl
    rw [er] at S
    have S : Star H7 (pt o.bx (.lst bv) :: dats bv (mixR s m j) :: pt D8 (.lst us) :: dats us (runT (s.go m) j) :: BoxedU K t dx gr w g o (s.go m) c (pt ln (.lst ((s.go m).ln.map nV)) :: pt D (.lst ys) :: dats ys ((List.range s.ws.length).map fun q => pD (q, s.w m q)) :: ord K o.pl (r.eraseIdx im) (s.tr.length + 1) tm :: pt o.mr (.dK (idK (keptN (s.go m).gn))) :: pt o.ow (.dK (idK (keptN (s.go m).gn))) :: F)) := S.fr (by walk_at "fr")
    walk_at "go"
    refine set_S (a := o.bx) (xs := bv) (j := j) S (ixN_n (by omega)) fun H8 S => ?_
    walk_at "w"
    obtain ⟨v, hv, S1⟩ := Star.take (S.p1) hTj
    have S2 : Star H8 (hole bv (mixR s m j) j :: pt o.bx (.lst (bv.set j (.ref D8))) :: pt D8 (.lst us) :: dats us (runT (s.go m) j) :: BoxedU K t dx gr w g o (s.go m) c (pt ln (.lst ((s.go m).ln.map nV)) :: pt D (.lst ys) :: dats ys ((List.range s.ws.length).map fun q => pD (q, s.w m q)) :: ord K o.pl (r.eraseIdx im) (s.tr.length + 1) tm :: pt o.mr (.dK (idK (keptN (s.go m).gn))) :: pt o.ow (.dK (idK (keptN (s.go m).gn))) :: F)) := S1.tail
    have T1 : Star H8 (dat (.ref D8) (.list (runT (s.go m) j)) :: hole bv (mixR s m j) j :: pt o.bx (.lst (bv.set j (.ref D8))) :: BoxedU K t dx gr w g o (s.go m) c (pt ln (.lst ((s.go m).ln.map nV)) :: pt D (.lst ys) :: dats ys ((List.range s.ws.length).map fun q => pD (q, s.w m q)) :: ord K o.pl (r.eraseIdx im) (s.tr.length + 1) tm :: pt o.mr (.dK (idK (keptN (s.go m).gn))) :: pt o.ow (.dK (idK (keptN (s.go m).gn))) :: F)) := dat_l.mpr ⟨D8, us, rfl, S2.fr (by walk_at "fr")⟩
    have T2 := T1.back
    rw [mixR_succ hj] at T2
    exact ⟨bv.set j (.ref D8), _, _, T2.fr (by walk_at "fr"), rfl⟩
  · rintro σ H6 ⟨bv, y3, y6, S, rfl⟩
    have S : Star H6 (BoxedU K t dx gr w g o (s.go m) c (dats bv (runsT (s.go m)) :: pt o.bx (.lst bv) :: pt ln (.lst ((s.go m).ln.map nV)) :: pt D (.lst ys) :: dats ys ((List.range s.ws.length).map fun q => pD (q, s.w m q)) :: ord K o.pl (r.eraseIdx im) (s.tr.length + 1) tm :: pt o.mr (.dK (idK (keptN (s.go m).gn))) :: pt o.ow (.dK (idK (keptN (s.go m).gn))) :: F)) := by
      rw [← mixR_all]
      exact S
    have S : Star H6 (pt D (.lst ys) :: dats ys ((List.range s.ws.length).map fun q => pD (q, s.w m q)) :: BoxedU K t dx gr w g o (s.go m) c (pt o.bx (.lst bv) :: dats bv (runsT (s.go m)) :: ord K o.pl (r.eraseIdx im) (s.tr.length + 1) tm :: pt o.mr (.dK (idK (keptN (s.go m).gn))) :: pt o.ow (.dK (idK (keptN (s.go m).gn))) :: F)) := S.fr (by walk_at "fr")
    have hyl : ys.length = s.ws.length := by
      have := S.p1.dlen
      rw [List.length_map, List.length_range] at this
      exact this
    have hat : ∀ {i : Nat} {d : PyData}, ((List.range s.ws.length).map fun q => pD (q, s.w m q))[i]? = some d → i < s.ws.length ∧ d = MK.tz [((i : Nat) : Int), ((s.w m i : Nat) : Int)] := fun {i d} e => by
      rw [List.getElem?_map] at e
      obtain ⟨q, hq, rfl⟩ := Option.map_eq_some_iff.mp e
      obtain ⟨hq1, hq2⟩ := List.getElem?_eq_some_iff.mp hq
      rw [List.length_range] at hq1
      rw [List.getElem_range] at hq2
      subst hq2
      exact ⟨hq1, rfl⟩
    walk_at "go"
    refine it_l S.get ?_
    intro D8 hD8
    refine lc_datG (a := D) (xs := ys) (ds := (List.range s.ws.length).map fun q => pD (q, s.w m q)) (F := BoxedU K t dx gr w g o (s.go m) c (pt o.bx (.lst bv) :: dats bv (runsT (s.go m)) :: ord K o.pl (r.eraseIdx im) (s.tr.length + 1) tm :: pt o.mr (.dK (idK (keptN (s.go m).gn))) :: pt o.ow (.dK (idK (keptN (s.go m).gn))) :: F)) (fun i _ => [some (.ref t), some (nV m), some (.ref D), some (nV i), some (nV m), some (.ref ln), some (nV (s.w m i))]) (fun i => !(s.go m).nd (i, s.w m i)) (fun i => pD (i, s.w m i)) ?_ (by omega) hD8 S (fun i x => rfl) ?_ ?_ fun H7 us S => ?_
    · intro i v d Z H7 R hv hd S r1
      obtain ⟨hi, rfl⟩ := hat hd
      obtain ⟨T, rfl, S7⟩ := dat_tz.mp S
      unfold gU
      exact unp_t S7.getF rfl r1
    · intro i v d Z H7 R hv hd S r1
      obtain ⟨hi, rfl⟩ := hat hd
      walk_at "go"
      refine Boxed_is_read_u (t := t) (dx := dx) (gr := gr) (w := w) (g := g) (o := o) (c := c) (s := s.go m) (s2 := s.go m) (l := runK (s.go m) i) (bv := bv) (T := runsT (s.go m)) (F := ord K o.pl (r.eraseIdx im) (s.tr.length + 1) tm :: pt o.mr (.dK (idK (keptN (s.go m).gn))) :: pt o.ow (.dK (idK (keptN (s.go m).gn))) :: dat v (MK.tz [((i : Nat) : Int), ((s.w m i : Nat) : Int)]) :: Z :: pt D (.lst ys) :: hole ys ((List.range s.ws.length).map fun q => pD (q, s.w m q)) i :: F) (S.fr (by walk_at "fr")) (runsT_at (s := s.go m) hi) (runK_len h2) fun H8 S => ?_
      have ed : decide (s.w m i ∈ (runK (s.go m) i).map fun y => (s.go m).w y i) = (s.go m).nd (i, s.w m i) := by
        rw [Bool.eq_iff_iff, decide_eq_true_iff, RS.nd_iff, List.mem_map]
        constructor
        · rintro ⟨y, hy, ey⟩
          exact ⟨hi, y, h2.ln_mem.mp (runs_sub y hy), ey⟩
        · rintro ⟨_, y, hy, ey⟩
          obtain ⟨y2, hy2, ey2⟩ := runs_all (f := wrF (s.go m) i) (h2.ln_mem.mpr hy)
          have ey2 : (s.go m).w y2 i = (s.go m).w y i := ey2
          exact ⟨y2, hy2, ey2.trans ey⟩
      rw [ed]
      walk_at "w"
      exact r1 _ (S.fr (by walk_at "fr"))
    · intro i v d Z H7 R hv hd _ S r1
      obtain ⟨hi, rfl⟩ := hat hd
      walk_at "go"
      refine al_t S fun T2 H8 S8 => ?_
      refine r1 _ (.ref T2) ?_
      have S9 : Star H8 (fx T2 (.tup ([((i : Nat) : Int), ((s.w m i : Nat) : Int)].map V.int)) :: dat v (MK.tz [((i : Nat) : Int), ((s.w m i : Nat) : Int)]) :: Z :: pt D (.lst ys) :: hole ys ((List.range s.ws.length).map fun q => pD (q, s.w m q)) i :: BoxedU K t dx gr w g o (s.go m) c (pt o.bx (.lst bv) :: dats bv (runsT (s.go m)) :: ord K o.pl (r.eraseIdx im) (s.tr.length + 1) tm :: pt o.mr (.dK (idK (keptN (s.go m).gn))) :: pt o.ow (.dK (idK (keptN (s.go m).gn))) :: F)) := S8
      exact dat_tz.mpr ⟨T2, rfl, S9⟩
    · rw [hyl] at S
      have ef : ((List.range s.ws.length).filter fun i => !(s.go m).nd (i, s.w m i)).map (fun i => pD (i, s.w m i)) = (frB s m).map pD := by
        unfold frB
        rw [List.map_map]
        rfl
      rw [ef] at S
      walk_at "go"
      refine k _ D8 o ?_
      have T1 : Star H7 (frF s m D8 :: BoxedU K t dx gr w g o (s.go m) c (pt o.bx (.lst bv) :: dats bv (runsT (s.go m)) :: ord K o.pl (r.eraseIdx im) (s.tr.length + 1) tm :: pt o.mr (.dK (idK (keptN (s.go m).gn))) :: pt o.ow (.dK (idK (keptN (s.go m).gn))) :: F)) := frF_iff.mpr ⟨frB s m, us, frB_ok h hm, S.fr (by walk_at "fr")⟩
      have T2 : Star H7 (BoxedH K o (s.go m) () :: frF s m D8 :: BoxedU K t dx gr w g o (s.go m) c F) := BoxedH_iff.mpr ⟨r.eraseIdx im, tm, bv, hr2, T1.fr (by walk_at "fr")⟩
      have ec : c + Boxed_gc s () m = c := Int.add_zero c
      rw [ec]
      exact T2.fr (by walk_at "fr")
end
end Lawk44

namespace Lawk44
open PySem PySem.Spec PyProof.Rows L2 MK
section
variable {K : PySem.W.Frag} {F : List SP} {H : Hp} {Q : VK} {E : XK} {t dx gr w g : Addr} {o : BoxedO} {s : RS} {c : Int} {x : BoxedX} {m : Nat}
theorem Boxed_let_go_p (S : Star H (BoxedP K t s c x :: F)) (hm : m ∈ keptN s.gn) (h1 : 1 < (keptN s.gn).length)
    (k : ∀ H' D, Star H' (BoxedF s x m D :: BoxedP K t (s.go m) (c + Boxed_gc s x m) (Boxed_gx s x m) :: F) → Q (.ref D) H') : sp_Boxed_let_go K [.ref t, nV m] H Q E := by
  obtain ⟨h, dx, gr, w, g, o, S⟩ := Boxed_of S
  have hml := (mem_kept.mp hm).1
  refine sp_Boxed_let_go_i ?_
  walk_at "go"
  refine Boxed_need_make_u S hm ?_
  walk_at "go"
  refine Boxed_makes_u S h fun H1 D S => ?_
  walk_at "go"
  rw [List.length_map]
  refine brd (fun hc => absurd hc (by omega)) (fun _ => ?_)
  have S := S.tail
  walk_at "go"
  refine set_S (a := g) (xs := s.gn.map V.bl) (j := m) (S.fr (by walk_at "fr")) (by rw [List.length_map]; exact ixN_n hml) fun H2 S => ?_
  rw [← List.map_set] at S
  have S : Star H2 (BoxedU K t dx gr w g o (s.go m) c (BoxedH K o s x :: F)) := S.fr (by walk_at "fr")
  walk_at "go"
  refine Boxed_freed_u S h hm h1 fun H3 D o' S => ?_
  exact k _ D (Star.p1 (Boxed_mk (h.go hm h1) (S.fr (by walk_at "fr"))))
theorem Boxed_let_go_alone (S : Star H (BoxedP K t s c x :: F)) (hm : m ∈ keptN s.gn) (h1 : (keptN s.gn).length = 1)
    (k : ∀ H' e, Star H' (pt e (.xd [("found", nV m)]) :: BoxedP K t s c x :: F) → E (.ref (He.ga K "Alone")) (some e) H') : sp_Boxed_let_go K [.ref t, nV m] H Q E := by
  obtain ⟨h, dx, gr, w, g, o, S⟩ := Boxed_of S
  refine sp_Boxed_let_go_i ?_
  walk_at "go"
  refine Boxed_need_make_u S hm ?_
  walk_at "go"
  refine Boxed_makes_u S h fun H1 D S => ?_
  walk_at "go"
  rw [List.length_map]
  refine brd (fun _ => ?_) (fun hc => absurd (by omega) hc)
  have S := S.tail
  walk_at "go"
  refine nwx_S (fs' := [("found", nV m)]) S fun e H2 S => ?_
  exact k _ e (Star.p1 (Boxed_mk h (S.fr (by walk_at "fr"))))
end
end Lawk44

namespace Lawk44
open PySem PySem.Spec PyProof.Rows L2 MK
section
variable {K : PySem.W.Frag} {F : List SP} {H : Hp} {Q : VK} {E : XK} {t dx gr w g a u : Addr} {o : BoxedO} {s : RS} {c z : Int} {x : BoxedX} {m p n lo hi j k tm : Nat} {ws : List Int} {xs bv : List V} {r : List (Nat × Nat)}
theorem Boxed_box_p (S : Star H (BoxedP K t s c x :: F)) (hp : p < s.ws.length) (k : ∀ H' D xs, Star H' (pt D (.lst xs) :: dats xs (runT s p) :: BoxedP K t s c x :: F) → Q (.ref D) H') : sp_Boxed_box K [.ref t, nV p] H Q E := by
  obtain ⟨h, dx, gr, w, g, o, S⟩ := Boxed_of S
  obtain ⟨r, tm, bv, hL, S⟩ := BoxedH_iff.mp (Star.fr S (qs := BoxedH K o s x :: BoxedU K t dx gr w g o s c F) (by walk_at "fr"))
  have S0 : Star H (dats bv (runsT s) :: pt o.bx (.lst bv) :: BoxedU K t dx gr w g o s c (ord K o.pl r (s.tr.length + 1) tm :: pt o.ow (.dK (idK (keptN s.gn))) :: pt o.mr (.dK (idK (keptN s.gn))) :: F)) := S.fr (by walk_at "fr")
  obtain ⟨v, hv, S1⟩ := S0.take (runsT_at hp)
  obtain ⟨b, xs, ev, S2⟩ := dat_l.mp S1
  subst ev
  have S : Star H (BoxedU K t dx gr w g o s c (pt o.bx (.lst bv) :: pt b (.lst xs) :: dats xs (runT s p) :: hole bv (runsT s) p :: ord K o.pl r (s.tr.length + 1) tm :: pt o.ow (.dK (idK (keptN s.gn))) :: pt o.mr (.dK (idK (keptN s.gn))) :: F)) := S2.fr (by walk_at "fr")
  refine sp_Boxed_box_i ?_
  walk_at "go"
  refine Boxed_need_place_u S hp ?_
  walk_at "go"
  refine ix_l (S.fr (qs := [pt o.bx (.lst bv)]) (by walk_at "fr")).get (atI_n hv) ?_
  walk_at "go"
  refine list_S S (S.fr (qs := [pt b (.lst xs)]) (by walk_at "fr")).get fun D H1 S => ?_
  refine k _ D xs ?_
  have T1 := fz_dup runT_fz (S.fr (by walk_at "fr") : Star H1 (dats xs (runT s p) :: pt D (.lst xs) :: pt b (.lst xs) :: hole bv (runsT s) p :: BoxedU K t dx gr w g o s c (pt o.bx (.lst bv) :: ord K o.pl r (s.tr.length + 1) tm :: pt o.ow (.dK (idK (keptN s.gn))) :: pt o.mr (.dK (idK (keptN s.gn))) :: F)))
  have T3 : Star H1 (dat (.ref b) (.list (runT s p)) :: hole bv (runsT s) p :: BoxedU K t dx gr w g o s c (pt o.bx (.lst bv) :: dats xs (runT s p) :: pt D (.lst xs) :: ord K o.pl r (s.tr.length + 1) tm :: pt o.ow (.dK (idK (keptN s.gn))) :: pt o.mr (.dK (idK (keptN s.gn))) :: F)) := dat_l.mpr ⟨b, xs, rfl, T1.fr (by walk_at "fr")⟩
  have T4 := hole_back T3 hv (runsT_at hp)
  have T5 : Star H1 (BoxedH K o s x :: BoxedU K t dx gr w g o s c (dats xs (runT s p) :: pt D (.lst xs) :: F)) := BoxedH_iff.mpr ⟨r, tm, bv, hL, T4.fr (by walk_at "fr")⟩
  have T6 := Boxed_mk (t := t) (dx := dx) (gr := gr) (w := w) (g := g) (o := o) (c := c) (x := x) h (T5.fr (by walk_at "fr") : Star H1 (BoxedU K t dx gr w g o s c (BoxedH K o s x :: dats xs (runT s p) :: pt D (.lst xs) :: F)))
  exact T6.fr (by walk_at "fr")
def roomB (s : RS) : Int := ((List.range s.ws.length).map fun p => (((runK s p).length : Nat) : Int)).sum
theorem Boxed_room_p (S : Star H (BoxedP K t s c x :: F)) (k : ∀ H', Star H' (BoxedP K t s c x :: F) → Q (.int (roomB s)) H') : sp_Boxed_room K [.ref t] H Q E := by
  obtain ⟨h, dx, gr, w, g, o, S⟩ := Boxed_of S
  have hle := h.row.le
  obtain ⟨r, tm, bv, hL, S⟩ := BoxedH_iff.mp (Star.fr S (qs := BoxedH K o s x :: BoxedU K t dx gr w g o s c F) (by walk_at "fr"))
  have hbl : bv.length = s.ws.length := by
    have := (Star.fr S (qs := dats bv (runsT s) :: F) (by walk_at "fr")).dlen
    rw [runsT_len] at this
    exact this
  have S : Star H (BoxedU K t dx gr w g o s c (pt o.bx (.lst bv) :: dats bv (runsT s) :: ord K o.pl r (s.tr.length + 1) tm :: pt o.ow (.dK (idK (keptN s.gn))) :: pt o.mr (.dK (idK (keptN s.gn))) :: F)) := S.fr (by walk_at "fr")
  refine sp_Boxed_room_i ?_
  walk_at "go"
  refine it_l (S.fr (qs := [pt o.bx (.lst bv)]) (by walk_at "fr")).get ?_
  intro D hD
  refine lc_dat (a := o.bx) (xs := bv) (ds := runsT s) (F := BoxedU K t dx gr w g o s c (ord K o.pl r (s.tr.length + 1) tm :: pt o.ow (.dK (idK (keptN s.gn))) :: pt o.mr (.dK (idK (keptN s.gn))) :: F)) _ (fun _ => true) (fun i => .int (((runK s i).length : Nat) : Int)) (fun x H Q q => q) (by omega) hD (S.fr (by walk_at "fr")) (fun x => rfl) (fun i v d Z H1 R _ _ S r => r _ S) ?_ fun H1 ys S => ?_
  · intro i v d Z H1 R hv hd _ S r
    have hi : i < s.ws.length := by
      have := (List.getElem?_eq_some_iff.mp hv).1
      omega
    rw [runsT_at hi] at hd
    cases hd
    obtain ⟨b, xs, ev, S9⟩ := dat_l.mp S
    subst ev
    have hxl : xs.length = (runK s i).length := by
      have := S9.p1.dlen
      rw [runT_len] at this
      exact this
    walk_at "go"
    rw [hxl]
    refine r _ _ (dat_i.mpr ⟨rfl, dat_l.mpr ⟨b, xs, rfl, S9⟩⟩)
  · rw [filt_true, hbl] at S
    have e1 : (List.range s.ws.length).map (fun i => PyData.int (((runK s i).length : Nat) : Int)) = ((List.range s.ws.length).map fun i => (((runK s i).length : Nat) : Int)).map PyData.int := by rw [List.map_map]; rfl
    rw [e1] at S
    obtain ⟨ey, S⟩ := zints.mp S.p1
    subst ey
    have S : Star H1 (pt D (.lst (((List.range s.ws.length).map fun i => (((runK s i).length : Nat) : Int)).map V.int)) :: BoxedU K t dx gr w g o s c (pt o.bx (.lst bv) :: dats bv (runsT s) :: ord K o.pl r (s.tr.length + 1) tm :: pt o.ow (.dK (idK (keptN s.gn))) :: pt o.mr (.dK (idK (keptN s.gn))) :: F)) := S.fr (by walk_at "fr")
    walk_at "go"
    refine sum_l S.get ?_
    refine k _ (Boxed_mk (t := t) (dx := dx) (gr := gr) (w := w) (g := g) (o := o) h ?_)
    have T5 : Star H1 (BoxedH K o s x :: BoxedU K t dx gr w g o s c F) := BoxedH_iff.mpr ⟨r, tm, bv, hL, S.fr (by walk_at "fr")⟩
    exact T5.fr (by walk_at "fr")
theorem Boxed_box_bad {v : V} {d : PyData} (S : Star H (dat v d :: BoxedP K t s c x :: F)) (hb : wholeD d 0 ((s.ws.length : Int) - 1) = false) (k : ∀ H' e, Star H' (pt e (.xd [("found", v)]) :: dat v d :: BoxedP K t s c x :: F) → E (.ref (He.ga K "NoPlace")) (some e) H') : sp_Boxed_box K [.ref t, v] H Q E := by
  obtain ⟨h, dx, gr, w, g, o, S⟩ := Boxed_of S.p1
  refine sp_Boxed_box_i ?_
  walk_at "go"
  refine sp_Boxed_need_place_i ?_
  walk_at "go"
  refine is_whole_ok (v := v) (d := d) (F := BoxedU K t dx gr w g o s c (BoxedH K o s x :: F)) (S.fr (by walk_at "fr")) ?_
  rw [hb]
  walk_at "go"
  refine nwx_S (fs' := [("found", v)]) S fun e H1 S => ?_
  have S1 := Boxed_mk h (S.fr (by walk_at "fr") : Star H1 (BoxedU K t dx gr w g o s c (BoxedH K o s x :: pt e (.xd [("found", v)]) :: dat v d :: F)))
  exact k _ e (S1.fr (by walk_at "fr"))
theorem ln_perm (h : RSok s) : s.ln.Perm (keptN s.gn) := List.perm_iff_count.mpr fun a => by
  rw [(kept_nd (gn := s.gn)).count, h.ln_nd.count]
  by_cases ha : a ∈ keptN s.gn
  · rw [if_pos ha, if_pos (h.ln_mem.mpr ha)]
  · rw [if_neg ha, if_neg fun z => ha (h.ln_mem.mp z)]
theorem kept_up (h : RSok s) : ((keptN s.gn).map fun k => ((k : Nat) : Int)).Pairwise (· ≤ ·) := by
  unfold keptN
  refine List.pairwise_map.mpr ((List.pairwise_lt_range.filter _).imp fun {a b} hab => ?_)
  omega
theorem Boxed_in_order_p (S : Star H (BoxedP K t s c x :: F)) (k : ∀ H' D, Star H' (pt D (.lst (s.ln.map nV)) :: BoxedP K t s c x :: F) → Q (.ref D) H') : sp_Boxed_in_order K [.ref t] H Q E := by
  obtain ⟨h, dx, gr, w, g, o, S⟩ := Boxed_of S
  obtain ⟨r, tm, bv, hr, S⟩ := BoxedH_iff.mp (Star.fr S (qs := BoxedH K o s x :: BoxedU K t dx gr w g o s c F) (by walk_at "fr"))
  have hll := ln_len h
  have hf := h.row.few
  refine Boxed_in_order_u (t := t) (dx := dx) (n := s.ws.length) (gr := gr) (w := w) (g := g) (c := c) (o := o) (r := r) (G := s.tr.length + 1) (tm := tm) (L := keptN s.gn) (ln := s.ln) (F := tre K true gr s.tr :: pt w (.lst (wrV s.wr)) :: pt g (.lst (s.gn.map V.bl)) :: pt o.mr (.dK (idK (keptN s.gn))) :: pt o.bx (.lst bv) :: dats bv (runsT s) :: F) (S.fr (by walk_at "fr")) hr (fun x hx => h.ln_mem.mp hx) (by omega) fun H1 D S => ?_
  refine k _ D ?_
  have T2 : Star H1 (BoxedH K o s x :: pt D (.lst (s.ln.map nV)) :: BoxedU K t dx gr w g o s c F) := BoxedH_iff.mpr ⟨r, tm, bv, hr, S.fr (by walk_at "fr")⟩
  exact (Boxed_mk h (T2.fr (by walk_at "fr") : Star H1 (BoxedU K t dx gr w g o s c (BoxedH K o s x :: pt D (.lst (s.ln.map nV)) :: F)))).p1
end
end Lawk44

namespace Lawk44
open PySem PySem.Spec PyProof.Rows L2 MK
/-! the law's model that keeps whole rows: lists that nobody changes lie in a pool -/
abbrev Pool := List (Addr × List Int)
def pool (P : Pool) : SP := sep (P.map fun x => pt x.1 (.lst (x.2.map V.int)))
theorem pool_ul : ∀ P : Pool, UlL (P.map fun x => pt x.1 (.lst (x.2.map V.int)))
  | [] => (inferInstance : UlL [])
  | x :: P => by
    have := pool_ul P
    exact (inferInstance : UlL (pt x.1 (.lst (x.2.map V.int)) :: P.map fun x => pt x.1 (.lst (x.2.map V.int))))
instance {P : Pool} : UlC (pool P) := by
  have := pool_ul P
  unfold pool
  infer_instance
section
variable {K : PySem.W.Frag} {F : List SP} {H : Hp} {P : Pool} {a : Addr} {l : List Int}
theorem pool_nil (S : Star H F) : Star H (pool [] :: F) := Star.sep_iff.mpr S
theorem pool_add (S : Star H (pt a (.lst (l.map V.int)) :: pool P :: F)) : Star H (pool (P ++ [(a, l)]) :: F) := by
  have S1 : Star H (pool P :: pt a (.lst (l.map V.int)) :: F) := S.p1
  have S2 := Star.sep_iff.mp S1
  refine Star.sep_iff.mpr ?_
  rw [List.map_append, List.append_assoc]
  exact S2
theorem pool_pt (S : Star H (pool P :: F)) (h : (a, l) ∈ P) : ∃ G, Star H (pt a (.lst (l.map V.int)) :: G) := by
  obtain ⟨P1, P2, rfl⟩ := List.append_of_mem h
  have S2 := Star.sep_iff.mp S
  rw [List.map_append, List.map_cons, List.append_assoc] at S2
  exact ⟨_, S2.perm List.perm_middle⟩
theorem pool_get (S : Star H (pool P :: F)) (h : (a, l) ∈ P) : H a = some (.lst (l.map V.int)) := by
  obtain ⟨G, S1⟩ := pool_pt S h
  exact S1.get
end
def mbK (ro ow wr kp : Addr) : List (Key × V) := [(.inr "rows", .ref ro), (.inr "owners", .ref ow), (.inr "wrote", .ref wr), (.inr "kept", .ref kp)]
structure RowsIn (P : Pool) (s : RS) (rv : List V) : Prop where
  len : rv.length = s.tr.length + 1
  at' : ∀ m, m < s.tr.length + 1 → ∃ r, rv[m]? = some (.ref r) ∧ (r, s.line m) ∈ P
abbrev MB (q ro ow wr kp : Addr) (s : RS) (rv : List V) (F : List SP) : List SP :=
  pt q (.dK (mbK ro ow wr kp)) :: pt ro (.lst rv) :: pt ow (.lst (osV s.tr)) :: pt wr (.lst (wrV s.wr)) :: pt kp (.lst ((keptN s.gn).map nV)) :: F
def mdB (q : Addr) (P : Pool) (s : RS) : SP := ex fun ro : Addr => ex fun ow : Addr => ex fun wr : Addr => ex fun kp : Addr => ex fun rv : List V => sep (pr (RSok s ∧ RowsIn P s rv) :: MB q ro ow wr kp s rv [])
instance {q : Addr} {P : Pool} {s : RS} : UlC (mdB q P s) := by unfold mdB; infer_instance
section
variable {K : PySem.W.Frag} {F : List SP} {H : Hp} {Q : VK} {E : XK} {P P' : Pool} {q b u a ro ow wr kp : Addr} {s : RS} {m p n : Nat} {z : Int} {rv : List V} {ws : List Int}
theorem mdB_of (S : Star H (mdB q P s :: F)) : (RSok s ∧ ∃ ro ow wr kp rv, RowsIn P s rv ∧ Star H (MB q ro ow wr kp s rv F)) := by
  unfold mdB at S
  obtain ⟨ro, S⟩ := Star.ex_iff.mp S
  obtain ⟨ow, S⟩ := Star.ex_iff.mp S
  obtain ⟨wr, S⟩ := Star.ex_iff.mp S
  obtain ⟨kp, S⟩ := Star.ex_iff.mp S
  obtain ⟨rv, S⟩ := Star.ex_iff.mp S
  obtain ⟨h, S⟩ := Star.pr_iff.mp (Star.sep_iff.mp S)
  exact ⟨h.1, ro, ow, wr, kp, rv, h.2, S⟩
theorem mdB_mk (h : RSok s) (hr : RowsIn P s rv) (S : Star H (MB q ro ow wr kp s rv F)) : Star H (mdB q P s :: F) := by
  unfold mdB
  exact Star.ex_iff.mpr ⟨ro, Star.ex_iff.mpr ⟨ow, Star.ex_iff.mpr ⟨wr, Star.ex_iff.mpr ⟨kp, Star.ex_iff.mpr ⟨rv, Star.sep_iff.mpr (Star.pr_iff.mpr ⟨⟨h, hr⟩, S⟩)⟩⟩⟩⟩⟩
theorem mdB_ok (S : Star H (mdB q P s :: F)) : RSok s := (mdB_of S).1
theorem RowsIn.more (h : RowsIn P s rv) (hp : ∀ x ∈ P, x ∈ P') : RowsIn P' s rv := ⟨h.len, fun m hm => by
  obtain ⟨r, h1, h2⟩ := h.at' m hm
  exact ⟨r, h1, hp _ h2⟩⟩
theorem mdB_more (S : Star H (mdB q P s :: F)) (hp : ∀ x ∈ P, x ∈ P') : Star H (mdB q P' s :: F) := by
  obtain ⟨h, ro, ow, wr, kp, rv, hr, S⟩ := mdB_of S
  exact mdB_mk h (hr.more hp) S
theorem mb_r : valV (mbK ro ow wr kp) (.inr "rows") = some (.ref ro) := rfl
theorem mb_o : valV (mbK ro ow wr kp) (.inr "owners") = some (.ref ow) := rfl
theorem mb_w : valV (mbK ro ow wr kp) (.inr "wrote") = some (.ref wr) := rfl
theorem mb_k : valV (mbK ro ow wr kp) (.inr "kept") = some (.ref kp) := rfl
theorem mdB_rows (S : Star H (mdB q P s :: F)) (k : ∀ a rv, RowsIn P s rv → H a = some (.lst rv) → Q (.ref a) H) : ixX K (.ref q) (.str "rows") H Q := by
  obtain ⟨h, ro, ow, wr, kp, rv, hr, S⟩ := mdB_of S
  exact ixd_s S.get mb_r (k _ _ hr S.p1.get)
theorem mdB_owners (S : Star H (mdB q P s :: F)) (k : ∀ a, H a = some (.lst (osV s.tr)) → Q (.ref a) H) : ixX K (.ref q) (.str "owners") H Q := by
  obtain ⟨h, ro, ow, wr, kp, rv, hr, S⟩ := mdB_of S
  exact ixd_s S.get mb_o (k _ S.p2.get)
theorem mdB_wrote (S : Star H (mdB q P s :: F)) (k : ∀ a, H a = some (.lst (wrV s.wr)) → Q (.ref a) H) : ixX K (.ref q) (.str "wrote") H Q := by
  obtain ⟨h, ro, ow, wr, kp, rv, hr, S⟩ := mdB_of S
  exact ixd_s S.get mb_w (k _ S.p3.get)
theorem mdB_kept (S : Star H (mdB q P s :: F)) (k : ∀ a, H a = some (.lst ((keptN s.gn).map nV)) → Q (.ref a) H) : ixX K (.ref q) (.str "kept") H Q := by
  obtain ⟨h, ro, ow, wr, kp, rv, hr, S⟩ := mdB_of S
  exact ixd_s S.get mb_k (k _ S.p4.get)
/-- the model without its list of kept makes -/
def mdBk (q : Addr) (P : Pool) (s : RS) (kp : Addr) : SP := ex fun ro : Addr => ex fun ow : Addr => ex fun wr : Addr => ex fun rv : List V => sep [pr (RSok s ∧ RowsIn P s rv), pt q (.dK (mbK ro ow wr kp)), pt ro (.lst rv), pt ow (.lst (osV s.tr)), pt wr (.lst (wrV s.wr))]
theorem mdBk_iff : Star H (mdBk q P s kp :: F) ↔ ∃ ro ow wr rv, (RSok s ∧ RowsIn P s rv) ∧ Star H (pt q (.dK (mbK ro ow wr kp)) :: pt ro (.lst rv) :: pt ow (.lst (osV s.tr)) :: pt wr (.lst (wrV s.wr)) :: F) := by
  unfold mdBk
  refine Star.ex_iff.trans (exists_congr fun ro => Star.ex_iff.trans (exists_congr fun ow => Star.ex_iff.trans (exists_congr fun wr => Star.ex_iff.trans (exists_congr fun rv => Star.sep_iff.trans Star.pr_iff))))
theorem mdB_kept2 (S : Star H (mdB q P s :: F)) (k : ∀ a, Star H (pt a (.lst ((keptN s.gn).map nV)) :: mdBk q P s a :: F) → Q (.ref a) H) : ixX K (.ref q) (.str "kept") H Q := by
  obtain ⟨h, ro, ow, wr, kp, rv, hr, S⟩ := mdB_of S
  refine ixd_s S.get mb_k (k kp ?_)
  have S1 : Star H (mdBk q P s kp :: pt kp (.lst ((keptN s.gn).map nV)) :: F) := mdBk_iff.mpr ⟨ro, ow, wr, rv, ⟨h, hr⟩, S⟩
  exact S1.p1
theorem mdB_back (S : Star H (pt a (.lst ((keptN s.gn).map nV)) :: mdBk q P s a :: F)) : Star H (mdB q P s :: F) := by
  obtain ⟨ro, ow, wr, rv, ⟨h, hr⟩, S⟩ := mdBk_iff.mp S.p1
  exact mdB_mk h hr S
/-- a make let go -/
theorem mdB_go (S : Star H (pt a (.lst ((keptN (s.go m).gn).map nV)) :: mdBk q P s a :: F)) (hm : m ∈ keptN s.gn) (h1 : 1 < (keptN s.gn).length) : Star H (mdB q P (s.go m) :: F) := by
  obtain ⟨ro, ow, wr, rv, ⟨h, hr⟩, S⟩ := mdBk_iff.mp S.p1
  exact mdB_mk (s := s.go m) (h.go hm h1) ⟨hr.len, hr.at'⟩ S
theorem zero_line : (RS.zero ws).line 0 = ws := by
  refine List.ext_getElem? fun p => ?_
  by_cases hp : p < ws.length
  · rw [RS.line_at (s := RS.zero ws) hp, List.getElem?_eq_getElem hp]
    show some (vlW ws [] p 0) = _
    unfold vlW
    rw [if_pos rfl, List.getD_eq_getElem?_getD, List.getElem?_eq_getElem hp]
    rfl
  · rw [List.getElem?_eq_none (by rw [RS.line_len]; exact Nat.le_of_not_lt hp), List.getElem?_eq_none (by omega)]
theorem L_model_b (S : Star H (pt u (.lst (ws.map V.int)) :: pool P :: F)) (h1 : 1 ≤ ws.length) (h2 : ws.length ≤ 16) (h3 : ∀ z ∈ ws, -bigI < z ∧ z < bigI)
    (k : ∀ H' q r, Star H' (mdB q (P ++ [(r, ws)]) (RS.zero ws) :: pt u (.lst (ws.map V.int)) :: pool (P ++ [(r, ws)]) :: F) → Q (.ref q) H') : sp_L_model K [.ref u] H Q E := by
  refine sp_L_model_i ?_
  walk_at "go"
  refine al_d S fun q H1 S => ?_
  walk_at "go"
  refine list_S (a := u) (xs := ws.map V.int) S S.p1.get fun r H2 S => ?_
  walk_at "go"
  refine al_l S fun ro H3 S => ?_
  walk_at "go"
  refine al_l S fun ow H4 S => ?_
  walk_at "go"
  refine al_l S fun wr H5 S => ?_
  walk_at "go"
  refine al_l S fun kp H6 S => ?_
  walk_at "go"
  refine dis_S (mbK ro ow wr kp) (S.fr (by walk_at "fr")) rfl rfl (show 4 ≤ 15 by decide) fun H7 S => ?_
  have S1 := pool_add (a := r) (l := ws) (P := P) (S.fr (by walk_at "fr") : Star H7 (pt r (.lst (ws.map V.int)) :: pool P :: pt q (.dK (mbK ro ow wr kp)) :: pt ro (.lst [.ref r]) :: pt ow (.lst (osV [])) :: pt wr (.lst (wrV [])) :: pt kp (.lst [nV 0]) :: pt u (.lst (ws.map V.int)) :: F))
  have hr : RowsIn (P ++ [(r, ws)]) (RS.zero ws) [.ref r] := ⟨rfl, fun m hm => by
    have e : m = 0 := by
      have : m < 0 + 1 := hm
      omega
    subst e
    exact ⟨r, rfl, by rw [zero_line]; exact List.mem_append_right _ List.mem_cons_self⟩⟩
  refine k _ q r (mdB_mk (s := RS.zero ws) (ro := ro) (ow := ow) (wr := wr) (kp := kp) (rv := [.ref r]) (RSok.zero h1 h2 h3) hr ?_)
  exact S1.fr (by walk_at "fr")
theorem L_written_b (S : Star H (mdB q P s :: pool P :: F)) (hm : m ∈ keptN s.gn) (hp : p < s.ws.length) (hz : -bigI < z ∧ z < bigI) (hf : s.tr.length < 63)
    (k : ∀ H' P', (∀ x ∈ P, x ∈ P') → Star H' (mdB q P' (s.put m p z) :: pool P' :: F) → Q (nV (s.tr.length + 1)) H') : sp_L_written K [.ref q, nV m, nV p, .int z] H Q E := by
  obtain ⟨h, ro, ow, wr, kp, rv, hr, S⟩ := mdB_of S
  have hml := h.lt hm
  have hlen := h.row.len
  have hg := h.len
  have hkl := kept_len (gn := s.gn)
  have hws := h.row.le
  obtain ⟨r, hr1, hr2⟩ := hr.at' m hml
  have hrl := hr.len
  refine sp_L_written_i ?_
  walk_at "go"
  refine ixd_s S.get mb_r ?_
  walk_at "go"
  refine ix_l S.p1.get (atI_n hr1) ?_
  walk_at "go"
  refine list_S S (pool_get (P := P) (S.fr (qs := [pool P]) (by walk_at "fr")) hr2) fun r2 H1 S => ?_
  walk_at "go"
  refine set_S (a := r2) (xs := (s.line m).map V.int) (j := p) S (by rw [List.length_map]; exact ixN_n (by rw [RS.line_len]; exact hp)) fun H2 S => ?_
  have e1 : ((s.line m).map V.int).set p (.int z) = ((s.put m p z).line (s.tr.length + 1)).map V.int := by
    rw [h.line_new hml hp hz hf, List.map_set]
  rw [e1] at S
  walk_at "go"
  refine ixd_s S.p1.get mb_r ?_
  walk_at "go"
  refine app_S (a := ro) (xs := rv) (S.fr (qs := pt ro (.lst rv) :: pt q (.dK (mbK ro ow wr kp)) :: pt r2 (.lst (((s.put m p z).line (s.tr.length + 1)).map V.int)) :: pt ow (.lst (osV s.tr)) :: pt wr (.lst (wrV s.wr)) :: pt kp (.lst ((keptN s.gn).map nV)) :: pool P :: F) (by walk_at "fr")) (by omega) fun H3 S => ?_
  walk_at "go"
  refine ixd_s S.p1.get mb_o ?_
  walk_at "go"
  refine app_S (a := ow) (xs := osV s.tr) (S.fr (qs := pt ow (.lst (osV s.tr)) :: pt q (.dK (mbK ro ow wr kp)) :: pt ro (.lst (rv ++ [.ref r2])) :: pt r2 (.lst (((s.put m p z).line (s.tr.length + 1)).map V.int)) :: pt wr (.lst (wrV s.wr)) :: pt kp (.lst ((keptN s.gn).map nV)) :: pool P :: F) (by walk_at "fr")) (by rw [osV_len]; omega) fun H4 S => ?_
  have e2 : osV s.tr ++ [nV m] = osV (s.tr ++ [m]) := by
    unfold osV
    rw [List.map_append]
    rfl
  rw [e2] at S
  walk_at "go"
  refine ixd_s S.p1.get mb_w ?_
  walk_at "go"
  refine app_S (a := wr) (xs := wrV s.wr) (S.fr (qs := pt wr (.lst (wrV s.wr)) :: pt q (.dK (mbK ro ow wr kp)) :: pt ro (.lst (rv ++ [.ref r2])) :: pt r2 (.lst (((s.put m p z).line (s.tr.length + 1)).map V.int)) :: pt ow (.lst (osV (s.tr ++ [m]))) :: pt kp (.lst ((keptN s.gn).map nV)) :: pool P :: F) (by walk_at "fr")) (by rw [h.wr_len]; omega) fun H5 S => ?_
  have e3 : wrV s.wr ++ [nV p] = wrV (s.wr ++ [(p, z)]) := by
    unfold wrV
    rw [List.map_append]
    rfl
  rw [e3] at S
  walk_at "go"
  refine ixd_s S.p1.get mb_k ?_
  walk_at "go"
  refine ixd_s S.p1.get mb_r ?_
  walk_at "go"
  have e5 : ((rv ++ [V.ref r2]).length : Int) - 1 = ((s.tr.length + 1 : Nat) : Int) := by
    rw [List.length_append, hrl]
    show ((s.tr.length + 1 + 1 : Nat) : Int) - 1 = _
    omega
  rw [e5]
  refine app_S (a := kp) (xs := (keptN s.gn).map nV) (S.fr (qs := pt kp (.lst ((keptN s.gn).map nV)) :: pt q (.dK (mbK ro ow wr kp)) :: pt ro (.lst (rv ++ [.ref r2])) :: pt r2 (.lst (((s.put m p z).line (s.tr.length + 1)).map V.int)) :: pt ow (.lst (osV (s.tr ++ [m]))) :: pt wr (.lst (wrV (s.wr ++ [(p, z)]))) :: pool P :: F) (by walk_at "fr")) (by rw [List.length_map]; omega) fun H6 S => ?_
  have e4 : (keptN s.gn).map nV ++ [nV (s.tr.length + 1)] = (keptN (s.put m p z).gn).map nV := by
    rw [RS.kept_put, List.map_append, hg]
    rfl
  rw [e4] at S
  walk_at "go"
  refine ixd_s S.p1.get mb_r ?_
  walk_at "go"
  rw [e5]
  have S1 := pool_add (a := r2) (l := (s.put m p z).line (s.tr.length + 1)) (P := P) (S.fr (by walk_at "fr") : Star H6 (pt r2 (.lst (((s.put m p z).line (s.tr.length + 1)).map V.int)) :: pool P :: MB q ro ow wr kp (s.put m p z) (rv ++ [.ref r2]) F))
  have etl : (s.put m p z).tr.length = s.tr.length + 1 := by
    show (s.tr ++ [m]).length = _
    rw [List.length_append]
    rfl
  have hr3 : RowsIn (P ++ [(r2, (s.put m p z).line (s.tr.length + 1))]) (s.put m p z) (rv ++ [.ref r2]) := by
    refine ⟨by rw [List.length_append, hrl, etl]; rfl, fun i hi => ?_⟩
    rw [etl] at hi
    by_cases e : i = s.tr.length + 1
    · subst e
      exact ⟨r2, by rw [List.getElem?_append_right (by omega), hrl, Nat.sub_self]; rfl, List.mem_append_right _ List.mem_cons_self⟩
    · obtain ⟨r', h1, h2⟩ := hr.at' i (by omega)
      refine ⟨r', by rw [List.getElem?_append_left (by omega)]; exact h1, ?_⟩
      rw [h.line_put (n := i) hml hp hz hf (by omega)]
      exact List.mem_append_left _ h2
  exact k _ _ (fun x hx => List.mem_append_left _ hx) (mdB_mk (s := s.put m p z) (ro := ro) (ow := ow) (wr := wr) (kp := kp) (h.put hml hp hz hf) hr3 (S1.fr (by walk_at "fr")))
theorem L_last_b (S : Star H (mdB q P s :: F)) (hm : m < s.tr.length + 1) (k : Q (nV (s.w m p)) H) : sp_L_last K [.ref q, nV m, nV p] H Q E := by
  have h := (mdB_ok S).row
  refine sp_L_last_i ?_
  walk_at "go"
  refine while_i (fun z σ H' => H' = H ∧ z < s.tr.length + 1 ∧ wof s.tr s.wr p z = wof s.tr s.wr p m ∧ σ = [some (.ref q), some (nV z), some (nV p)]) m ⟨rfl, hm, rfl, rfl⟩ ?_
  rintro z σ H' ⟨rfl, hz, ez, rfl⟩
  walk_at "go"
  refine brd (fun h0 => ?_) (fun h0 => ?_)
  · have h0' : 0 < z := by omega
    walk_at "go"
    refine mdB_wrote S fun o ho => ?_
    walk_at "go"
    refine ix_l ho (atI_n (wrV_at h.len hz h0')) ?_
    walk_at "go"
    refine brn (fun e => ?_) (fun e => ?_)
    · have e' : (s.wr.getD (z - 1) (0, 0)).1 ≠ p := fun e2 => e (by rw [e2])
      walk_at "go"
      refine mdB_owners S fun o ho => ?_
      walk_at "go"
      refine ix_l ho (atI_n (osV_up h.tree hz h0')) ?_
      walk_at "w"
      have hu := up1_lt h.tree hz h0'
      exact ⟨_, hu, rfl, by omega, by rw [← wof_up h.tree hz h0' e']; exact ez, rfl⟩
    · have e' : (s.wr.getD (z - 1) (0, 0)).1 = p := by omega
      have k : Q (nV (wof s.tr s.wr p m)) H' := k
      rw [← ez, wof_here h0' e'] at k
      walk_at "go"
      exact k
  · have e0 : z = 0 := by omega
    subst e0
    have k : Q (nV (wof s.tr s.wr p m)) H' := k
    rw [← ez] at k
    walk_at "go"
    exact k
theorem L_model_copy_b [UlL F] (S : Star H (mdB q P s :: F)) (k : ∀ H' q', Star H' (mdB q' P s :: mdB q P s :: F) → Q (.ref q') H') : sp_L_model_copy K [.ref q] H Q E := by
  obtain ⟨ok, ro, ow, wr, kp, rv, hr, S⟩ := mdB_of S
  refine sp_L_model_copy_i ?_
  walk_at "go"
  refine al_d S fun D H1 S => ?_
  walk_at "go"
  refine lk_S (d := q) (u := .dK (mbK ro ow wr kp)) (F := pt D (.dK []) :: pt ro (.lst rv) :: pt ow (.lst (osV s.tr)) :: pt wr (.lst (wrV s.wr)) :: pt kp (.lst ((keptN s.gn).map nV)) :: F) (S.fr (by walk_at "fr")) True.intro fun od H2 S => ?_
  walk_at "go"
  refine key_k S.getF ?_
  refine Loop.it walk_keys (fun j σ H => ∃ (r' o' w' k' : Addr) (y2 : Option V), Star H (pt D (.dK ((mbK r' o' w' k').take j)) :: ([pt r' (.lst rv), pt o' (.lst (osV s.tr)), pt w' (.lst (wrV s.wr)), pt k' (.lst ((keptN s.gn).map nV))].take j ++ (fx q (.frz od (.dK (mbK ro ow wr kp))) :: pt ro (.lst rv) :: pt ow (.lst (osV s.tr)) :: pt wr (.lst (wrV s.wr)) :: pt kp (.lst ((keptN s.gn).map nV)) :: F))) ∧ σ = [some (.ref q), some (.ref D), y2]) ⟨ro, ow, wr, kp, _, S.fr (by walk_at "fr"), rfl⟩ ?_ ?_ ?_
  · rintro j σ H3 hj ⟨r', o', w', k', y2, S, _⟩
    match j, S with
    | 0, S => exact Star.getF (S.fr (qs := [fx q (.frz od (.dK (mbK ro ow wr kp)))]) (by walk_at "fr"))
    | 1, S => exact Star.getF (S.fr (qs := [fx q (.frz od (.dK (mbK ro ow wr kp)))]) (by walk_at "fr"))
    | 2, S => exact Star.getF (S.fr (qs := [fx q (.frz od (.dK (mbK ro ow wr kp)))]) (by walk_at "fr"))
    | 3, S => exact Star.getF (S.fr (qs := [fx q (.frz od (.dK (mbK ro ow wr kp)))]) (by walk_at "fr"))
    | 4, S => exact Star.getF (S.fr (qs := [fx q (.frz od (.dK (mbK ro ow wr kp)))]) (by walk_at "fr"))
    | j + 5, S => exact absurd hj (by show ¬ (j + 5 ≤ 4); omega)
  · rintro j v σ H3 H4 hj ⟨r', o', w', k', y2, S, rfl⟩ ⟨rfl, ky, vy, hv, rfl⟩
    match j, hv, S with
    | 0, hv, S =>
      cases hv
      walk_at "go"
      refine ixd_kf (k := .inr "rows") (v := .ref ro) (S.fr (qs := [fx q (.frz od (.dK (mbK ro ow wr kp)))]) (by walk_at "fr")).getF rfl ?_
      walk_at "go"
      refine list_S S (a := ro) (xs := rv) (S.fr (qs := [pt ro (.lst (rv))]) (by walk_at "fr")).get fun p H5 S => ?_
      walk_at "go"
      refine setd_s (a := D) (kvs := (mbK r' o' w' k').take 0) (S.fr (by walk_at "fr")) (by show 0 < 16777216; decide) fun H6 S => ?_
      walk_at "w"
      exact ⟨p, o', w', k', _, S.fr (by walk_at "fr"), rfl⟩
    | 1, hv, S =>
      cases hv
      walk_at "go"
      refine ixd_kf (k := .inr "owners") (v := .ref ow) (S.fr (qs := [fx q (.frz od (.dK (mbK ro ow wr kp)))]) (by walk_at "fr")).getF rfl ?_
      walk_at "go"
      refine list_S S (a := ow) (xs := osV s.tr) (S.fr (qs := [pt ow (.lst (osV s.tr))]) (by walk_at "fr")).get fun p H5 S => ?_
      walk_at "go"
      refine setd_s (a := D) (kvs := (mbK r' o' w' k').take 1) (S.fr (by walk_at "fr")) (by show 1 < 16777216; decide) fun H6 S => ?_
      walk_at "w"
      exact ⟨r', p, w', k', _, S.fr (by walk_at "fr"), rfl⟩
    | 2, hv, S =>
      cases hv
      walk_at "go"
      refine ixd_kf (k := .inr "wrote") (v := .ref wr) (S.fr (qs := [fx q (.frz od (.dK (mbK ro ow wr kp)))]) (by walk_at "fr")).getF rfl ?_
      walk_at "go"
      refine list_S S (a := wr) (xs := wrV s.wr) (S.fr (qs := [pt wr (.lst (wrV s.wr))]) (by walk_at "fr")).get fun p H5 S => ?_
      walk_at "go"
      refine setd_s (a := D) (kvs := (mbK r' o' w' k').take 2) (S.fr (by walk_at "fr")) (by show 2 < 16777216; decide) fun H6 S => ?_
      walk_at "w"
      exact ⟨r', o', p, k', _, S.fr (by walk_at "fr"), rfl⟩
    | 3, hv, S =>
      cases hv
      walk_at "go"
      refine ixd_kf (k := .inr "kept") (v := .ref kp) (S.fr (qs := [fx q (.frz od (.dK (mbK ro ow wr kp)))]) (by walk_at "fr")).getF rfl ?_
      walk_at "go"
      refine list_S S (a := kp) (xs := (keptN s.gn).map nV) (S.fr (qs := [pt kp (.lst ((keptN s.gn).map nV))]) (by walk_at "fr")).get fun p H5 S => ?_
      walk_at "go"
      refine setd_s (a := D) (kvs := (mbK r' o' w' k').take 3) (S.fr (by walk_at "fr")) (by show 3 < 16777216; decide) fun H6 S => ?_
      walk_at "w"
      exact ⟨r', o', w', p, _, S.fr (by walk_at "fr"), rfl⟩
    | j + 4, hv, S => exact absurd hj (by show ¬ (j + 4 < 4); omega)
  · rintro σ H3 ⟨r', o', w', k', y2, S, rfl⟩
    refine unlk (F := pt D (.dK (mbK r' o' w' k')) :: pt r' (.lst rv) :: pt o' (.lst (osV s.tr)) :: pt w' (.lst (wrV s.wr)) :: pt k' (.lst ((keptN s.gn).map nV)) :: pt ro (.lst rv) :: pt ow (.lst (osV s.tr)) :: pt wr (.lst (wrV s.wr)) :: pt kp (.lst ((keptN s.gn).map nV)) :: F) (S.fr (by walk_at "fr")) True.intro fun H4 S => ?_
    walk_at "w"
    have S1 := mdB_mk (q := q) (s := s) ok hr (S.fr (by walk_at "fr") : Star H4 (MB q ro ow wr kp s rv (pt D (.dK (mbK r' o' w' k')) :: pt r' (.lst rv) :: pt o' (.lst (osV s.tr)) :: pt w' (.lst (wrV s.wr)) :: pt k' (.lst ((keptN s.gn).map nV)) :: F)))
    exact k _ D (mdB_mk (q := D) (s := s) ok hr (S1.fr (by walk_at "fr")))
end
end Lawk44

namespace Lawk44
open PySem PySem.Spec PyProof.Rows L2 MK
/-! draws with the dict box: worths, one of some -/
section
variable {K : PySem.W.Frag} {F : List SP} {H : Hp} {Q : VK} {E : XK} {b a : Addr} {n : Nat}
theorem L_worth_b (S : Star H (box2 b (n + 4) :: F)) (k : ∀ H' (z : Int), -bigI < z → z < bigI → Star H' (box2 b n :: F) → Q (.int z) H') : sp_L_worth K [.ref b] H Q E := by
  have e7 : (10 : Int) ^ Int.toNat 7 = 10000000 := by decide +kernel
  have e8 : (10 : Int) ^ Int.toNat 8 = 100000000 := by decide +kernel
  have e23 : (10 : Int) ^ Int.toNat 23 = 100000000000000000000000 := by decide +kernel
  have e29 : (10 : Int) ^ Int.toNat 29 = 100000000000000000000000000000 := by decide +kernel
  refine sp_L_worth_i ?_
  walk_at "go"
  refine take2_ok S (by decide) fun H1 d h1 S => ?_
  walk_at "go"
  refine take2_ok S (by decide) fun H2 d1 h2 S => ?_
  rw [e7] at h2
  walk_at "go"
  rw [e23]
  walk_at "go"
  refine take2_ok S (by decide) fun H3 d2 h3 S => ?_
  rw [e7] at h3
  walk_at "go"
  rw [e8]
  walk_at "go"
  refine take2_ok S (by decide) fun H4 d3 h4 S => ?_
  rw [e7] at h4
  walk_at "w"
  obtain ⟨N, hN, hb⟩ : ∃ N : Int, N = ((d1 : Nat) : Int) * 100000000000000000000000 + ((d2 : Nat) : Int) * 100000000 + ((d3 : Nat) : Int) ∧ ((0 ≤ N ∧ N < 1000000000000000000000000000000) ∧ True) := ⟨_, rfl, by omega, True.intro⟩
  rw [← hN]
  clear hN e7 e8 e23 h2 h3 h4
  walk_at "go"
  refine al_l S fun p H5 S => ?_
  walk_at "go"
  have hb0 := hb.1.1
  have hb1 := hb.1.2
  have hm0 := Int.emod_nonneg N (show (3 : Int) ≠ 0 by decide)
  have hm1 := Int.emod_lt_of_pos N (show (0 : Int) < 3 by decide)
  have hs0 := Int.emod_nonneg N (show (7 : Int) ≠ 0 by decide)
  have hs1 := Int.emod_lt_of_pos N (show (0 : Int) < 7 by decide)
  refine ix_m S.get hm0 hm1 fun v hv => ?_
  obtain ⟨z, rfl, hz⟩ : ∃ z : Int, v = .int z ∧ (-bigI < z ∧ z < bigI) := by
    simp only [List.mem_cons, List.not_mem_nil, or_false] at hv
    rcases hv with rfl | rfl | rfl
    · exact ⟨_, rfl, by decide⟩
    · exact ⟨_, rfl, by decide⟩
    · exact ⟨_, rfl, by decide⟩
  walk_at "go"
  rw [e29]
  have S : Star H5 (box2 b n :: F) := S.tail
  refine al_l S fun p2 H6 S => ?_
  walk_at "go"
  refine ix_m S.get (by omega) (by show ((d : Nat) : Int) < 3; exact h1) fun v hv => ?_
  have S := S.tail
  simp only [List.mem_cons, List.not_mem_nil, or_false] at hv
  rcases hv with rfl | rfl | rfl
  · exact k _ _ (by unfold bigI; omega) (by unfold bigI; omega) S
  · exact k _ _ hz.1 hz.2 S
  · exact k _ _ (by unfold bigI; omega) (by unfold bigI; omega) S
theorem L_worths_b (S : Star H (box2 b (n + 67) :: F)) (k : ∀ H' D (ws : List Int), 1 ≤ ws.length → ws.length ≤ 16 → (∀ z ∈ ws, -bigI < z ∧ z < bigI) → Star H' (pt D (.lst (ws.map V.int)) :: box2 b n :: F) → Q (.ref D) H') : sp_L_worths K [.ref b] H Q E := by
  refine sp_L_worths_i ?_
  walk_at "go"
  refine take2_ok S (by decide) fun H1 d1 h1 S => ?_
  walk_at "go"
  refine take2_ok S (by decide) fun H2 d2 h2 S => ?_
  walk_at "go"
  refine al_l S fun p H3 S => ?_
  walk_at "go"
  refine take2_ok S.p1 (by decide) fun H4 d3 h3 S => ?_
  walk_at "go"
  refine ix_m S.p1.get (by omega) (by show ((d3 : Nat) : Int) < 3; exact h3) fun v hv => ?_
  have S : Star H4 (box2 b (n + 64) :: F) := S.p1.tail
  obtain ⟨m, rfl, hm⟩ : ∃ m : Nat, v = .int (m : Nat) ∧ 1 ≤ m ∧ m ≤ 16 := by
    simp only [List.mem_cons, List.not_mem_nil, or_false] at hv
    rcases hv with rfl | rfl | rfl
    · exact ⟨d1 + 1, by congr 1; omega, by omega, by omega⟩
    · exact ⟨16, rfl, by omega, by omega⟩
    · exact ⟨d2 + 1, by congr 1; omega, by omega, by omega⟩
  walk_at "go"
  intro D hD
  refine lc_turns _ (fun x H Q q => q) walk_rng (by rw [List.length_map, List.length_range]; omega) hD (fun i acc => pr (∃ ws : List Int, acc = ws.map V.int ∧ ws.length = i ∧ ∀ z ∈ ws, -bigI < z ∧ z < bigI) :: box2 b (n + 4 * (16 - i)) :: F) (Star.pr_iff.mpr ⟨⟨[], rfl, rfl, fun z h => nomatch h⟩, S⟩) (fun _ _ _ _ => True.intro) (fun x => rfl) ?_ ?_
  · intro i x H1 acc R hx ha S kk
    have hi := (List.getElem?_eq_some_iff.mp hx).1
    rw [List.length_map, List.length_range] at hi
    have ef : n + 4 * (16 - i) = n + 4 * (16 - (i + 1)) + 4 := by omega
    rw [ef] at S
    have S1 : Star H1 (pr (∃ ws : List Int, acc = ws.map V.int ∧ ws.length = i ∧ ∀ z ∈ ws, -bigI < z ∧ z < bigI) :: box2 b (n + 4 * (16 - (i + 1)) + 4) :: pt D (.lst acc) :: F) := S.fr (by walk_at "fr")
    obtain ⟨⟨ws, e1, e2, e3⟩, S1⟩ := Star.pr_iff.mp S1
    walk_at "go"
    refine L_worth_b S1 fun H2 d hd1 hd2 S => ?_
    refine kk _ _ ?_
    have S2 : Star H2 (pr (∃ ws : List Int, acc ++ [.int d] = ws.map V.int ∧ ws.length = i + 1 ∧ ∀ z ∈ ws, -bigI < z ∧ z < bigI) :: box2 b (n + 4 * (16 - (i + 1))) :: pt D (.lst acc) :: F) := by
      refine Star.pr_iff.mpr ⟨⟨ws ++ [d], by rw [e1, List.map_append]; rfl, by rw [List.length_append, e2]; rfl, fun z hz => ?_⟩, S⟩
      rcases List.mem_append.mp hz with q | q
      · exact e3 z q
      · rw [List.mem_singleton.mp q]
        exact ⟨hd1, hd2⟩
    exact S2.fr (by walk_at "fr")
  · intro H1 acc hl S
    rw [List.length_map, List.length_range] at S
    have S1 := Star.fr S (Fr.c1 (Fr.c0 (Fr.refl _)))
    obtain ⟨⟨ws, e1, e2, e3⟩, S1⟩ := Star.pr_iff.mp S1
    subst e1
    have S2 : Star H1 (box2 b (n + 4 * (16 - ((m : Nat) : Int).toNat)) :: pt D (.lst (ws.map V.int)) :: F) := S1.fr (by walk_at "fr")
    exact k _ D ws (by omega) (by omega) e3 (box2_le (by omega) S2).p1
theorem L_one_of_b {xs : List Nat} (S : Star H (box2 b (n + 2) :: pt a (.lst (xs.map nV)) :: F)) (h1 : 1 ≤ xs.length) (h2 : xs.length ≤ 1000) (k : ∀ H' x, x ∈ xs → Star H' (box2 b n :: pt a (.lst (xs.map nV)) :: F) → Q (nV x) H') : sp_L_one_of K [.ref b, .ref a] H Q E := by
  refine sp_L_one_of_i ?_
  walk_at "go"
  refine take2_ok S (by decide) fun H1 d hd S => ?_
  walk_at "go"
  rw [List.length_map]
  refine take2_ok S (by omega) fun H2 e he S => ?_
  walk_at "go"
  refine ix_m (xs := xs.map nV) S.p1.get (by omega) (by rw [List.length_map]; omega) fun v1 hv1 => ?_
  walk_at "go"
  refine ix_m (xs := xs.map nV) (i := 0) S.p1.get (by omega) (by rw [List.length_map]; omega) fun v2 hv2 => ?_
  walk_at "go"
  obtain ⟨l, hl⟩ : ∃ l, (xs.map nV).getLast? = some l := by
    cases hx : (xs.map nV).getLast? with
    | some l => exact ⟨l, rfl⟩
    | none =>
      have := List.getLast?_eq_none_iff.mp hx
      have : xs.length = 0 := by rw [← List.length_map (f := nV), this]; rfl
      omega
  refine ix_l (v := l) S.p1.get (atI_last hl) ?_
  have hv3 := List.mem_of_getLast? hl
  walk_at "go"
  refine al_l S fun p H3 S => ?_
  walk_at "go"
  refine ix_m S.get (by omega) (by show ((d : Nat) : Int) < 3; exact hd) fun v hv => ?_
  have S := S.tail
  have hv4 : v ∈ xs.map nV := by
    simp only [List.mem_cons, List.not_mem_nil, or_false] at hv
    rcases hv with rfl | rfl | rfl
    · exact hv1
    · exact hv2
    · exact hv3
  obtain ⟨x, hx, rfl⟩ := List.mem_map.mp hv4
  exact k _ x hx S
end
end Lawk44

namespace Lawk44
open PySem PySem.Spec PyProof.Rows L2 MK
instance {q : Addr} {n : Nat} : UlC (box2 q n) := by unfold box2; infer_instance
instance {tr : List Nat} {l : Addr} : UlC (lpp tr l) := by unfold lpp; infer_instance
instance {K : PySem.W.Frag} {b : Bool} {t : Addr} {tr : List Nat} : UlC (tre K b t tr) := by
  cases b with
  | true =>
    show UlC (treL K t tr)
    unfold treL
    infer_instance
  | false =>
    show UlC (treM K t tr)
    unfold treM
    infer_instance
end Lawk44

namespace Lawk44
open PySem PySem.Spec PyProof.Rows L2 MK
instance {K : PySem.W.Frag} {t : Addr} {r : List (Nat × Nat)} {g tm : Nat} : UlC (ord K t r g tm) := by unfold ord; infer_instance
instance {K : PySem.W.Frag} {o : BoxedO} {s : RS} {x : BoxedX} : UlC (BoxedH K o s x) := by unfold BoxedH; infer_instance
instance {K : PySem.W.Frag} {t : Addr} {s : RS} {c : Int} {x : BoxedX} : UlC (BoxedP K t s c x) := by unfold BoxedP; infer_instance
end Lawk44

namespace Lawk44
open PySem PySem.Spec PyProof.Rows L2 MK
theorem st_cut {s : RS} {m lo hi : Nat} (hh : hi ≤ s.ws.length) : ((s.line m).drop lo).take (hi - lo) = s.st m lo hi := by
  unfold RS.st
  refine List.ext_getElem? fun i => ?_
  by_cases hi2 : i < hi - lo
  · rw [List.getElem?_take_of_lt hi2, List.getElem?_drop, RS.line_at (by omega), List.getElem?_map, List.getElem?_range hi2]
    rfl
  · rw [List.getElem?_eq_none (by rw [List.length_take]; omega), List.getElem?_eq_none (by rw [List.length_map, List.length_range]; omega)]
theorem st_len {s : RS} {m lo hi : Nat} : (s.st m lo hi).length = hi - lo := by
  unfold RS.st
  rw [List.length_map, List.length_range]
/-- a number and a list of numbers -/
theorem repr_nl {K : PySem.W.Frag} {F : List SP} {H : Hp} {Q : VK} {f g : Addr} {n : Nat} {xs : List Nat} (S : Star H (pt f (.lst [nV n, .ref g]) :: pt g (.lst (xs.map nV)) :: F)) (hn : n ≤ 1000) (hl : xs.length ≤ 900) (hx : ∀ x ∈ xs, x ≤ 1000) (k : Q (.str (PyData.list [.int (n : Nat), .list (xs.map fun k => .int (k : Nat))]).shown) H) : reprX K (.ref f) H Q := by
  have hni : Ni 2 5000 (.list [.int (n : Nat), .list (xs.map fun k => .int (k : Nat))]) := ni_l (n := 1) (m := 2000) (fa1 (ni_i (by omega)) (fa1 (ni_ints (by omega) hx) fa0)) (by decide) (show 2 * (2000 + 1) ≤ 5000 by decide)
  exact repr_D (d := .list [.int (n : Nat), .list (xs.map fun k => .int (k : Nat))]) (S.fr (Fr.lst (Fr.c0 (Fr.dsc (Fr.int (Fr.dsc (Fr.lst (xs := xs.map nV) (Fr.c0 (Fr.ints (Fr.ds0 (Fr.refl _)))))))))) : Star H (dat (.ref f) (.list [.int (n : Nat), .list (xs.map fun k => .int (k : Nat))]) :: F)) (Ni.rep hni (by decide) (by decide)) k
end Lawk44

namespace Lawk44
open PySem PySem.Spec PyProof.Rows L2 MK
section
variable {K : PySem.W.Frag} {F : List SP} {H : Hp} {Q : VK} {E : XK} {b t q : Addr} {s : RS} {c : Int} {n : Nat} {P : Pool}
/-- a kept make let go in the model -/
theorem kept_rem {a : Addr} {m : Nat} {R : VK} (S : Star H (pt a (.lst ((keptN s.gn).map nV)) :: F)) (hm : m ∈ keptN s.gn) (k : ∀ H', Star H' (pt a (.lst ((keptN (s.go m).gn).map nV)) :: F) → R .non H') : opRem (.ref a) [nV m] H R := by
  obtain ⟨j, hj, ej⟩ := List.mem_iff_getElem.mp hm
  have hj1 : (keptN s.gn)[j]? = some m := by rw [List.getElem?_eq_getElem hj, ej]
  have e : (keptN s.gn).map nV = ((keptN s.gn).map fun i => ((i : Nat) : Int)).map V.int := by rw [List.map_map]; rfl
  have hnd := kept_nd (gn := s.gn)
  rw [e] at S
  refine rem_S (k := ((m : Nat) : Int)) (j := j) S (by rw [List.getElem?_map, hj1]; rfl) (fun i hi z => ?_) fun H' S => k _ ?_
  · rw [List.getElem?_map] at z
    obtain ⟨y, hy, ey⟩ := Option.map_eq_some_iff.mp z
    obtain ⟨hi2, ei⟩ := List.getElem?_eq_some_iff.mp hy
    have : y = m := by omega
    subst this
    exact List.pairwise_iff_getElem.mp hnd i j hi2 hj hi (ei.trans ej.symm)
  · have e2 : ((keptN s.gn).map fun i => ((i : Nat) : Int)).eraseIdx j = ((keptN (s.go m).gn).map fun i => ((i : Nat) : Int)) := by
      rw [RS.kept_go, ← erase_flt hnd hj1, erase_map]
    rw [e2, List.map_map] at S
    exact S
theorem L_put_b (S : Star H (box2 b (n + 9) :: mdB q P s :: pool P :: F))
    (k : ∀ H' T m p z, m ∈ keptN s.gn → p < s.ws.length → (-bigI < z ∧ z < bigI) → Star H' (fx T (.tup [nV m, nV p, .int z]) :: box2 b n :: mdB q P s :: pool P :: F) → Q (.ref T) H') : sp_L_put K [.ref b, .ref q, nV s.ws.length] H Q E := by
  have ok := mdB_ok S.p1
  have hf := ok.row.few
  have hle := ok.row.le
  have hne := ok.row.ne
  have hone := ok.one
  have hkl := kept_len (gn := s.gn)
  have hgl := ok.len
  refine sp_L_put_i ?_
  walk_at "go"
  refine mdB_kept2 S.p1 fun a S => ?_
  walk_at "go"
  refine L_one_of_b (b := b) (n := n + 7) (F := mdBk q P s a :: pool P :: F) (S.fr (by walk_at "fr")) hone (by omega) fun H1 m hm S => ?_
  have S : Star H1 (box2 b (n + 7) :: mdB q P s :: pool P :: F) := (mdB_back (S.fr (by walk_at "fr") : Star H1 (pt a (.lst ((keptN s.gn).map nV)) :: mdBk q P s a :: pool P :: box2 b (n + 7) :: F))).fr (by walk_at "fr")
  have hml := ok.lt hm
  walk_at "go"
  refine take2_ok (q := b) (n := n + 6) S (by omega) fun H2 d1 hd1 S => ?_
  walk_at "go"
  refine al_l S fun l H10 S => ?_
  walk_at "go"
  refine take2_ok (q := b) (n := n + 5) S.p1 (by decide) fun H11 d2 hd2 S => ?_
  walk_at "w"
  refine ix_m S.p1.get (by omega) (by show ((d2 : Nat) : Int) < 3; exact hd2) fun v hv => ?_
  obtain ⟨p, hp, rfl⟩ : ∃ p : Nat, p < s.ws.length ∧ v = nV p := by
    simp only [List.mem_cons, List.not_mem_nil, or_false] at hv
    rcases hv with rfl | rfl | rfl
    · exact ⟨d1, by omega, rfl⟩
    · exact ⟨0, by omega, rfl⟩
    · exact ⟨s.ws.length - 1, by omega, by show V.int ((s.ws.length : Int) - 1) = V.int ((s.ws.length - 1 : Nat) : Int); congr 1; omega⟩
  have S : Star H11 (box2 b (n + 5) :: mdB q P s :: pool P :: F) := S.fr (by walk_at "fr")
  walk_at "go"
  refine L_worth_b (n := n + 1) S fun H12 z1 hz1 hz2 S => ?_
  walk_at "go"
  refine mdB_rows S.p1 fun ro rv hr hro => ?_
  obtain ⟨r0, hr01, hr02⟩ := hr.at' m hml
  walk_at "go"
  refine ix_l hro (atI_n hr01) ?_
  walk_at "go"
  refine ix_l (pool_get S.p2 hr02) (atI_n (by rw [List.getElem?_map, RS.line_at hp]; rfl)) ?_
  walk_at "go"
  refine al_l S fun l3 H13 S => ?_
  walk_at "go"
  refine take2_ok (q := b) (n := n) S.p1 (by decide) fun H14 d6 hd6 S => ?_
  walk_at "go"
  refine ix_m S.p1.get (by split <;> omega) (by show (if _ then (1 : Int) else 0) < 2; split <;> omega) fun v hv => ?_
  obtain ⟨z, rfl, hz⟩ : ∃ z : Int, v = .int z ∧ (-bigI < z ∧ z < bigI) := by
    simp only [List.mem_cons, List.not_mem_nil, or_false] at hv
    rcases hv with rfl | rfl
    · exact ⟨_, rfl, hz1, hz2⟩
    · exact ⟨_, rfl, ok.vbig hml hp⟩
  walk_at "go"
  refine al_t S fun T H15 S => ?_
  exact k _ T m p z hm hp hz (S.fr (by walk_at "fr"))
end
end Lawk44


namespace Lawk44
open PySem PySem.Spec PyProof.Rows L2 MK
section
variable {K : PySem.W.Frag} {F : List SP} {H : Hp} {Q : VK} {E : XK} {b t q : Addr} {s : RS} {c : Int} {n p : Nat} {P : Pool}
theorem runs_app1 {f : Nat → Nat} {A : List Nat} {x : Nat} : (A = [] ∧ runs f (A ++ [x]) = [x]) ∨ ∃ y, (runs f A).getLast? = some y ∧ runs f (A ++ [x]) = runs f A ++ (if f x = f y then [] else [x]) := by
  have h := runs_step (f := f) (l := A ++ [x]) (j := A.length) (x := x) (by rw [List.getElem?_append_right (Nat.le_refl _), Nat.sub_self]; rfl)
  have e1 : (A ++ [x]).take (A.length + 1) = A ++ [x] := List.take_of_length_le (by rw [List.length_append]; exact Nat.le_refl _)
  have e2 : (A ++ [x]).take A.length = A := List.take_left
  rw [e1, e2] at h
  rcases h with ⟨h1, h2, _⟩ | h
  · exact .inl ⟨List.length_eq_zero_iff.mp h1, h2⟩
  · exact .inr h
theorem take_flt {l : List Nat} {f : Nat → Bool} {j x : Nat} (hx : l[j]? = some x) : (l.take (j + 1)).filter f = (l.take j).filter f ++ (if f x = true then [x] else []) := by
  have e : l.take (j + 1) = l.take j ++ [x] := by rw [List.take_succ, hx]; rfl
  rw [e, List.filter_append]
  congr 1
  by_cases h : f x = true
  · rw [if_pos h, List.filter_cons_of_pos h, List.filter_nil]
  · rw [if_neg h, List.filter_cons_of_neg h, List.filter_nil]
theorem L_come_b (S : Star H (mdB q P s :: F)) (k : ∀ H' D, Star H' (pt D (.lst ((lnO s.tr).map nV)) :: mdB q P s :: F) → Q (.ref D) H') : sp_L_come K [.ref q] H Q E := by
  have ok := mdB_ok S
  have hf := ok.row.few
  refine sp_L_come_i ?_
  walk_at "go"
  refine al_l S fun D H1 S => ?_
  walk_at "go"
  refine mdB_owners S.p1 fun ow how => ?_
  walk_at "go"
  refine len_l how ?_
  rw [osV_len]
  walk_at "go"
  refine Loop.range (fun i σ H => ∃ y2, Star H (pt D (.lst ((lnO (s.tr.take i)).map nV)) :: mdB q P s :: F) ∧ σ = [some (.ref q), some (.ref D), y2]) ⟨_, S, rfl⟩ ?_ ?_
  · rintro i σ H2 hi ⟨y2, S, rfl⟩
    have hi : i < s.tr.length := by omega
    have e0 : (1 : Int) + ((i : Nat) : Int) = ((i + 1 : Nat) : Int) := by omega
    obtain ⟨m, hm⟩ : ∃ m, s.tr[i]? = some m := ⟨_, List.getElem?_eq_getElem hi⟩
    have hmi := (ok.row.tree.step i m hm).1
    obtain ⟨k1, k2⟩ := lnO_key ok.row.tree i (by omega)
    obtain ⟨j, hj, ej⟩ := List.mem_iff_getElem.mp ((k1 m).mpr (by omega))
    have hj1 : (lnO (s.tr.take i))[j]? = some m := by rw [List.getElem?_eq_getElem hj, ej]
    have hll : (lnO (s.tr.take i)).length ≤ i + 1 := nd_len k2 fun x hx => (k1 x).mp hx
    have htl : (s.tr.take i).length = i := by rw [List.length_take]; omega
    have e1 : s.tr.take (i + 1) = s.tr.take i ++ [m] := by rw [List.take_succ, hm]; rfl
    rw [e0]
    walk_at "go"
    refine mdB_owners S.p1 fun ow how => ?_
    walk_at "go"
    refine ix_l how (atI_n (x := nV m) (by rw [osV_succ, hm]; rfl)) ?_
    walk_at "go"
    refine idx_S (x := m) (j := j) S hj1 (fun i' hi' z => ?_) ?_
    · obtain ⟨hi2, ei⟩ := List.getElem?_eq_some_iff.mp z
      exact List.pairwise_iff_getElem.mp k2 i' j hi2 hj hi' (ei.trans ej.symm)
    have e2 : ((j : Nat) : Int) + 1 = ((j + 1 : Nat) : Int) := by omega
    walk_at "go"
    rw [e2]
    refine ins_S (k := j + 1) S (by rw [List.length_map]; omega) (by rw [List.length_map]; omega) fun H3 S => ?_
    walk_at "w"
    refine ⟨_, ?_, rfl⟩
    have e3 : ((lnO (s.tr.take i)).map nV).take (j + 1) ++ [V.int ((i + 1 : Nat) : Int)] ++ ((lnO (s.tr.take i)).map nV).drop (j + 1) = (lnO (s.tr.take (i + 1))).map nV := by
      rw [e1, lnO_snoc, htl, insB_at k2 hj1, List.map_append, List.map_cons, List.map_take, List.map_drop, List.append_assoc]
      rfl
    rw [← e3]
    exact S
  · rintro σ H2 ⟨y2, S, rfl⟩
    have e1 : (((s.tr.length + 1 : Nat) : Int) - 1).toNat = s.tr.length := by omega
    rw [e1, List.take_length] at S
    walk_at "go"
    exact k _ D S
theorem L_runs_b (S : Star H (mdB q P s :: pool P :: F)) (hp : p < s.ws.length) (k : ∀ H' v, Star H' (dat v (.list (runT s p)) :: mdB q P s :: pool P :: F) → Q v H') : sp_L_runs K [.ref q, nV p] H Q E := by
  have ok := mdB_ok S
  have hf := ok.row.few
  obtain ⟨k1, k2⟩ := lnO_ok ok.row.tree
  have hll : (lnO s.tr).length ≤ s.tr.length + 1 := nd_len k2 fun x hx => (k1 x).mp hx
  refine sp_L_runs_i ?_
  walk_at "go"
  refine al_l S fun D H1 S => ?_
  walk_at "go"
  refine L_come_b S.p1 fun H2 D2 S => ?_
  walk_at "go"
  refine it_l S.get ?_
  have S : Star H2 (dats [] ((runs (wrF s p) (((lnO s.tr).take 0).filter (keepB s.gn))).map (trn s p)) :: pt D (.lst []) :: pt D2 (.lst ((lnO s.tr).map nV)) :: mdB q P s :: pool P :: F) := dats_n.mpr ⟨rfl, S.fr (by walk_at "fr")⟩
  refine Loop.list (fun j σ H => ∃ (ys : List V) (y3 y4 : Option V), Star H (dats ys ((runs (wrF s p) (((lnO s.tr).take j).filter (keepB s.gn))).map (trn s p)) :: pt D (.lst ys) :: pt D2 (.lst ((lnO s.tr).map nV)) :: mdB q P s :: pool P :: F) ∧ σ = [some (.ref q), some (nV p), some (.ref D), y3, y4]) ⟨[], _, _, S, rfl⟩ (fun j σ H _ ⟨_, _, _, z, _⟩ => .of z.p2.get) ?_ ?_
  · rintro j v σ H4 hv2 ⟨ys, y3, y4, S, rfl⟩
    rw [List.getElem?_map] at hv2
    obtain ⟨x0, hx0, rfl⟩ := Option.map_eq_some_iff.mp hv2
    have hxl2 : x0 < s.tr.length + 1 := (k1 x0).mp (List.mem_of_getElem? hx0)
    have hj := (List.getElem?_eq_some_iff.mp hx0).1
    have etf := take_flt (f := keepB s.gn) hx0
    walk_at "go"
    refine mdB_kept S.p3 fun a ha => ?_
    walk_at "go"
    have ekv : (keptN s.gn).map nV = ((keptN s.gn).map fun i => ((i : Nat) : Int)).map V.int := by rw [List.map_map]; rfl
    refine in_l ha rfl (by rw [List.all_map]; exact List.all_eq_true.mpr fun _ _ => rfl) ?_
    rw [if_neg Bool.false_ne_true, ekv, inV_ints]
    have edk : decide (((x0 : Nat) : Int) ∈ (keptN s.gn).map fun i => ((i : Nat) : Int)) = keepB s.gn x0 := by
      rw [Bool.eq_iff_iff, decide_eq_true_iff, List.mem_map]
      constructor
      · rintro ⟨y, hy, ey⟩
        have : y = x0 := by omega
        exact this ▸ keepB_of hy
      · intro h
        exact ⟨x0, List.mem_filter.mpr ⟨List.mem_range.mpr (by rw [ok.len]; exact hxl2), h⟩, rfl⟩
    rw [edk]
    walk_at "go"
    refine br (fun hb => ?_) (fun hb => ?_)
    · rw [hb, if_pos rfl] at etf
      generalize hA : ((lnO s.tr).take j).filter (keepB s.gn) = A at S etf
      have hAl : A.length ≤ 64 := by
        have := List.length_filter_le (keepB s.gn) ((lnO s.tr).take j)
        rw [hA, List.length_take] at this
        omega
      have hAm : ∀ x ∈ A, x < s.tr.length + 1 := fun x hx => by
        rw [← hA] at hx
        exact (k1 x).mp (List.mem_of_mem_take (List.mem_filter.mp hx).1)
      walk_at "go"
      refine L_last_b S.p3 hxl2 ?_
      have hyl : ys.length = (runs (wrF s p) A).length := by
        have := S.dlen
        rw [List.length_map] at this
        exact this
      have hrl : (runs (wrF s p) A).length ≤ 64 := Nat.le_trans runs_len hAl
      have hni := (trn_ni (l := runs (wrF s p) A) ok hp hrl (fun m hm => hAm m (runs_sub m hm))).shd trn_pl
      walk_at "go"
      refine al_l S fun E0 H5 S => ?_
      walk_at "w"
      have dp1 : Dp K H5 (.ref D) (.list ((runs (wrF s p) A).map (trn s p))) := Star.dp (F := []) (dat_l.mpr ⟨D, ys, rfl, S.fr (by walk_at "fr")⟩) (trn_pl (s := s) (p := p)).nd
      have dp2 : Dp K H5 (.ref E0) (.list []) := Star.dp (F := []) (dat_l.mpr ⟨E0, [], rfl, S.fr (Fr.c0 (Fr.ds0 (Fr.nil _)))⟩) rfl
      refine eq_d dp1 dp2 hni rfl ?_
      have fin : ∀ H6, Star H6 (dats ys ((runs (wrF s p) A).map (trn s p)) :: pt D (.lst ys) :: pt D2 (.lst ((lnO s.tr).map nV)) :: mdB q P s :: pool P :: F) → runs (wrF s p) (((lnO s.tr).take (j + 1)).filter (keepB s.gn)) = runs (wrF s p) A ++ [x0] → True := fun _ _ _ => True.intro
      rcases runs_app1 (f := wrF s p) (A := A) (x := x0) with ⟨hA0, hs1⟩ | ⟨y, hy, hst⟩
      · have eq : PyData.eqv (.list ((runs (wrF s p) A).map (trn s p))) (.list []) = true := by
          rw [hA0]
          rfl
        rw [eq]
        have hst2 : runs (wrF s p) (((lnO s.tr).take (j + 1)).filter (keepB s.gn)) = runs (wrF s p) A ++ [x0] := by
          rw [etf, hs1, hA0]
          rfl
        walk_at "go"
        refine mdB_rows (S.fr (by walk_at "fr") : Star H5 (mdB q P s :: [])) fun ro rv hr hro => ?_
        obtain ⟨r, hr1, hr2⟩ := hr.at' x0 hxl2
        walk_at "go"
        refine ix_l hro (atI_n hr1) ?_
        walk_at "go"
        refine ix_l (pool_get (S.fr (by walk_at "fr") : Star H5 (pool P :: [])) hr2) (atI_n (by rw [List.getElem?_map, RS.line_at hp]; rfl)) ?_
        walk_at "go"
        refine al_t S fun T6 H6 S => ?_
        walk_at "go"
        refine app_S (a := D) (xs := ys) (S.fr (by walk_at "fr")) (by omega) fun H7 S => ?_
        walk_at "w"
        have T7 : Star H7 (dat (.ref T6) (trn s p x0) :: dats ys ((runs (wrF s p) A).map (trn s p)) :: pt D (.lst (ys ++ [.ref T6])) :: pt D2 (.lst ((lnO s.tr).map nV)) :: mdB q P s :: pool P :: F) := dat_tz.mpr ⟨T6, rfl, S.fr (Fr.c1 (by walk_at "fr"))⟩
        have T8 := Star.snoc (T7.fr (Fr.c1 (Fr.c0 (Fr.refl _))))
        have e9 : (runs (wrF s p) A).map (trn s p) ++ [trn s p x0] = (runs (wrF s p) (((lnO s.tr).take (j + 1)).filter (keepB s.gn))).map (trn s p) := by
          rw [hst2, List.map_append]
          rfl
        rw [e9] at T8
        exact ⟨ys ++ [.ref T6], _, _, T8.fr (by walk_at "fr"), rfl⟩
      · have hne : runs (wrF s p) A ≠ [] := fun z => by rw [z] at hy; cases hy
        have eq : PyData.eqv (.list ((runs (wrF s p) A).map (trn s p))) (.list []) = false := by
          cases hr : runs (wrF s p) A with
          | nil => exact absurd hr hne
          | cons a r => rfl
        rw [eq]
        have hpos : 0 < (runs (wrF s p) A).length := List.length_pos_iff.mpr hne
        rw [List.getLast?_eq_getElem?] at hy
        obtain ⟨v9, hv9, S9⟩ := Star.take (S.fr (Fr.c1 (Fr.refl _))) (i := (runs (wrF s p) A).length - 1) (d := trn s p y) (by rw [List.getElem?_map, hy]; rfl)
        have S10 := tz_dup (zs := [((y : Nat) : Int), ((s.w y p : Nat) : Int), vlW s.ws s.wr p (s.w y p)]) S9
        obtain ⟨T9, eT, S11⟩ := dat_tz.mp S10
        subst eT
        have S12 := hole_back (S11.fr (Fr.c1 (Fr.c1 (Fr.refl _)))) hv9 (by rw [List.getElem?_map, hy]; rfl)
        have hlast : ys.getLast? = some (.ref T9) := by
          rw [List.getLast?_eq_getElem?, hyl]
          exact hv9
        walk_at "go"
        refine ix_l (S12.fr (qs := [pt D (.lst ys)]) (by walk_at "fr")).get (atI_last hlast) ?_
        walk_at "go"
        refine brn (fun hne2 => ?_) (fun heq => ?_)
        · have hst2 : runs (wrF s p) (((lnO s.tr).take (j + 1)).filter (keepB s.gn)) = runs (wrF s p) A ++ [x0] := by
            rw [etf, hst, if_neg (fun z => hne2 (by have z : s.w x0 p = s.w y p := z; rw [z]))]
          have S := S12
          walk_at "go"
          refine mdB_rows (S.fr (by walk_at "fr") : Star H5 (mdB q P s :: [])) fun ro rv hr hro => ?_
          obtain ⟨r, hr1, hr2⟩ := hr.at' x0 hxl2
          walk_at "go"
          refine ix_l hro (atI_n hr1) ?_
          walk_at "go"
          refine ix_l (pool_get (S.fr (by walk_at "fr") : Star H5 (pool P :: [])) hr2) (atI_n (by rw [List.getElem?_map, RS.line_at hp]; rfl)) ?_
          walk_at "go"
          refine al_t S fun T6 H6 S => ?_
          walk_at "go"
          refine app_S (a := D) (xs := ys) (S.fr (by walk_at "fr")) (by omega) fun H7 S => ?_
          walk_at "w"
          have T7 : Star H7 (dat (.ref T6) (trn s p x0) :: dats ys ((runs (wrF s p) A).map (trn s p)) :: pt D (.lst (ys ++ [.ref T6])) :: pt D2 (.lst ((lnO s.tr).map nV)) :: mdB q P s :: pool P :: F) := dat_tz.mpr ⟨T6, rfl, S.fr (Fr.c1 (by walk_at "fr"))⟩
          have T8 := Star.snoc (T7.fr (Fr.c1 (Fr.c0 (Fr.refl _))))
          have e9 : (runs (wrF s p) A).map (trn s p) ++ [trn s p x0] = (runs (wrF s p) (((lnO s.tr).take (j + 1)).filter (keepB s.gn))).map (trn s p) := by
            rw [hst2, List.map_append]
            rfl
          rw [e9] at T8
          exact ⟨ys ++ [.ref T6], _, _, T8.fr (by walk_at "fr"), rfl⟩
        · have hst2 : runs (wrF s p) (((lnO s.tr).take (j + 1)).filter (keepB s.gn)) = runs (wrF s p) A := by
            rw [etf, hst, if_pos (show s.w x0 p = s.w y p by omega), List.append_nil]
          walk_at "w"
          refine ⟨ys, _, _, ?_, rfl⟩
          rw [hst2]
          exact S12.fr (by walk_at "fr")
    · rw [hb, if_neg Bool.false_ne_true, List.append_nil] at etf
      walk_at "w"
      refine ⟨ys, _, _, ?_, rfl⟩
      rw [etf]
      exact S
  · rintro σ H4 ⟨ys, y3, y4, S, rfl⟩
    rw [List.length_map, List.take_length] at S
    walk_at "go"
    refine k _ (.ref D) ?_
    have S2 : Star H4 (pt D (.lst ys) :: dats ys (runT s p) :: mdB q P s :: pool P :: F) := S.fr (by walk_at "fr")
    exact dat_l.mpr ⟨D, ys, rfl, S2⟩
theorem sum_le {B : Int} : ∀ {l : List Int}, (∀ x ∈ l, 0 ≤ x ∧ x ≤ B) → 0 ≤ l.sum ∧ l.sum ≤ (l.length : Nat) * B
  | [], _ => ⟨Int.le_refl _, by simp⟩
  | x :: l, h => by
    obtain ⟨h1, h2⟩ := h x List.mem_cons_self
    obtain ⟨h3, h4⟩ := sum_le (l := l) fun y hy => h y (List.mem_cons_of_mem _ hy)
    rw [List.sum_cons, List.length_cons, Int.natCast_add, Int.add_mul]
    omega
theorem roomB_le (h : RSok s) : 0 ≤ roomB s ∧ roomB s ≤ 2000 := by
  have hle := h.row.le
  have := sum_le (B := 64) (l := (List.range s.ws.length).map fun p => (((runK s p).length : Nat) : Int)) fun x hx => by
    obtain ⟨p, _, rfl⟩ := List.mem_map.mp hx
    have := runK_len (p := p) h
    omega
  rw [List.length_map, List.length_range] at this
  unfold roomB
  omega
theorem trn_ni2 {l : List Nat} {s : RS} {p : Nat} (h : RSok s) (hp : p < s.ws.length) (hl : l.length ≤ 64) (hm : ∀ m ∈ l, m < s.tr.length + 1) : Ni 2 6500 (.list (l.map (trn s p))) := by
  have hf := h.row.few
  refine ni_l (n := 1) (m := 100) (fun d hd => ?_) (by decide) (by rw [List.length_map]; omega)
  obtain ⟨m, hm1, rfl⟩ := List.mem_map.mp hd
  have h1 := hm m hm1
  have h2 := h.wle (p := p) h1
  have h3 : -bigI < s.v m p ∧ s.v m p < bigI := h.vbig h1 hp
  have h4 : s.v m p = vlW s.ws s.wr p (s.w m p) := rfl
  rw [h4] at h3
  unfold bigI at h3
  exact ni_t (n := 0) (m := 20) (fa1 (ni_i (by omega)) (fa1 (ni_i (by omega)) (fa1 (ni_i (by omega)) fa0))) (by decide) (show 3 * (20 + 1) ≤ 100 by decide)
theorem runs_ni (h : RSok s) : RepOk (.list (runsT s)) := by
  have hle := h.row.le
  refine Ni.rep (n := 3) (m := 110000) (ni_l (n := 2) (m := 6500) (fun d hd => ?_) (by decide) (by rw [runsT_len]; omega)) (by decide) (by decide)
  unfold runsT at hd
  obtain ⟨p, hp, rfl⟩ := List.mem_map.mp hd
  exact trn_ni2 h (List.mem_range.mp hp) (runK_len h) fun m hm => runK_lt h hm
theorem L_tells_b (S : Star H (BoxedP K t s c () :: mdB q P s :: pool P :: F)) (k : ∀ H', Star H' (BoxedP K t s c () :: mdB q P s :: pool P :: F) → Q (.bl true) H') : sp_L_tells K [.ref t, .ref q] H Q E := by
  have ok := mdB_ok S.p1
  have hf := ok.row.few
  have hle := ok.row.le
  have hne := ok.row.ne
  have hll := ln_len ok
  obtain ⟨k1, k2⟩ := lnO_ok ok.row.tree
  have hol : (lnO s.tr).length ≤ s.tr.length + 1 := nd_len k2 fun x hx => (k1 x).mp hx
  refine sp_L_tells_i ?_
  walk_at "go"
  refine mdB_rows S.p1 fun ro rv hr hro => ?_
  obtain ⟨r, hr1, hr2⟩ := hr.at' 0 (Nat.succ_pos _)
  walk_at "go"
  refine ix_l hro (atI_n (i := 0) hr1) ?_
  walk_at "go"
  refine len_l (pool_get S.p2 hr2) ?_
  rw [List.length_map, RS.line_len]
  walk_at "go"
  intro D hD
  refine lc_rngD (n := s.ws.length) _ (fun p => .list (runT s p)) S (by omega) hD (fun x H Q q => q) (fun x => rfl) ?_ fun H1 ys S => ?_
  · intro j H1 Z R hj S r1
    walk_at "go"
    refine L_runs_b (q := q) (P := P) (s := s) (p := j) (F := Z :: BoxedP K t s c () :: F) (S.fr (by walk_at "fr")) hj fun H2 v S => ?_
    exact r1 _ v (S.fr (by walk_at "fr"))
  have S : Star H1 (pt D (.lst ys) :: dats ys (runsT s) :: BoxedP K t s c () :: mdB q P s :: pool P :: F) := S
  have hyl : ys.length = s.ws.length := by
    have := S.p1.dlen
    rw [runsT_len] at this
    exact this
  walk_at "go"
  refine Loop.range (fun i σ H => ∃ (y4 y5 y6 : Option V), Star H (pt D (.lst ys) :: dats ys (runsT s) :: BoxedP K t s c () :: mdB q P s :: pool P :: F) ∧ σ = [some (.ref t), some (.ref q), some (.ref D), none, y4, y5, y6, none, none]) ⟨_, _, _, S, rfl⟩ ?_ ?_
  · rintro i σ H2 hi ⟨y4, y5, y6, S, rfl⟩
    walk_at "go"
    intro D5 hD5
    refine lc_rngD (n := ys.length) _ (fun p => .list (runT s p)) S (by omega) hD5 (fun x H Q q => q) (fun x => rfl) ?_ fun H3 us S => ?_
    · intro j H1 Z R hj S r1
      walk_at "go"
      refine dsp_Boxed (t := t) (s := s) (c := c) (x := ()) (F := []) (S.fr (by walk_at "fr")) (by decide +kernel) (by walk_at "mm") ?_
      walk_at "go"
      refine Boxed_box_p (t := t) (s := s) (c := c) (x := ()) (p := j) (F := Z :: pt D (.lst ys) :: dats ys (runsT s) :: mdB q P s :: pool P :: F) (S.fr (by walk_at "fr")) (by omega) fun H2 D2 xs S => ?_
      refine r1 _ (.ref D2) (dat_l.mpr ⟨D2, xs, rfl, ?_⟩)
      exact S.fr (by walk_at "fr")
    have S : Star H3 (pt D5 (.lst us) :: dats us (runsT s) :: pt D (.lst ys) :: dats ys (runsT s) :: BoxedP K t s c () :: mdB q P s :: pool P :: F) := by
      rw [hyl] at S
      exact S
    have hul : us.length = s.ws.length := by
      have := S.p1.dlen
      rw [runsT_len] at this
      exact this
    walk_at "go"
    refine dsp_Boxed (t := t) (s := s) (c := c) (x := ()) (F := []) (S.fr (by walk_at "fr")) (by decide +kernel) (by walk_at "mm") ?_
    walk_at "go"
    refine Boxed_in_order_p (t := t) (s := s) (c := c) (x := ()) (F := pt D5 (.lst us) :: dats us (runsT s) :: pt D (.lst ys) :: dats ys (runsT s) :: mdB q P s :: pool P :: F) (S.fr (by walk_at "fr")) fun H4 D6 S => ?_
    have S : Star H4 (pt D6 (.lst (s.ln.map nV)) :: pt D5 (.lst us) :: dats us (runsT s) :: pt D (.lst ys) :: dats ys (runsT s) :: BoxedP K t s c () :: mdB q P s :: pool P :: F) := S.fr (by walk_at "fr")
    have T1 : Star H4 (dat (.ref D5) (.list (runsT s)) :: []) := dat_l.mpr ⟨D5, us, rfl, S.fr (by walk_at "fr")⟩
    have T2 : Star H4 (dat (.ref D) (.list (runsT s)) :: []) := dat_l.mpr ⟨D, ys, rfl, S.fr (Fr.drop (Fr.drop (Fr.drop (by walk_at "fr"))))⟩
    walk_at "go"
    refine repr_D T1 (runs_ni ok) ?_
    walk_at "go"
    refine repr_D T2 (runs_ni ok) ?_
    walk_at "go"
    refine brn (fun h => absurd rfl h) (fun _ => ?_)
    have hlm : ∀ x ∈ s.ln, x ≤ 1000 := fun x hx => by
      have := ok.lt (ok.ln_mem.mp hx)
      omega
    walk_at "go"
    refine repr_ints S (by omega) hlm ?_
    walk_at "go"
    refine L_come_b (q := q) (P := P) (s := s) (F := pt D6 (.lst (s.ln.map nV)) :: pt D5 (.lst us) :: dats us (runsT s) :: pt D (.lst ys) :: dats ys (runsT s) :: BoxedP K t s c () :: pool P :: F) (S.fr (by walk_at "fr")) fun H5 D7 S => ?_
    walk_at "go"
    refine it_l S.get ?_
    intro D8 hD8
    refine lc_filter (xs := (lnO s.tr).map nV) (p := fun i => keepB s.gn ((lnO s.tr).getD i 0)) (f := fun i => nV ((lnO s.tr).getD i 0)) _ (fun x H Q q => q) walk_list (by rw [List.length_map]; omega) hD8 S (fun H1 acc S => .of S.p1.get) (fun x => rfl) ?_ ?_ fun H6 S => ?_
    · intro i x H1 acc R hx S r1
      rw [List.getElem?_map] at hx
      obtain ⟨m, hm, rfl⟩ := Option.map_eq_some_iff.mp hx
      have egd : (lnO s.tr).getD i 0 = m := by rw [List.getD_eq_getElem?_getD, hm]; rfl
      have r1 := r1 _ S
      rw [egd] at r1
      have hml := (k1 m).mp (List.mem_of_getElem? hm)
      walk_at "go"
      refine mdB_kept (S.fr (by walk_at "fr") : Star H1 (mdB q P s :: [])) fun a ha => ?_
      walk_at "go"
      have ekv : (keptN s.gn).map nV = ((keptN s.gn).map fun i => ((i : Nat) : Int)).map V.int := by rw [List.map_map]; rfl
      refine in_l ha rfl (by rw [List.all_map]; exact List.all_eq_true.mpr fun _ _ => rfl) ?_
      rw [if_neg Bool.false_ne_true, ekv, inV_ints]
      have edk : decide (((m : Nat) : Int) ∈ (keptN s.gn).map fun i => ((i : Nat) : Int)) = keepB s.gn m := by
        rw [Bool.eq_iff_iff, decide_eq_true_iff, List.mem_map]
        constructor
        · rintro ⟨y, hy, ey⟩
          have : y = m := by omega
          exact this ▸ keepB_of hy
        · intro h
          exact ⟨m, List.mem_filter.mpr ⟨List.mem_range.mpr (by rw [ok.len]; exact hml), h⟩, rfl⟩
      rw [edk]
      walk_at "w"
      exact r1
    · intro i x H1 acc R hx _ S r1
      rw [List.getElem?_map] at hx
      obtain ⟨m, hm, rfl⟩ := Option.map_eq_some_iff.mp hx
      have egd : (lnO s.tr).getD i 0 = m := by rw [List.getD_eq_getElem?_getD, hm]; rfl
      have r1 := r1 _ S
      rw [egd] at r1
      walk_at "w"
      exact r1
    have e7 : (((List.range ((lnO s.tr).map nV).length).filter fun i => keepB s.gn ((lnO s.tr).getD i 0)).map fun i => nV ((lnO s.tr).getD i 0)) = s.ln.map nV := by
      rw [List.length_map]
      exact range_flt (l := lnO s.tr) (keepB s.gn) nV 0
    rw [e7] at S
    walk_at "go"
    refine repr_ints S (by omega) hlm ?_
    walk_at "go"
    refine brn (fun h => absurd rfl h) (fun _ => ?_)
    have S : Star H6 (pt D5 (.lst us) :: dats us (runsT s) :: pt D6 (.lst (s.ln.map nV)) :: pt D (.lst ys) :: dats ys (runsT s) :: BoxedP K t s c () :: mdB q P s :: pool P :: F) := S.fr (by walk_at "fr")
    obtain ⟨v9, hv9, S9⟩ := Star.take (S.p1) (i := s.ws.length - 1) (d := .list (runT s (s.ws.length - 1))) (runsT_at (by omega))
    obtain ⟨b9, xs9, e9, S10⟩ := dat_l.mp S9
    subst e9
    have hlast : us.getLast? = some (.ref b9) := by
      rw [List.getLast?_eq_getElem?, hul]
      exact hv9
    walk_at "go"
    refine ix_l (S10.fr (qs := [pt D5 (.lst us)]) (by walk_at "fr")).get (atI_last hlast) ?_
    walk_at "go"
    refine clr_S (a := b9) (xs := xs9) (ps := pt D6 (.lst (s.ln.map nV)) :: pt D (.lst ys) :: dats ys (runsT s) :: BoxedP K t s c () :: mdB q P s :: pool P :: F) (S10.fr (Fr.c0 (Fr.drop (Fr.drop (Fr.drop (by walk_at "fr")))))) fun H7 S => ?_
    walk_at "go"
    refine app_S (a := D6) (xs := s.ln.map nV) S.p1 (by rw [List.length_map]; omega) fun H8 S => ?_
    walk_at "w"
    exact ⟨_, _, _, S.fr (by walk_at "fr"), rfl⟩
  · rintro σ H2 ⟨y4, y5, y6, S, rfl⟩
    have hrb := roomB_le ok
    walk_at "go"
    refine dsp_Boxed (t := t) (s := s) (c := c) (x := ()) (F := []) (S.fr (by walk_at "fr")) (by decide +kernel) (by walk_at "mm") ?_
    walk_at "go"
    refine Boxed_room_p (t := t) (s := s) (c := c) (x := ()) (F := pt D (.lst ys) :: dats ys (runsT s) :: mdB q P s :: pool P :: F) (S.fr (by walk_at "fr")) fun H3 S => ?_
    walk_at "go"
    refine repr_D (dat_i.mpr ⟨rfl, S⟩) (Ni.rep (n := 0) (m := 0) (ni_i (by omega))) ?_
    have S : Star H3 (pt D (.lst ys) :: dats ys (runsT s) :: BoxedP K t s c () :: mdB q P s :: pool P :: F) := S.fr (by walk_at "fr")
    walk_at "go"
    refine it_l S.get ?_
    intro D9 hD9
    refine lc_dat (a := D) (xs := ys) (ds := runsT s) (F := BoxedP K t s c () :: mdB q P s :: pool P :: F) _ (fun _ => true) (fun i => .int (((runK s i).length : Nat) : Int)) (fun x H Q q => q) (by omega) hD9 S (fun x => rfl) (fun i v d Z H1 R _ _ S r => r _ S) ?_ fun H4 zs S => ?_
    · intro i v d Z H1 R hv hd _ S r1
      have hi : i < s.ws.length := by
        have := (List.getElem?_eq_some_iff.mp hv).1
        omega
      rw [runsT_at hi] at hd
      cases hd
      obtain ⟨b, xs, ev, S9⟩ := dat_l.mp S
      subst ev
      have hxl : xs.length = (runK s i).length := by
        have := S9.p1.dlen
        rw [runT_len] at this
        exact this
      walk_at "go"
      rw [hxl]
      refine r1 _ _ (dat_i.mpr ⟨rfl, dat_l.mpr ⟨b, xs, rfl, S9⟩⟩)
    · rw [filt_true, hyl] at S
      have e1 : (List.range s.ws.length).map (fun i => PyData.int (((runK s i).length : Nat) : Int)) = ((List.range s.ws.length).map fun i => (((runK s i).length : Nat) : Int)).map PyData.int := by rw [List.map_map]; rfl
      rw [e1] at S
      obtain ⟨ey, S⟩ := zints.mp S.p1
      subst ey
      walk_at "go"
      refine sum_l S.get ?_
      have er : ((List.range s.ws.length).map fun i => (((runK s i).length : Nat) : Int)).sum = roomB s := rfl
      rw [er]
      walk_at "go"
      refine repr_D (dat_i.mpr ⟨rfl, S⟩) (Ni.rep (n := 0) (m := 0) (ni_i (by omega))) ?_
      walk_at "go"
      rw [decide_eq_true rfl]
      exact k _ (S.fr (by walk_at "fr"))
theorem L_refused_b {v : V} {d : PyData} (S : Star H (dat v d :: BoxedP K t s c () :: F)) (hb : wholeD d 0 ((s.ws.length : Int) - 1) = false) (k : ∀ H' f, Star H' (pt f (.lst [v]) :: dat v d :: BoxedP K t s c () :: F) → Q (.ref f) H') : sp_L_refused K [.ref t, v] H Q E := by
  refine sp_L_refused_i ?_
  walk_at "go"
  refine dsp_Boxed S.p1 (by decide +kernel) (by walk_at "mm") ?_
  walk_at "go"
  refine Boxed_box_bad S hb fun H1 e S => ?_
  refine was_y (by walk_at "mm") fun ea he => ?_
  walk_at "go"
  refine ⟨⟨rfl, rfl⟩, ?_⟩
  refine exi_i S.get (by walk_at "mm") ?_
  walk_at "go"
  refine exf_i S.get (by walk_at "mm") rfl ?_
  walk_at "go"
  refine al_l S fun f H2 S => ?_
  walk_at "go"
  exact k _ f (S.fr (by walk_at "fr"))
end
end Lawk44

namespace Lawk44
open PySem PySem.Spec PyProof.Rows L2 MK
section
variable {K : PySem.W.Frag} {F : List SP} {H : Hp} {Q : VK} {E : XK} {b t q fr : Addr} {s : RS} {c z : Int} {n m p : Nat} {P : Pool}
theorem L_put_bn {N : Nat} (hN : N = s.ws.length) (S : Star H (box2 b (n + 9) :: mdB q P s :: pool P :: F))
    (k : ∀ H' T m p z, m ∈ keptN s.gn → p < s.ws.length → (-bigI < z ∧ z < bigI) → Star H' (fx T (.tup [nV m, nV p, .int z]) :: box2 b n :: mdB q P s :: pool P :: F) → Q (.ref T) H') : sp_L_put K [.ref b, .ref q, nV N] H Q E := by
  subst hN
  exact L_put_b S k
theorem chs_fz {cs : List (Nat × Int)} : ∀ d ∈ cs.map chD, ∃ zs, d = tz zs := fun d hd => by
  obtain ⟨x, _, rfl⟩ := List.mem_map.mp hd
  exact ⟨[((x.1 : Nat) : Int), x.2], rfl⟩
theorem L_all_put_b (S : Star H (pt fr (.lst [nV m, nV p, .int z]) :: box2 b (n + 7) :: BoxedP K t s c () :: mdB q P s :: pool P :: F)) (hm : m ∈ keptN s.gn) (hp : p < s.ws.length) (hz : -bigI < z ∧ z < bigI)
    (k : ∀ H' s' c' P', s'.ws = s.ws → (∀ x ∈ P, x ∈ P') → Star H' (box2 b n :: BoxedP K t s' c' () :: mdB q P' s' :: pool P' :: F) → Q (.bl true) H') : sp_L_all_put K [.ref b, .ref t, .ref q, .ref fr] H Q E := by
  have ok := mdB_ok S.p3
  have hf := ok.row.few
  have hle := ok.row.le
  have hne := ok.row.ne
  have hml := ok.lt hm
  refine sp_L_all_put_i ?_
  walk_at "w"
  try unfold gU
  refine unp_l S.get rfl ?_
  have S : Star H (box2 b (n + 7) :: BoxedP K t s c () :: mdB q P s :: pool P :: F) := S.tail
  walk_at "go"
  refine mdB_rows S.p2 fun ro rv hr hro => ?_
  walk_at "go"
  refine len_l hro ?_
  rw [hr.len]
  walk_at "go"
  refine brd (fun h0 => ?_) (fun h0 => ?_)
  · walk_at "go"
    exact k _ s c P rfl (fun x hx => hx) (box2_le (by omega) S)
  have hf2 : s.tr.length < 63 := by omega
  obtain ⟨rm, erm⟩ : ∃ rm : Nat, rm = 63 - s.tr.length := ⟨_, rfl⟩
  have erm2 : (64 : Int) - ((s.tr.length + 1 : Nat) : Int) = (rm : Nat) := by omega
  rw [erm2]
  walk_at "go"
  refine al_t S fun T1 H5 S => ?_
  walk_at "go"
  refine mdB_rows (S.fr (by walk_at "fr") : Star H5 (mdB q P s :: [])) fun ro rv hr hro => ?_
  obtain ⟨r, hr1, hr2⟩ := hr.at' 0 (Nat.succ_pos _)
  walk_at "go"
  refine ix_l hro (atI_n (i := 0) hr1) ?_
  walk_at "go"
  refine len_l (pool_get (S.fr (by walk_at "fr") : Star H5 (pool P :: [])) hr2) ?_
  rw [List.length_map, RS.line_len]
  walk_at "go"
  refine take2_ok (q := b) (n := n + 6) (F := fx T1 (.tup [nV p, .int z]) :: BoxedP K t s c () :: mdB q P s :: pool P :: F) (S.fr (by walk_at "fr")) (by omega) fun H6 d1 hd1 S => ?_
  walk_at "go"
  refine al_t S fun T2 H7 S => ?_
  walk_at "go"
  refine L_worth_b (b := b) (n := n + 2) (F := fx T2 (.tup [nV d1, .int z]) :: fx T1 (.tup [nV p, .int z]) :: BoxedP K t s c () :: mdB q P s :: pool P :: F) (S.fr (by walk_at "fr")) fun H8 z2 hz21 hz22 S => ?_
  walk_at "go"
  refine al_t S fun T3 H9 S => ?_
  walk_at "go"
  refine al_l S fun D8 H10 S => ?_
  obtain ⟨cs, ecs⟩ : ∃ cs : List (Nat × Int), cs = [(p, z), (d1, z), (0, z2)] := ⟨_, rfl⟩
  have hcs : ∀ x ∈ cs, x.1 < s.ws.length ∧ (-bigI < x.2 ∧ x.2 < bigI) := fun x hx => by
    rw [ecs] at hx
    simp only [List.mem_cons, List.not_mem_nil, or_false] at hx
    rcases hx with rfl | rfl | rfl
    · exact ⟨hp, hz⟩
    · exact ⟨by show d1 < _; omega, hz⟩
    · exact ⟨by show 0 < _; omega, hz21, hz22⟩
  have S : Star H10 (box2 b (n + 2) :: pt D8 (.lst [.ref T1, .ref T2, .ref T3]) :: dats [.ref T1, .ref T2, .ref T3] (cs.map chD) :: BoxedP K t s c () :: mdB q P s :: pool P :: F) := by
    rw [ecs]
    exact S.fr (by unfold chD; walk_at "fr")
  walk_at "go"
  refine take2_ok (q := b) (n := n + 1) S (by decide) fun H11 d2 hd2 S => ?_
  walk_at "go"
  refine brd (fun hb => ?_) (fun hb => ?_)
  · walk_at "go"
    refine dsp_Boxed (t := t) (s := s) (c := c) (x := ()) (F := []) (S.fr (by walk_at "fr")) (by decide +kernel) (by walk_at "mm") ?_
    walk_at "go"
    refine Boxed_put_p (t := t) (s := s) (c := c) (x := ()) (m := m) (p := p) (z := z) (F := mdB q P s :: pool P :: box2 b (n + 1) :: F) (S.fr (by walk_at "fr")) hm hp hz (by omega) True.intro fun H11 S => ?_
    walk_at "go"
    refine repr_n S (by omega) ?_
    walk_at "go"
    refine L_written_b (q := q) (P := P) (s := s) (m := m) (p := p) (z := z) (F := BoxedP K t (s.put m p z) (c + Boxed_pc s () m p) () :: box2 b (n + 1) :: F) (S.fr (by walk_at "fr")) hm hp hz (by omega) fun H13 P2 hP2 S => ?_
    walk_at "go"
    refine repr_n S (by omega) ?_
    walk_at "go"
    rw [decide_eq_true rfl]
    exact k _ (s.put m p z) _ P2 rfl hP2 (box2_le (m := n) (by omega) (S.fr (by walk_at "fr") : Star H13 (box2 b (n + 1) :: BoxedP K t (s.put m p z) (c + Boxed_pc s () m p) () :: mdB q P2 (s.put m p z) :: pool P2 :: F)))
  · walk_at "go"
    refine al_l S fun D9 H12 S => ?_
    walk_at "go"
    refine take2_ok (q := b) (n := n) (F := pt D9 (.lst []) :: pt D8 (.lst [.ref T1, .ref T2, .ref T3]) :: dats [.ref T1, .ref T2, .ref T3] (cs.map chD) :: BoxedP K t s c () :: mdB q P s :: pool P :: F) (S.fr (by walk_at "fr")) (by decide) fun H13 d4 hd4 S => ?_
    obtain ⟨rr, err⟩ : ∃ rr : Nat, rr = min rm d4 := ⟨_, rfl⟩
    have err2 : min ((rm : Nat) : Int) ((d4 : Nat) : Int) = ((rr : Nat) : Int) := by omega
    walk_at "w"
    rw [err2]
    refine ⟨_, rfl, ?_⟩
    walk_at "w"
    refine sl_S S (S.fr (qs := [pt D8 (.lst [.ref T1, .ref T2, .ref T3])]) (by walk_at "fr")).get fun D10 H14 S => ?_
    rw [cut_to] at S
    obtain ⟨xs, exs⟩ : ∃ xs : List V, xs = [V.ref T1, .ref T2, .ref T3].take rr := ⟨_, rfl⟩
    obtain ⟨cs2, ecs2⟩ : ∃ cs2, cs2 = cs.take rr := ⟨_, rfl⟩
    have hcs2 : ∀ x ∈ cs2, x.1 < s.ws.length ∧ (-bigI < x.2 ∧ x.2 < bigI) := fun x hx => hcs x (by rw [ecs2] at hx; exact List.mem_of_mem_take hx)
    have hc2l : cs2.length = rr := by
      rw [ecs2, List.length_take, ecs]
      show min rr 3 = rr
      omega
    rw [← exs] at S
    have S1 := dats_cut (n := rr) (S.fr (by walk_at "fr") : Star H14 (dats [.ref T1, .ref T2, .ref T3] (cs.map chD) :: pt D10 (.lst xs) :: box2 b n :: pt D9 (.lst []) :: pt D8 (.lst [.ref T1, .ref T2, .ref T3]) :: BoxedP K t s c () :: mdB q P s :: pool P :: F))
    rw [← exs, ← List.map_take, ← ecs2] at S1
    have S : Star H14 (pt D9 (.lst ((List.range' (s.tr.length + 1) 0).map nV)) :: pt D10 (.lst xs) :: dats xs (cs2.map chD) :: mdB q P (s.puts m (cs2.take 0)) :: pool P :: box2 b n :: pt D8 (.lst [.ref T1, .ref T2, .ref T3]) :: BoxedP K t s c () :: F) := S1.fr (Fr.c4 (by walk_at "fr"))
    have hxl : xs.length = cs2.length := by
      have := S.p2.dlen
      rw [List.length_map] at this
      exact this
    have hc2 : ∀ j, ∀ x ∈ cs2.take j, x.1 < s.ws.length ∧ (-bigI < x.2 ∧ x.2 < bigI) := fun j x hx => hcs2 x (List.mem_of_mem_take hx)
    clear S1
    walk_at "go"
    refine it_l S.p1.get ?_
    refine Loop.list (fun j σ H => ∃ (P' : Pool) (y5 y6 : Option V), (∀ x ∈ P, x ∈ P') ∧ Star H (pt D9 (.lst ((List.range' (s.tr.length + 1) j).map nV)) :: pt D10 (.lst xs) :: dats xs (cs2.map chD) :: mdB q P' (s.puts m (cs2.take j)) :: pool P' :: box2 b n :: pt D8 (.lst [.ref T1, .ref T2, .ref T3]) :: BoxedP K t s c () :: F) ∧ σ = [some (.ref b), some (.ref t), some (.ref q), some (.ref fr), some (nV m), y5, y6, some (nV rm), some (.ref D8), some (.ref D9)]) ⟨P, _, _, fun x hx => hx, S, rfl⟩ (fun j σ H _ ⟨_, _, _, _, z, _⟩ => .of z.p1.get) ?_ ?_
    · rintro j v σ H12 hv ⟨P', y7, y8, hPP, S, rfl⟩
      have hj : j < cs2.length := by
        have := (List.getElem?_eq_some_iff.mp hv).1
        omega
      obtain ⟨w, hw⟩ : ∃ w, cs2[j]? = some w := ⟨_, List.getElem?_eq_getElem hj⟩
      have hwb := hcs2 w (List.mem_of_getElem? hw)
      have htl : (cs2.take j).length = j := by
        rw [List.length_take]
        omega
      obtain ⟨hp1, hp2⟩ := RSok.puts ok hm (hc2 j) (by omega)
      rw [htl] at hp2
      have hpl : (s.puts m (cs2.take j)).tr.length = s.tr.length + j := by rw [RS.puts_len, htl]
      obtain ⟨T, hT, S⟩ := chs_at (cs := cs2) (j := j) (x := w) (F := pt D9 (.lst ((List.range' (s.tr.length + 1) j).map nV)) :: pt D10 (.lst xs) :: mdB q P' (s.puts m (cs2.take j)) :: pool P' :: box2 b n :: pt D8 (.lst [.ref T1, .ref T2, .ref T3]) :: BoxedP K t s c () :: F) (S.fr (by walk_at "fr")) hw
      rw [hT] at hv
      cases hv
      try unfold gU
      refine unp_t S.getF rfl ?_
      walk_at "go"
      refine al_l S fun l4 H13 S => ?_
      walk_at "go"
      refine add_S (xs := [nV m]) (ys := (List.range' (s.tr.length + 1) j).map nV) S S.get (S.fr (qs := [pt D9 (.lst ((List.range' (s.tr.length + 1) j).map nV))]) (by walk_at "fr")).get (by rw [List.length_map, List.length_range']; show 1 + j ≤ _; omega) fun l5 H14 S => ?_
      walk_at "go"
      refine ix_l S.get (atI_last (foundV_last (s := s) (m := m) (j := j))) ?_
      walk_at "go"
      refine L_written_b (q := q) (P := P') (s := s.puts m (cs2.take j)) (m := lastM s m j) (p := w.1) (z := w.2) (F := pt D9 (.lst ((List.range' (s.tr.length + 1) j).map nV)) :: pt D10 (.lst xs) :: dats xs (cs2.map chD) :: box2 b n :: pt D8 (.lst [.ref T1, .ref T2, .ref T3]) :: BoxedP K t s c () :: F) (S.fr (by walk_at "fr")) hp2 (by rw [RS.puts_ws]; exact hwb.1) hwb.2 (by omega) fun H15 P2 hP2 S => ?_
      walk_at "go"
      refine app_S (a := D9) (xs := (List.range' (s.tr.length + 1) j).map nV) (S.fr (by walk_at "fr")) (by rw [List.length_map, List.length_range']; omega) fun H16 S => ?_
      have e6 : (List.range' (s.tr.length + 1) j).map nV ++ [nV ((s.puts m (cs2.take j)).tr.length + 1)] = (List.range' (s.tr.length + 1) (j + 1)).map nV := by
        rw [hpl, List.range'_1_concat, List.map_append, show s.tr.length + j + 1 = s.tr.length + 1 + j by omega]
        rfl
      rw [e6, ← RS.puts_take hw] at S
      walk_at "w"
      exact ⟨P2, _, _, fun x hx => hP2 x (hPP x hx), S.fr (by walk_at "fr"), rfl⟩
    · rintro σ H12 ⟨P', y7, y8, hPP, S, rfl⟩
      rw [hxl, List.take_length] at S
      have hpl : (s.puts m cs2).tr.length = s.tr.length + cs2.length := RS.puts_len
      have hri : ∀ x ∈ List.range' (s.tr.length + 1) cs2.length, x ≤ 1000 := fun x hx => by
        have := List.mem_range'_1.mp hx
        omega
      walk_at "go"
      refine dsp_Boxed (t := t) (s := s) (c := c) (x := ()) (F := []) (S.fr (by walk_at "fr")) (by decide +kernel) (by walk_at "mm") ?_
      walk_at "go"
      refine ⟨_, rfl, ?_⟩
      walk_at "w"
      refine sl_S S (S.fr (qs := [pt D8 (.lst [.ref T1, .ref T2, .ref T3])]) (by walk_at "fr")).get fun D12 H13 S => ?_
      have el : ((List.range' (s.tr.length + 1) cs2.length).map nV).length = rr := by rw [List.length_map, List.length_range', hc2l]
      rw [el, cut_to, ← exs] at S
      walk_at "go"
      refine Boxed_put_all_p (t := t) (s := s) (c := c) (x := ()) (b := true) (a := D12) (xs := xs) (cs := cs2) (m := m) (F := mdB q P' (s.puts m cs2) :: pool P' :: box2 b n :: pt D9 (.lst ((List.range' (s.tr.length + 1) cs2.length).map nV)) :: F) (S.fr (by unfold sq; walk_at "fr")) hm hcs2 (by omega) (by omega) (fun _ => True.intro) fun H14 fd S => ?_
      walk_at "go"
      refine repr_ints S (by rw [List.length_range']; omega) hri ?_
      walk_at "go"
      refine repr_ints (f := D9) (F := []) (S.fr (by walk_at "fr")) (by rw [List.length_range']; omega) hri ?_
      walk_at "go"
      rw [decide_eq_true rfl]
      exact k _ (s.puts m cs2) _ P' RS.puts_ws hPP (S.fr (by walk_at "fr"))
end
end Lawk44

namespace Lawk44
open PySem PySem.Spec PyProof.Rows L2 MK
def TwP (K : PySem.W.Frag) (ws : List Int) (B M : Addr) (d : Nat) (F : List SP) (H : Hp) : Prop :=
  ∃ (vb vm : List V) (tA tB qA qB : Addr) (sA sB : RS) (cA cB : Int) (P : Pool), (vb.length = 2 ∧ vm.length = 2 ∧ vb[d]? = some (.ref tA) ∧ vb[1 - d]? = some (.ref tB) ∧ vm[d]? = some (.ref qA) ∧ vm[1 - d]? = some (.ref qB)) ∧
    (sA.ws = ws ∧ sB.ws = ws) ∧ Star H (pt B (.lst vb) :: pt M (.lst vm) :: BoxedP K tA sA cA () :: mdB qA P sA :: BoxedP K tB sB cB () :: mdB qB P sB :: pool P :: F)
section
variable {K : PySem.W.Frag} {F : List SP} {H : Hp} {Q : VK} {E : XK} {ws : List Int} {n d e : Nat} {B M : Addr}
theorem TwP.swap (h : TwP K ws B M d F H) (hd : d ≤ 1) : TwP K ws B M (1 - d) F H := by
  obtain ⟨vb, vm, tA, tB, qA, qB, sA, sB, cA, cB, P, ⟨h1, h2, h3, h4, h5, h6⟩, ⟨g1, g2⟩, S⟩ := h
  have ed : 1 - (1 - d) = d := by omega
  exact ⟨vb, vm, tB, tA, qB, qA, sB, sA, cB, cA, P, ⟨h1, h2, h4, by rw [ed]; exact h3, h6, by rw [ed]; exact h5⟩, ⟨g2, g1⟩, S.fr (by walk_at "fr")⟩
theorem TwP.to (h : TwP K ws B M d F H) (hd : d ≤ 1) (he : e ≤ 1) : TwP K ws B M e F H := by
  by_cases z : d = e
  · exact z ▸ h
  · have : e = 1 - d := by omega
    rw [this]
    exact h.swap hd
theorem odd_ni {d : PyData} {n : Nat} (h : d = .int (n : Nat) ∨ d = .int (-1) ∨ d = .none ∨ d = .bool false ∨ d = .str "0" ∨ d = .list [.int 0] ∨ d = .int (-1000000000000000000000000000000000000000)) (hn : n ≤ 16) : Ni 1 10 d ∧ Pl d ∧ wholeD d 0 ((n : Int) - 1) = false := by
  rcases h with rfl | rfl | rfl | rfl | rfl | rfl | rfl
  · refine ⟨ni_i (by omega), rfl, ?_⟩
    rw [wholeD_int, decide_eq_false (show ¬ ((n : Nat) : Int) ≤ (n : Int) - 1 by omega), Bool.and_false]
  · exact ⟨ni_i (by omega), rfl, rfl⟩
  · exact ⟨ni_n, rfl, rfl⟩
  · exact ⟨ni_b _, rfl, rfl⟩
  · exact ⟨ni_s (by decide +kernel) (by decide), by show PyData.canLay0 _ = true; decide +kernel, rfl⟩
  · exact ⟨ni_l (n := 0) (m := 0) (fa1 (ni_i (by omega)) fa0) (by decide) (by decide), rfl, rfl⟩
  · exact ⟨ni_i (by omega), rfl, rfl⟩
end
theorem law_ok {K : PySem.W.Frag} {H : Hp} {a : Addr} {ns : List Int} (S : Star H [scr K a (ns.map V.int)]) : sp_law K [.ref a] H (fun v _ => v = .bl true) fun _ _ _ => False := by
  refine sp_law_i ?_
  walk_at "go"
  refine cell_at_ok S (by omega) fun c0 => ?_
  walk_at "go"
  refine box2_ok 67 (by decide) S fun H1 b0 S => ?_
  walk_at "go"
  refine L_worths_b (n := 0) S fun H2 D ws h1 h2 h3 S => ?_
  walk_at "go"
  refine list_S S S.get fun D2 H3 S => ?_
  walk_at "w"
  intro t1 dx hx hd hne
  refine Boxed_init_p (t := t1) (dx := dx) (a := D2) (b := true) (ws := ws) (F := pt D (.lst (ws.map V.int)) :: scr K a (ns.map V.int) :: []) ((S.mkI (C := He.ga K "Boxed") hx hd hne).fr (by unfold sq; walk_at "fr")) h1 h2 h3 fun H4 S => ⟨rfl, ?_⟩
  walk_at "go"
  refine list_S S (S.fr (qs := [pt D (.lst (ws.map V.int))]) (by walk_at "fr")).get fun D3 H5 S => ?_
  walk_at "w"
  intro t2 dx2 hx hd hne
  refine Boxed_init_p (t := t2) (dx := dx2) (a := D3) (b := true) (ws := ws) (F := BoxedP K t1 (RS.zero ws) 0 () :: pt D (.lst (ws.map V.int)) :: scr K a (ns.map V.int) :: []) ((S.mkI (C := He.ga K "Boxed") hx hd hne).fr (by unfold sq; walk_at "fr")) h1 h2 h3 fun H6 S => ⟨rfl, ?_⟩
  walk_at "go"
  refine al_l S fun B H7 S => ?_
  walk_at "go"
  refine L_model_b (u := D) (ws := ws) (P := []) (F := pt B (.lst [.ref t1, .ref t2]) :: BoxedP K t2 (RS.zero ws) 0 () :: BoxedP K t1 (RS.zero ws) 0 () :: scr K a (ns.map V.int) :: []) ((pool_nil S).fr (by walk_at "fr")) h1 h2 h3 fun H9 q1 r1 S => ?_
  walk_at "go"
  refine L_model_b (u := D) (ws := ws) (P := [] ++ [(r1, ws)]) (F := mdB q1 ([] ++ [(r1, ws)]) (RS.zero ws) :: pt B (.lst [.ref t1, .ref t2]) :: BoxedP K t2 (RS.zero ws) 0 () :: BoxedP K t1 (RS.zero ws) 0 () :: scr K a (ns.map V.int) :: []) (S.fr (by walk_at "fr")) h1 h2 h3 fun H10 q2 r2 S => ?_
  walk_at "go"
  refine al_l S fun M H11 S => ?_
  obtain ⟨P0, eP⟩ : ∃ P0 : Pool, P0 = [] ++ [(r1, ws)] ++ [(r2, ws)] := ⟨_, rfl⟩
  have S1 := mdB_more (P' := P0) (S.fr (by walk_at "fr") : Star H11 (mdB q1 ([] ++ [(r1, ws)]) (RS.zero ws) :: pt B (.lst [.ref t1, .ref t2]) :: pt M (.lst [.ref q1, .ref q2]) :: BoxedP K t1 (RS.zero ws) 0 () :: BoxedP K t2 (RS.zero ws) 0 () :: mdB q2 ([] ++ [(r1, ws)] ++ [(r2, ws)]) (RS.zero ws) :: pool ([] ++ [(r1, ws)] ++ [(r2, ws)]) :: pt D (.lst (ws.map V.int)) :: scr K a (ns.map V.int) :: [])) (fun x hx => by rw [eP]; exact List.mem_append_left _ hx)
  rw [← eP] at S1
  have T0 : TwP K ws B M 0 (pt D (.lst (ws.map V.int)) :: scr K a (ns.map V.int) :: []) H11 := ⟨[.ref t1, .ref t2], [.ref q1, .ref q2], t1, t2, q1, q2, RS.zero ws, RS.zero ws, 0, 0, P0, ⟨rfl, rfl, rfl, rfl, rfl, rfl⟩, ⟨rfl, rfl⟩, S1.fr (by walk_at "fr")⟩
  have hwl : (ws.map V.int).length = ws.length := List.length_map _
  walk_at "go"
  rw [hwl]
  clear S S1
  refine Loop.range (fun i σ H => ∃ (y5 y6 y7 y8 y9 y10 y11 y12 y13 y14 y15 : Option V), TwP K ws B M 0 (scr K a (ns.map V.int) :: []) H ∧ σ = [some (.ref a), some (.ref D), some (.ref B), some (.ref M), some (nV ws.length), y5, y6, y7, y8, y9, y10, y11, y12, y13, y14, y15]) ⟨_, _, _, _, _, _, _, _, _, _, _, by
    obtain ⟨vb, vm, tA, tB, qA, qB, sA, sB, cA, cB, P, hv, hs, S⟩ := T0
    exact ⟨vb, vm, tA, tB, qA, qB, sA, sB, cA, cB, P, hv, hs, S.fr (by walk_at "fr")⟩, rfl⟩ ?_ ?_
  · rintro i σ H12 hi ⟨y5, y6, y7, y8, y9, y10, y11, y12, y13, y14, y15, T, rfl⟩
    obtain ⟨vb, vm, tA, tB, qA, qB, sA, sB, cA, cB, P, hv, hs, S⟩ := T
    walk_at "go"
    refine cell_at_ok (a := a) (ns := ns) (S.fr (by walk_at "fr")) (by omega) fun c0 => ?_
    walk_at "go"
    refine box2_ok 100 (by decide) S fun H13 bx S => ?_
    walk_at "go"
    refine take2_ok (n := 99) S (by decide) fun H14 d0 hd0 S => ?_
    walk_at "go"
    refine take2_ok (n := 98) S (by decide) fun H14 d1 hd1 S => ?_
    walk_at "go"
    refine take2_ok (n := 97) S (by decide) fun H15 d hd1 S => ?_
    have hd : d ≤ 1 := by omega
    have T : TwP K ws B M d (box2 bx 97 :: scr K a (ns.map V.int) :: []) H15 := TwP.to (d := 0) ⟨vb, vm, tA, tB, qA, qB, sA, sB, cA, cB, P, hv, hs, S.fr (by walk_at "fr")⟩ (by omega) hd
    clear S hs hv
    obtain ⟨vb, vm, tA, tB, qA, qB, sA, sB, cA, cB, P, ⟨v1, v2, v3, v4, v5, v6⟩, ⟨g1, g2⟩, S⟩ := T
    walk_at "go"
    refine ix_l S.get (atI_n v3) ?_
    walk_at "go"
    refine ix_l S.p1.get (atI_n v5) ?_
    walk_at "go"
    refine L_put_bn (b := bx) (q := qA) (P := P) (s := sA) (n := 88) (F := pt B (.lst vb) :: pt M (.lst vm) :: BoxedP K tA sA cA () :: BoxedP K tB sB cB () :: mdB qB P sB :: scr K a (ns.map V.int) :: []) (by rw [g1]) (S.fr (by walk_at "fr")) fun H16 T m p z hm hp hz S => ?_
    walk_at "w"
    try unfold gU
    refine unp_t S.getF rfl ?_
    have e1d : (1 : Int) - ((d : Nat) : Int) = ((1 - d : Nat) : Int) := by omega
    generalize hbc : decide ((d1 : Int) = 0) = bc
    dsimp only
    refine seq_cut (fun σ H => (∃ (sA' : RS) (cA' : Int) (P' : Pool), sA'.ws = ws ∧ Star H (pt B (.lst vb) :: pt M (.lst vm) :: BoxedP K tA sA' cA' () :: mdB qA P' sA' :: BoxedP K tB sB cB () :: mdB qB P' sB :: pool P' :: box2 bx 1 :: scr K a (ns.map V.int) :: [])) ∧ σ = [some (.ref a), some (.ref D), some (.ref B), some (.ref M), some (nV ws.length), some (.int (1 + (i : Nat))), some (.ref bx), some (.bl (decide ((d0 : Int) = 0))), some (.bl bc), some (nV d), y10, some (.ref tA), some (.ref qA), some (nV m), some (nV p), some (.int z)]) (fun kk => ?_) ?_
    · have ok := mdB_ok (S.fr (by walk_at "fr") : Star H16 (mdB qA P sA :: []))
      walk_at "go"
      have puts : ∀ fr : Addr, ∀ H17, Star H17 (pt fr (.lst [nV m, nV p, .int z]) :: box2 bx 88 :: mdB qA P sA :: pool P :: pt B (.lst vb) :: pt M (.lst vm) :: BoxedP K tA sA cA () :: BoxedP K tB sB cB () :: mdB qB P sB :: scr K a (ns.map V.int) :: []) →
          ∀ R : VK, ∀ E, (∀ H' sA' cA' P', sA'.ws = ws → Star H' (pt B (.lst vb) :: pt M (.lst vm) :: BoxedP K tA sA' cA' () :: mdB qA P' sA' :: BoxedP K tB sB cB () :: mdB qB P' sB :: pool P' :: box2 bx 1 :: scr K a (ns.map V.int) :: []) → R (.bl true) H') → sp_L_all_put K [.ref bx, .ref tA, .ref qA, .ref fr] H17 R E := by
        intro fr H17 S R E kk
        refine L_all_put_b (b := bx) (t := tA) (q := qA) (s := sA) (c := cA) (n := 81) (m := m) (p := p) (z := z) (P := P) (F := pt B (.lst vb) :: pt M (.lst vm) :: BoxedP K tB sB cB () :: mdB qB P sB :: scr K a (ns.map V.int) :: []) (S.fr (by walk_at "fr")) hm hp hz fun H18 s' c' P' k2 k3 S => ?_
        have S2 := mdB_more (P' := P') (S.fr (by walk_at "fr") : Star H18 (mdB qB P sB :: box2 bx 81 :: pt B (.lst vb) :: pt M (.lst vm) :: BoxedP K tA s' c' () :: mdB qA P' s' :: BoxedP K tB sB cB () :: pool P' :: scr K a (ns.map V.int) :: [])) k3
        exact kk _ s' c' P' (k2.trans g1) ((box2_le (m := 1) (by omega) S2.p1).fr (by walk_at "fr"))
      refine brd (fun hc => ?_) (fun hc => ?_)
      · walk_at "go"
        refine mdB_kept (S.fr (by walk_at "fr") : Star H16 (mdB qA P sA :: [])) fun ka ha => ?_
        walk_at "go"
        refine len_l ha ?_
        rw [List.length_map]
        walk_at "go"
        refine brd (fun hk => ?_) (fun hk => ?_)
        · have hk : 1 < (keptN sA.gn).length := by omega
          walk_at "go"
          refine mdB_kept2 (S.fr (by walk_at "fr") : Star H16 (mdB qA P sA :: box2 bx 88 :: pool P :: pt B (.lst vb) :: pt M (.lst vm) :: BoxedP K tA sA cA () :: BoxedP K tB sB cB () :: mdB qB P sB :: scr K a (ns.map V.int) :: [])) fun ka S => ?_
          walk_at "go"
          refine kept_rem S hm fun H4 S => ?_
          have S : Star H4 (BoxedP K tA sA cA () :: mdB qA P (sA.go m) :: box2 bx 88 :: pool P :: pt B (.lst vb) :: pt M (.lst vm) :: BoxedP K tB sB cB () :: mdB qB P sB :: scr K a (ns.map V.int) :: []) := (mdB_go S hm hk).fr (by walk_at "fr")
          walk_at "go"
          refine dsp_Boxed S (by decide +kernel) (by walk_at "mm") ?_
          walk_at "go"
          refine Boxed_let_go_p S hm hk fun H5 D9 S => ?_
          obtain ⟨fs, ys, _, S⟩ := frF_iff.mp S
          walk_at "w"
          refine kk _ _ ⟨⟨sA.go m, cA + Boxed_gc sA () m, P, g1, ?_⟩, rfl⟩
          exact (box2_le (m := 1) (by omega) (S.fr (by walk_at "fr") : Star H5 (box2 bx 88 :: pt B (.lst vb) :: pt M (.lst vm) :: BoxedP K tA (sA.go m) (cA + Boxed_gc sA () m) () :: mdB qA P (sA.go m) :: BoxedP K tB sB cB () :: mdB qB P sB :: pool P :: scr K a (ns.map V.int) :: []))).fr (by walk_at "fr")
        · walk_at "go"
          refine al_l S fun fr H17 S => ?_
          walk_at "go"
          refine puts fr H17 (S.fr (by walk_at "fr")) _ _ fun H18 s' c' P' k2 S => ?_
          walk_at "w"
          exact kk _ _ ⟨⟨s', c', P', k2, S⟩, rfl⟩
      · walk_at "go"
        refine al_l S fun fr H17 S => ?_
        walk_at "go"
        refine puts fr H17 (S.fr (by walk_at "fr")) _ _ fun H18 s' c' P' k2 S => ?_
        walk_at "w"
        exact kk _ _ ⟨⟨s', c', P', k2, S⟩, rfl⟩
    · rintro σ H17 ⟨⟨sA', cA', P', g3, S⟩, rfl⟩
      try dsimp only
      refine seq_cut (fun σ H => (∃ (vb vm : List V) (tB qB : Addr) (sB : RS) (cB : Int), (vb.length = 2 ∧ vm.length = 2 ∧ vb[d]? = some (.ref tA) ∧ vb[1 - d]? = some (.ref tB) ∧ vm[d]? = some (.ref qA) ∧ vm[1 - d]? = some (.ref qB)) ∧ sB.ws = ws ∧ Star H (pt B (.lst vb) :: pt M (.lst vm) :: BoxedP K tA sA' cA' () :: mdB qA P' sA' :: BoxedP K tB sB cB () :: mdB qB P' sB :: pool P' :: box2 bx 1 :: scr K a (ns.map V.int) :: [])) ∧ σ = [some (.ref a), some (.ref D), some (.ref B), some (.ref M), some (nV ws.length), some (.int (1 + (i : Nat))), some (.ref bx), some (.bl (decide ((d0 : Int) = 0))), some (.bl bc), some (nV d), y10, some (.ref tA), some (.ref qA), some (nV m), some (nV p), some (.int z)]) (fun kk => ?_) ?_
      · walk_at "go"
        refine br (fun hc => ?_) (fun hc => ?_)
        · walk_at "go"
          refine dsp_Boxed (t := tA) (s := sA') (c := cA') (x := ()) (F := []) (S.fr (by walk_at "fr")) (by decide +kernel) (by walk_at "mm") ?_
          walk_at "go"
          refine Boxed_copied_p (t := tA) (s := sA') (c := cA') (x := ()) (F := pt B (.lst vb) :: pt M (.lst vm) :: mdB qA P' sA' :: pool P' :: box2 bx 1 :: scr K a (ns.map V.int) :: []) (S.fr (by walk_at "fr")) fun H18 u S3 => ?_
          walk_at "go"
          rw [e1d]
          refine set_S (a := B) (xs := vb) (j := 1 - d) (S3.fr (qs := pt B (.lst vb) :: pt M (.lst vm) :: BoxedP K u sA' cA' () :: BoxedP K tA sA' cA' () :: mdB qA P' sA' :: pool P' :: box2 bx 1 :: scr K a (ns.map V.int) :: []) (by walk_at "fr")) (ixN_n (by omega)) fun H18 S3 => ?_
          walk_at "go"
          refine L_model_copy_b (q := qA) (P := P') (s := sA') (F := pt B (.lst (vb.set (1 - d) (.ref u))) :: pt M (.lst vm) :: BoxedP K u sA' cA' () :: BoxedP K tA sA' cA' () :: pool P' :: box2 bx 1 :: scr K a (ns.map V.int) :: []) (S3.fr (by walk_at "fr")) fun H19 q3 S3 => ?_
          walk_at "go"
          rw [e1d]
          refine set_S (a := M) (xs := vm) (j := 1 - d) (S3.fr (qs := pt M (.lst vm) :: pt B (.lst (vb.set (1 - d) (.ref u))) :: BoxedP K tA sA' cA' () :: mdB qA P' sA' :: BoxedP K u sA' cA' () :: mdB q3 P' sA' :: pool P' :: box2 bx 1 :: scr K a (ns.map V.int) :: []) (by walk_at "fr")) (ixN_n (by omega)) fun H20 S3 => ?_
          walk_at "w"
          refine kk _ _ ⟨⟨vb.set (1 - d) (.ref u), vm.set (1 - d) (.ref q3), u, q3, sA', cA', ⟨by rw [List.length_set]; exact v1, by rw [List.length_set]; exact v2, ?_, ?_, ?_, ?_⟩, g3, S3.fr (by walk_at "fr")⟩, rfl⟩
          · rw [List.getElem?_set_ne (by omega)]
            exact v3
          · rw [List.getElem?_set_self (by omega)]
          · rw [List.getElem?_set_ne (by omega)]
            exact v5
          · rw [List.getElem?_set_self (by omega)]
        · walk_at "w"
          exact kk _ _ ⟨⟨vb, vm, tB, qB, sB, cB, ⟨v1, v2, v3, v4, v5, v6⟩, g2, S⟩, rfl⟩
      · clear S v1 v2 v3 v4 v5 v6 g2
        rintro σ H18 ⟨⟨vb, vm, tB, qB, sB, cB, ⟨v1, v2, v3, v4, v5, v6⟩, g2, S⟩, rfl⟩
        obtain ⟨t0, t1, q0, q1, s0, s1, c0, c1, w1, w2, w3, w4, S0, back⟩ : ∃ (t0 t1 q0 q1 : Addr) (s0 s1 : RS) (c0 c1 : Int), vb[0]? = some (.ref t0) ∧ vb[1]? = some (.ref t1) ∧ vm[0]? = some (.ref q0) ∧ vm[1]? = some (.ref q1) ∧ Star H18 (pt B (.lst vb) :: pt M (.lst vm) :: BoxedP K t0 s0 c0 () :: mdB q0 P' s0 :: BoxedP K t1 s1 c1 () :: mdB q1 P' s1 :: pool P' :: box2 bx 1 :: scr K a (ns.map V.int) :: []) ∧
            ∀ H', Star H' (pt B (.lst vb) :: pt M (.lst vm) :: BoxedP K t0 s0 c0 () :: mdB q0 P' s0 :: BoxedP K t1 s1 c1 () :: mdB q1 P' s1 :: pool P' :: box2 bx 1 :: scr K a (ns.map V.int) :: []) → Star H' (pt B (.lst vb) :: pt M (.lst vm) :: BoxedP K tA sA' cA' () :: mdB qA P' sA' :: BoxedP K tB sB cB () :: mdB qB P' sB :: pool P' :: box2 bx 1 :: scr K a (ns.map V.int) :: []) := by
          rcases (show d = 0 ∨ d = 1 by omega) with rfl | rfl
          · exact ⟨tA, tB, qA, qB, sA', sB, cA', cB, v3, v4, v5, v6, S, fun H' S => S⟩
          · exact ⟨tB, tA, qB, qA, sB, sA', cB, cA', v4, v3, v6, v5, S.fr (by walk_at "fr"), fun H' S => S.fr (by walk_at "fr")⟩
        clear S
        walk_at "go"
        refine ix_l S0.get (atI_n (i := 0) w1) ?_
        walk_at "go"
        refine ix_l S0.p1.get (atI_n (i := 0) w3) ?_
        walk_at "go"
        refine L_tells_b (t := t0) (q := q0) (s := s0) (c := c0) (P := P') (F := pt B (.lst vb) :: pt M (.lst vm) :: BoxedP K t1 s1 c1 () :: mdB q1 P' s1 :: box2 bx 1 :: scr K a (ns.map V.int) :: []) (S0.fr (by walk_at "fr")) fun H19 S0 => ?_
        walk_at "go"
        refine ix_l (S0.fr (qs := [pt B (.lst vb)]) (by walk_at "fr")).get (atI_n (i := 1) w2) ?_
        walk_at "go"
        refine ix_l (S0.fr (qs := [pt M (.lst vm)]) (by walk_at "fr")).get (atI_n (i := 1) w4) ?_
        walk_at "go"
        refine L_tells_b (t := t1) (q := q1) (s := s1) (c := c1) (P := P') (F := pt B (.lst vb) :: pt M (.lst vm) :: BoxedP K t0 s0 c0 () :: mdB q0 P' s0 :: box2 bx 1 :: scr K a (ns.map V.int) :: []) (S0.fr (by walk_at "fr")) fun H20 S0 => ?_
        have S := back _ (S0.fr (by walk_at "fr"))
        clear S0 back
        walk_at "go"
        refine al_l S fun l0 H21 S => ?_
        walk_at "go"
        refine al_l S fun l1 H22 S => ?_
        walk_at "go"
        refine take2_ok (q := bx) (n := 0) (F := pt l1 (.lst [nV ws.length, .int (-1), .non, .bl false, .str "0", .ref l0, .int (-1000000000000000000000000000000000000000)]) :: pt l0 (.lst [.int 0]) :: pt B (.lst vb) :: pt M (.lst vm) :: BoxedP K tA sA' cA' () :: mdB qA P' sA' :: BoxedP K tB sB cB () :: mdB qB P' sB :: pool P' :: scr K a (ns.map V.int) :: []) (S.fr (by walk_at "fr")) (by decide) fun H23 d7 hd7 S => ?_
        walk_at "go"
        refine ix_m (S.fr (qs := [pt l1 (.lst [nV ws.length, .int (-1), .non, .bl false, .str "0", .ref l0, .int (-1000000000000000000000000000000000000000)])]) (by walk_at "fr")).get (by omega) (by show ((d7 : Nat) : Int) < 7; exact hd7) fun v hv => ?_
        obtain ⟨dd, hdd, S⟩ : ∃ dd : PyData, (dd = .int (ws.length : Nat) ∨ dd = .int (-1) ∨ dd = .none ∨ dd = .bool false ∨ dd = .str "0" ∨ dd = .list [.int 0] ∨ dd = .int (-1000000000000000000000000000000000000000)) ∧ Star H23 (dat v dd :: BoxedP K tA sA' cA' () :: pt B (.lst vb) :: pt M (.lst vm) :: mdB qA P' sA' :: BoxedP K tB sB cB () :: mdB qB P' sB :: pool P' :: scr K a (ns.map V.int) :: []) := by
          have S2 : Star H23 (pt l0 (.lst [.int 0]) :: BoxedP K tA sA' cA' () :: pt B (.lst vb) :: pt M (.lst vm) :: mdB qA P' sA' :: BoxedP K tB sB cB () :: mdB qB P' sB :: pool P' :: scr K a (ns.map V.int) :: []) := S.fr (Fr.c2 (by walk_at "fr"))
          simp only [List.mem_cons, List.not_mem_nil, or_false] at hv
          rcases hv with rfl | rfl | rfl | rfl | rfl | rfl | rfl
          · exact ⟨_, .inl rfl, dat_i.mpr ⟨rfl, S2.tail⟩⟩
          · exact ⟨_, .inr (.inl rfl), dat_i.mpr ⟨rfl, S2.tail⟩⟩
          · exact ⟨_, .inr (.inr (.inl rfl)), dat_n.mpr ⟨rfl, S2.tail⟩⟩
          · exact ⟨_, .inr (.inr (.inr (.inl rfl))), dat_b.mpr ⟨rfl, S2.tail⟩⟩
          · exact ⟨_, .inr (.inr (.inr (.inr (.inl rfl)))), dat_s.mpr ⟨rfl, S2.tail⟩⟩
          · exact ⟨_, .inr (.inr (.inr (.inr (.inr (.inl rfl))))), S2.fr (Fr.lst (Fr.c0 (Fr.dsc (Fr.int (Fr.ds0 (Fr.refl _))))))⟩
          · exact ⟨_, .inr (.inr (.inr (.inr (.inr (.inr rfl))))), dat_i.mpr ⟨rfl, S2.tail⟩⟩
        obtain ⟨hni, hpl, hbd⟩ := odd_ni hdd h2
        have hni2 : Ni 2 100 (.list [dd]) := ni_l (n := 1) (m := 10) (fa1 hni fa0) (by decide) (show 1 * (10 + 1) ≤ 100 by decide)
        walk_at "go"
        refine L_refused_b S (by rw [g3]; exact hbd) fun H24 f S => ?_
        walk_at "go"
        have T1 : Star H24 (dat (.ref f) (.list [dd]) :: []) := S.fr (Fr.lst (Fr.c0 (Fr.dsc (Fr.c0 (Fr.ds0 (Fr.nil _))))))
        refine repr_D T1 (Ni.rep hni2 (by decide) (by decide)) ?_
        walk_at "go"
        refine al_l S fun f2 H25 S => ?_
        have T2 : Star H25 (dat (.ref f2) (.list [dd]) :: []) := S.fr (Fr.lst (Fr.c0 (Fr.dsc (Fr.c1 (Fr.ds0 (Fr.nil _))))))
        walk_at "go"
        refine repr_D T2 (Ni.rep hni2 (by decide) (by decide)) ?_
        walk_at "go"
        refine brn (fun h => absurd rfl h) (fun _ => ?_)
        walk_at "w"
        have T3 : TwP K ws B M d (scr K a (ns.map V.int) :: []) H25 := ⟨vb, vm, tA, tB, qA, qB, sA', sB, cA', cB, P', ⟨v1, v2, v3, v4, v5, v6⟩, ⟨g3, g2⟩, S.fr (Fr.drop (Fr.drop (Fr.drop (by walk_at "fr"))))⟩
        exact ⟨_, _, _, _, _, _, _, _, _, _, _, T3.to hd (by omega), rfl⟩
  · rintro σ H12 ⟨y5, y6, y7, y8, y9, y10, y11, y12, y13, y14, y15, T, rfl⟩
    walk_at "w"
end Lawk44

namespace Lawk44
open PySem PySem.Spec PyProof.Rows L2 MK
/-! the text by places -/
def top (i : Nat) : Stmt := PySem.Challenge.pw_makeskept_k44_boxes_are_runs.main.body.getD i (.Pass ⟨0, 0, 0, 0⟩)
abbrev s_L_cell_at : Stmt := top 35
abbrev s_L_box : Stmt := top 36
abbrev s_L_take : Stmt := top 37
abbrev s_is_whole : Stmt := top 16
abbrev s_MakesError_init : Stmt := clsAt (top 2) 0
abbrev s_LeapTree_MakeTree_init : Stmt := clsAt (top 27) 0
abbrev s_Order_init : Stmt := clsAt (top 24) 0
abbrev s_L_model : Stmt := top 40
abbrev s_Boxed_makes : Stmt := clsAt (top 31) 11
abbrev s_Boxed_size : Stmt := clsAt (top 31) 9
abbrev s_Order_marks : Stmt := clsAt (top 24) 7
abbrev s_Boxed_is_read : Stmt := clsAt (top 33) 8
abbrev s_LeapTree_many : Stmt := clsAt (top 27) 1
abbrev s_LeapTree_lay : Stmt := clsAt (top 29) 1
abbrev s_Boxed_add_steps : Stmt := clsAt (top 31) 4
abbrev s_Order_label_behind : Stmt := clsAt (top 24) 2
abbrev s_Order_label_all : Stmt := clsAt (top 24) 3
abbrev s_L_written : Stmt := top 41
abbrev s_L_model_copy : Stmt := top 50
abbrev s_L_come : Stmt := top 46
abbrev s_L_last : Stmt := top 43
abbrev s_Boxed_room : Stmt := clsAt (top 33) 2
abbrev s_L_worth : Stmt := top 38
abbrev s_is_worth : Stmt := top 17
abbrev s_NoRow_init : Stmt := clsAt (top 3) 0
abbrev s_LeapTree_init : Stmt := clsAt (top 29) 0
abbrev s_L_one_of : Stmt := top 42
abbrev s_NoMake_init : Stmt := clsAt (top 7) 0
abbrev s_Alone_init : Stmt := clsAt (top 12) 0
abbrev s_NoPlace_init : Stmt := clsAt (top 5) 0
abbrev s_NoMark_init : Stmt := clsAt (top 8) 0
abbrev s_Boxed_in_order : Stmt := clsAt (top 33) 3
abbrev s_NoWorth_init : Stmt := clsAt (top 4) 0
abbrev s_TooMany_init : Stmt := clsAt (top 11) 0
abbrev s_NoChanges_init : Stmt := clsAt (top 10) 0
abbrev s_L_runs : Stmt := top 47
abbrev s_L_worths : Stmt := top 39
abbrev s_is_worths : Stmt := top 18
abbrev s_Boxed_begin : Stmt := clsAt (top 33) 0
abbrev s_L_put : Stmt := top 44
abbrev s_is_change : Stmt := top 19
abbrev s_Order_copied : Stmt := clsAt (top 24) 11
abbrev s_Boxed_Rows_init : Stmt := clsAt (top 31) 0
abbrev s_Boxed_need_make : Stmt := clsAt (top 31) 17
abbrev s_Boxed_need_place : Stmt := clsAt (top 31) 18
abbrev s_LeapTree_need_make : Stmt := clsAt (top 27) 2
abbrev s_Order_need_mark : Stmt := clsAt (top 24) 1
abbrev s_Boxed_need_room : Stmt := clsAt (top 31) 21
abbrev s_is_changes : Stmt := top 20
abbrev s_LeapTree_copied : Stmt := clsAt (top 29) 6
abbrev s_LeapTree_own : Stmt := clsAt (top 27) 6
abbrev s_Order_drop : Stmt := clsAt (top 24) 5
abbrev s_Boxed_need_new : Stmt := clsAt (top 31) 20
abbrev s_LeapTree_grow : Stmt := clsAt (top 27) 4
abbrev s_Order_ahead : Stmt := clsAt (top 24) 8
abbrev s_Order_behind : Stmt := clsAt (top 24) 4
abbrev s_Boxed_same_makes : Stmt := clsAt (top 31) 30
abbrev s_Boxed_box : Stmt := clsAt (top 33) 10
abbrev s_Boxed_writer_of : Stmt := clsAt (top 31) 16
abbrev s_Boxed_spot_of : Stmt := clsAt (top 33) 4
abbrev s_Boxed_copied : Stmt := clsAt (top 33) 11
abbrev s_L_tells : Stmt := top 49
abbrev s_L_refused : Stmt := top 48
abbrev s_Boxed_writer : Stmt := clsAt (top 31) 15
abbrev s_Boxed_store : Stmt := clsAt (top 33) 5
abbrev s_Boxed_runs : Stmt := clsAt (top 33) 9
abbrev s_Boxed_written : Stmt := clsAt (top 31) 24
abbrev s_Boxed_freed : Stmt := clsAt (top 33) 7
abbrev s_Boxed_put : Stmt := clsAt (top 31) 22
abbrev s_Boxed_put_all : Stmt := clsAt (top 31) 23
abbrev s_Boxed_let_go : Stmt := clsAt (top 31) 29
abbrev s_L_all_put : Stmt := top 45
abbrev s_law : Stmt := top 51
abbrev N_L_cell_at : List Str := ["_law_script", "_law_k"]
theorem sc_L_cell_at : FnScope N_L_cell_at ["_law_script", "_law_k"] (defScope s_L_cell_at) := ⟨rfl, rfl, rfl, by decide +kernel, rfl, by decide +kernel, by decide +kernel⟩
abbrev N_L_box : List Str := ["_law_cell"]
theorem sc_L_box : FnScope N_L_box ["_law_cell"] (defScope s_L_box) := ⟨rfl, rfl, rfl, by decide +kernel, rfl, by decide +kernel, by decide +kernel⟩
abbrev N_L_take : List Str := ["_law_box_here", "_law_many", "_law_digit", "_law_number"]
theorem sc_L_take : FnScope N_L_take ["_law_box_here", "_law_many"] (defScope s_L_take) := ⟨rfl, rfl, rfl, by decide +kernel, rfl, by decide +kernel, by decide +kernel⟩
abbrev N_is_whole : List Str := ["thing", "low", "high"]
theorem sc_is_whole : FnScope N_is_whole ["thing", "low", "high"] (defScope s_is_whole) := ⟨rfl, rfl, rfl, by decide +kernel, rfl, by decide +kernel, by decide +kernel⟩
abbrev N_MakesError_init : List Str := ["self", "text"]
theorem sc_MakesError_init : FnScope N_MakesError_init ["self", "text"] (defScope s_MakesError_init) := ⟨rfl, rfl, rfl, by decide +kernel, rfl, by decide +kernel, by decide +kernel⟩
abbrev N_LeapTree_MakeTree_init : List Str := ["self"]
theorem sc_LeapTree_MakeTree_init : FnScope N_LeapTree_MakeTree_init ["self"] (defScope s_LeapTree_MakeTree_init) := ⟨rfl, rfl, rfl, by decide +kernel, rfl, by decide +kernel, by decide +kernel⟩
abbrev N_Order_init : List Str := ["self"]
theorem sc_Order_init : FnScope N_Order_init ["self"] (defScope s_Order_init) := ⟨rfl, rfl, rfl, by decide +kernel, rfl, by decide +kernel, by decide +kernel⟩
abbrev N_L_model : List Str := ["_law_worths_here"]
theorem sc_L_model : FnScope N_L_model ["_law_worths_here"] (defScope s_L_model) := ⟨rfl, rfl, rfl, by decide +kernel, rfl, by decide +kernel, by decide +kernel⟩
abbrev N_Boxed_makes : List Str := ["self", "make", "gone"]
theorem sc_Boxed_makes : FnScope N_Boxed_makes ["self"] (defScope s_Boxed_makes) := ⟨rfl, rfl, rfl, by decide +kernel, rfl, by decide +kernel, by decide +kernel⟩
abbrev N_Boxed_size : List Str := ["self"]
theorem sc_Boxed_size : FnScope N_Boxed_size ["self"] (defScope s_Boxed_size) := ⟨rfl, rfl, rfl, by decide +kernel, rfl, by decide +kernel, by decide +kernel⟩
abbrev N_Order_marks : List Str := ["self"]
theorem sc_Order_marks : FnScope N_Order_marks ["self"] (defScope s_Order_marks) := ⟨rfl, rfl, rfl, by decide +kernel, rfl, by decide +kernel, by decide +kernel⟩
abbrev N_Boxed_is_read : List Str := ["self", "place", "writer", "turn"]
theorem sc_Boxed_is_read : FnScope N_Boxed_is_read ["self", "place", "writer"] (defScope s_Boxed_is_read) := ⟨rfl, rfl, rfl, by decide +kernel, rfl, by decide +kernel, by decide +kernel⟩
abbrev N_LeapTree_many : List Str := ["self"]
theorem sc_LeapTree_many : FnScope N_LeapTree_many ["self"] (defScope s_LeapTree_many) := ⟨rfl, rfl, rfl, by decide +kernel, rfl, by decide +kernel, by decide +kernel⟩
abbrev N_LeapTree_lay : List Str := ["self", "make", "found"]
theorem sc_LeapTree_lay : FnScope N_LeapTree_lay ["self", "make"] (defScope s_LeapTree_lay) := ⟨rfl, rfl, rfl, by decide +kernel, rfl, by decide +kernel, by decide +kernel⟩
abbrev N_Boxed_add_steps : List Str := ["self", "many"]
theorem sc_Boxed_add_steps : FnScope N_Boxed_add_steps ["self", "many"] (defScope s_Boxed_add_steps) := ⟨rfl, rfl, rfl, by decide +kernel, rfl, by decide +kernel, by decide +kernel⟩
abbrev N_Order_label_behind : List Str := ["self", "at"]
theorem sc_Order_label_behind : FnScope N_Order_label_behind ["self", "at"] (defScope s_Order_label_behind) := ⟨rfl, rfl, rfl, by decide +kernel, rfl, by decide +kernel, by decide +kernel⟩
abbrev N_Order_label_all : List Str := ["self", "step", "at", "mark"]
theorem sc_Order_label_all : FnScope N_Order_label_all ["self"] (defScope s_Order_label_all) := ⟨rfl, rfl, rfl, by decide +kernel, rfl, by decide +kernel, by decide +kernel⟩
abbrev N_L_written : List Str := ["_law_model_here", "_law_make", "_law_place", "_law_worth_here", "_law_row"]
theorem sc_L_written : FnScope N_L_written ["_law_model_here", "_law_make", "_law_place", "_law_worth_here"] (defScope s_L_written) := ⟨rfl, rfl, rfl, by decide +kernel, rfl, by decide +kernel, by decide +kernel⟩
abbrev N_L_model_copy : List Str := ["_law_model_here", "_law_found", "_law_key"]
theorem sc_L_model_copy : FnScope N_L_model_copy ["_law_model_here"] (defScope s_L_model_copy) := ⟨rfl, rfl, rfl, by decide +kernel, rfl, by decide +kernel, by decide +kernel⟩
abbrev N_L_come : List Str := ["_law_model_here", "_law_found", "_law_number"]
theorem sc_L_come : FnScope N_L_come ["_law_model_here"] (defScope s_L_come) := ⟨rfl, rfl, rfl, by decide +kernel, rfl, by decide +kernel, by decide +kernel⟩
abbrev N_L_last : List Str := ["_law_model_here", "_law_make", "_law_place"]
theorem sc_L_last : FnScope N_L_last ["_law_model_here", "_law_make", "_law_place"] (defScope s_L_last) := ⟨rfl, rfl, rfl, by decide +kernel, rfl, by decide +kernel, by decide +kernel⟩
abbrev N_Boxed_room : List Str := ["self", "turns"]
theorem sc_Boxed_room : FnScope N_Boxed_room ["self"] (defScope s_Boxed_room) := ⟨rfl, rfl, rfl, by decide +kernel, rfl, by decide +kernel, by decide +kernel⟩
abbrev N_L_worth : List Str := ["_law_box_here", "_law_way", "_law_number"]
theorem sc_L_worth : FnScope N_L_worth ["_law_box_here"] (defScope s_L_worth) := ⟨rfl, rfl, rfl, by decide +kernel, rfl, by decide +kernel, by decide +kernel⟩
abbrev N_is_worth : List Str := ["thing", "most"]
theorem sc_is_worth : FnScope N_is_worth ["thing"] (defScope s_is_worth) := ⟨rfl, rfl, rfl, by decide +kernel, rfl, by decide +kernel, by decide +kernel⟩
abbrev N_NoRow_init : List Str := ["self", "found"]
theorem sc_NoRow_init : FnScope N_NoRow_init ["self", "found"] (defScope s_NoRow_init) := ⟨rfl, rfl, rfl, by decide +kernel, rfl, by decide +kernel, by decide +kernel⟩
abbrev N_LeapTree_init : List Str := ["self"]
theorem sc_LeapTree_init : FnScope N_LeapTree_init ["self"] (defScope s_LeapTree_init) := ⟨rfl, rfl, rfl, by decide +kernel, rfl, by decide +kernel, by decide +kernel⟩
abbrev N_L_one_of : List Str := ["_law_box_here", "_law_some", "_law_way"]
theorem sc_L_one_of : FnScope N_L_one_of ["_law_box_here", "_law_some"] (defScope s_L_one_of) := ⟨rfl, rfl, rfl, by decide +kernel, rfl, by decide +kernel, by decide +kernel⟩
abbrev N_NoMake_init : List Str := ["self", "found"]
theorem sc_NoMake_init : FnScope N_NoMake_init ["self", "found"] (defScope s_NoMake_init) := ⟨rfl, rfl, rfl, by decide +kernel, rfl, by decide +kernel, by decide +kernel⟩
abbrev N_Alone_init : List Str := ["self", "found"]
theorem sc_Alone_init : FnScope N_Alone_init ["self", "found"] (defScope s_Alone_init) := ⟨rfl, rfl, rfl, by decide +kernel, rfl, by decide +kernel, by decide +kernel⟩
abbrev N_NoPlace_init : List Str := ["self", "found"]
theorem sc_NoPlace_init : FnScope N_NoPlace_init ["self", "found"] (defScope s_NoPlace_init) := ⟨rfl, rfl, rfl, by decide +kernel, rfl, by decide +kernel, by decide +kernel⟩
abbrev N_NoMark_init : List Str := ["self", "found"]
theorem sc_NoMark_init : FnScope N_NoMark_init ["self", "found"] (defScope s_NoMark_init) := ⟨rfl, rfl, rfl, by decide +kernel, rfl, by decide +kernel, by decide +kernel⟩
abbrev N_Boxed_in_order : List Str := ["self", "mark"]
theorem sc_Boxed_in_order : FnScope N_Boxed_in_order ["self"] (defScope s_Boxed_in_order) := ⟨rfl, rfl, rfl, by decide +kernel, rfl, by decide +kernel, by decide +kernel⟩
abbrev N_NoWorth_init : List Str := ["self", "found"]
theorem sc_NoWorth_init : FnScope N_NoWorth_init ["self", "found"] (defScope s_NoWorth_init) := ⟨rfl, rfl, rfl, by decide +kernel, rfl, by decide +kernel, by decide +kernel⟩
abbrev N_TooMany_init : List Str := ["self", "count"]
theorem sc_TooMany_init : FnScope N_TooMany_init ["self", "count"] (defScope s_TooMany_init) := ⟨rfl, rfl, rfl, by decide +kernel, rfl, by decide +kernel, by decide +kernel⟩
abbrev N_NoChanges_init : List Str := ["self", "found"]
theorem sc_NoChanges_init : FnScope N_NoChanges_init ["self", "found"] (defScope s_NoChanges_init) := ⟨rfl, rfl, rfl, by decide +kernel, rfl, by decide +kernel, by decide +kernel⟩
abbrev N_L_runs : List Str := ["_law_model_here", "_law_place", "_law_found", "_law_make", "_law_writer"]
theorem sc_L_runs : FnScope N_L_runs ["_law_model_here", "_law_place"] (defScope s_L_runs) := ⟨rfl, rfl, rfl, by decide +kernel, rfl, by decide +kernel, by decide +kernel⟩
abbrev N_L_worths : List Str := ["_law_box_here", "_law_size", "_law_k"]
theorem sc_L_worths : FnScope N_L_worths ["_law_box_here"] (defScope s_L_worths) := ⟨rfl, rfl, rfl, by decide +kernel, rfl, by decide +kernel, by decide +kernel⟩
abbrev N_is_worths : List Str := ["thing", "worth"]
theorem sc_is_worths : FnScope N_is_worths ["thing"] (defScope s_is_worths) := ⟨rfl, rfl, rfl, by decide +kernel, rfl, by decide +kernel, by decide +kernel⟩
abbrev N_Boxed_begin : List Str := ["self", "worths", "worth"]
theorem sc_Boxed_begin : FnScope N_Boxed_begin ["self", "worths"] (defScope s_Boxed_begin) := ⟨rfl, rfl, rfl, by decide +kernel, rfl, by decide +kernel, by decide +kernel⟩
abbrev N_L_put : List Str := ["_law_box_here", "_law_model_here", "_law_size", "_law_make", "_law_place", "_law_worth_here"]
theorem sc_L_put : FnScope N_L_put ["_law_box_here", "_law_model_here", "_law_size"] (defScope s_L_put) := ⟨rfl, rfl, rfl, by decide +kernel, rfl, by decide +kernel, by decide +kernel⟩
abbrev N_is_change : List Str := ["thing", "size"]
theorem sc_is_change : FnScope N_is_change ["thing", "size"] (defScope s_is_change) := ⟨rfl, rfl, rfl, by decide +kernel, rfl, by decide +kernel, by decide +kernel⟩
abbrev N_Order_copied : List Str := ["self", "other"]
theorem sc_Order_copied : FnScope N_Order_copied ["self"] (defScope s_Order_copied) := ⟨rfl, rfl, rfl, by decide +kernel, rfl, by decide +kernel, by decide +kernel⟩
abbrev N_Boxed_Rows_init : List Str := ["self", "worths"]
theorem sc_Boxed_Rows_init : FnScope N_Boxed_Rows_init ["self", "worths"] (defScope s_Boxed_Rows_init) := ⟨rfl, rfl, rfl, by decide +kernel, rfl, by decide +kernel, by decide +kernel⟩
abbrev N_Boxed_need_make : List Str := ["self", "make"]
theorem sc_Boxed_need_make : FnScope N_Boxed_need_make ["self", "make"] (defScope s_Boxed_need_make) := ⟨rfl, rfl, rfl, by decide +kernel, rfl, by decide +kernel, by decide +kernel⟩
abbrev N_Boxed_need_place : List Str := ["self", "place"]
theorem sc_Boxed_need_place : FnScope N_Boxed_need_place ["self", "place"] (defScope s_Boxed_need_place) := ⟨rfl, rfl, rfl, by decide +kernel, rfl, by decide +kernel, by decide +kernel⟩
abbrev N_LeapTree_need_make : List Str := ["self", "make"]
theorem sc_LeapTree_need_make : FnScope N_LeapTree_need_make ["self", "make"] (defScope s_LeapTree_need_make) := ⟨rfl, rfl, rfl, by decide +kernel, rfl, by decide +kernel, by decide +kernel⟩
abbrev N_Order_need_mark : List Str := ["self", "mark"]
theorem sc_Order_need_mark : FnScope N_Order_need_mark ["self", "mark"] (defScope s_Order_need_mark) := ⟨rfl, rfl, rfl, by decide +kernel, rfl, by decide +kernel, by decide +kernel⟩
abbrev N_Boxed_need_room : List Str := ["self", "many"]
theorem sc_Boxed_need_room : FnScope N_Boxed_need_room ["self", "many"] (defScope s_Boxed_need_room) := ⟨rfl, rfl, rfl, by decide +kernel, rfl, by decide +kernel, by decide +kernel⟩
abbrev N_is_changes : List Str := ["thing", "size", "change"]
theorem sc_is_changes : FnScope N_is_changes ["thing", "size"] (defScope s_is_changes) := ⟨rfl, rfl, rfl, by decide +kernel, rfl, by decide +kernel, by decide +kernel⟩
abbrev N_LeapTree_copied : List Str := ["self", "found", "leaps"]
theorem sc_LeapTree_copied : FnScope N_LeapTree_copied ["self"] (defScope s_LeapTree_copied) := ⟨rfl, rfl, rfl, by decide +kernel, rfl, by decide +kernel, by decide +kernel⟩
abbrev N_LeapTree_own : List Str := ["self", "make"]
theorem sc_LeapTree_own : FnScope N_LeapTree_own ["self", "make"] (defScope s_LeapTree_own) := ⟨rfl, rfl, rfl, by decide +kernel, rfl, by decide +kernel, by decide +kernel⟩
abbrev N_Order_drop : List Str := ["self", "mark"]
theorem sc_Order_drop : FnScope N_Order_drop ["self", "mark"] (defScope s_Order_drop) := ⟨rfl, rfl, rfl, by decide +kernel, rfl, by decide +kernel, by decide +kernel⟩
abbrev N_Boxed_need_new : List Str := ["self", "make"]
theorem sc_Boxed_need_new : FnScope N_Boxed_need_new ["self", "make"] (defScope s_Boxed_need_new) := ⟨rfl, rfl, rfl, by decide +kernel, rfl, by decide +kernel, by decide +kernel⟩
abbrev N_LeapTree_grow : List Str := ["self", "make"]
theorem sc_LeapTree_grow : FnScope N_LeapTree_grow ["self", "make"] (defScope s_LeapTree_grow) := ⟨rfl, rfl, rfl, by decide +kernel, rfl, by decide +kernel, by decide +kernel⟩
abbrev N_Order_ahead : List Str := ["self", "one", "other"]
theorem sc_Order_ahead : FnScope N_Order_ahead ["self", "one", "other"] (defScope s_Order_ahead) := ⟨rfl, rfl, rfl, by decide +kernel, rfl, by decide +kernel, by decide +kernel⟩
abbrev N_Order_behind : List Str := ["self", "mark", "at", "number"]
theorem sc_Order_behind : FnScope N_Order_behind ["self", "mark"] (defScope s_Order_behind) := ⟨rfl, rfl, rfl, by decide +kernel, rfl, by decide +kernel, by decide +kernel⟩
abbrev N_Boxed_same_makes : List Str := ["self", "other"]
theorem sc_Boxed_same_makes : FnScope N_Boxed_same_makes ["self", "other"] (defScope s_Boxed_same_makes) := ⟨rfl, rfl, rfl, by decide +kernel, rfl, by decide +kernel, by decide +kernel⟩
abbrev N_Boxed_box : List Str := ["self", "place"]
theorem sc_Boxed_box : FnScope N_Boxed_box ["self", "place"] (defScope s_Boxed_box) := ⟨rfl, rfl, rfl, by decide +kernel, rfl, by decide +kernel, by decide +kernel⟩
abbrev N_Boxed_writer_of : List Str := ["self", "make", "place"]
theorem sc_Boxed_writer_of : FnScope N_Boxed_writer_of ["self", "make", "place"] (defScope s_Boxed_writer_of) := ⟨rfl, rfl, rfl, by decide +kernel, rfl, by decide +kernel, by decide +kernel⟩
abbrev N_Boxed_spot_of : List Str := ["self", "make", "place", "turns", "begin", "end", "middle"]
theorem sc_Boxed_spot_of : FnScope N_Boxed_spot_of ["self", "make", "place"] (defScope s_Boxed_spot_of) := ⟨rfl, rfl, rfl, by decide +kernel, rfl, by decide +kernel, by decide +kernel⟩
abbrev N_Boxed_copied : List Str := ["self", "other", "turns"]
theorem sc_Boxed_copied : FnScope N_Boxed_copied ["self"] (defScope s_Boxed_copied) := ⟨rfl, rfl, rfl, by decide +kernel, rfl, by decide +kernel, by decide +kernel⟩
abbrev N_L_tells : List Str := ["_law_boxed", "_law_model_here", "_law_due", "_law_place", "_law_lap", "_law_found", "_law_order", "_law_one", "_law_turns"]
theorem sc_L_tells : FnScope N_L_tells ["_law_boxed", "_law_model_here"] (defScope s_L_tells) := ⟨rfl, rfl, rfl, by decide +kernel, rfl, by decide +kernel, by decide +kernel⟩
abbrev N_L_refused : List Str := ["_law_boxed", "_law_thing", "_law_found", "e"]
theorem sc_L_refused : FnScope N_L_refused ["_law_boxed", "_law_thing"] (defScope s_L_refused) := ⟨rfl, rfl, rfl, by decide +kernel, rfl, by decide +kernel, by decide +kernel⟩
abbrev N_Boxed_writer : List Str := ["self", "make", "place"]
theorem sc_Boxed_writer : FnScope N_Boxed_writer ["self", "make", "place"] (defScope s_Boxed_writer) := ⟨rfl, rfl, rfl, by decide +kernel, rfl, by decide +kernel, by decide +kernel⟩
abbrev N_Boxed_store : List Str := ["self", "make", "number", "place", "worth", "spot", "turns", "line", "behind", "rest", "other", "turn"]
theorem sc_Boxed_store : FnScope N_Boxed_store ["self", "make", "number", "place", "worth"] (defScope s_Boxed_store) := ⟨rfl, rfl, rfl, by decide +kernel, rfl, by decide +kernel, by decide +kernel⟩
abbrev N_Boxed_runs : List Str := ["self", "place", "line", "worths", "turn", "found", "make", "writer"]
theorem sc_Boxed_runs : FnScope N_Boxed_runs ["self", "place", "line"] (defScope s_Boxed_runs) := ⟨rfl, rfl, rfl, by decide +kernel, rfl, by decide +kernel, by decide +kernel⟩
abbrev N_Boxed_written : List Str := ["self", "make", "place", "worth", "number"]
theorem sc_Boxed_written : FnScope N_Boxed_written ["self", "make", "place", "worth"] (defScope s_Boxed_written) := ⟨rfl, rfl, rfl, by decide +kernel, rfl, by decide +kernel, by decide +kernel⟩
abbrev N_Boxed_freed : List Str := ["self", "make", "mine", "place", "mark", "line", "writer"]
theorem sc_Boxed_freed : FnScope N_Boxed_freed ["self", "make"] (defScope s_Boxed_freed) := ⟨rfl, rfl, rfl, by decide +kernel, rfl, by decide +kernel, by decide +kernel⟩
abbrev N_Boxed_put : List Str := ["self", "make", "place", "worth"]
theorem sc_Boxed_put : FnScope N_Boxed_put ["self", "make", "place", "worth"] (defScope s_Boxed_put) := ⟨rfl, rfl, rfl, by decide +kernel, rfl, by decide +kernel, by decide +kernel⟩
abbrev N_Boxed_put_all : List Str := ["self", "make", "changes", "found", "place", "worth"]
theorem sc_Boxed_put_all : FnScope N_Boxed_put_all ["self", "make", "changes"] (defScope s_Boxed_put_all) := ⟨rfl, rfl, rfl, by decide +kernel, rfl, by decide +kernel, by decide +kernel⟩
abbrev N_Boxed_let_go : List Str := ["self", "make"]
theorem sc_Boxed_let_go : FnScope N_Boxed_let_go ["self", "make"] (defScope s_Boxed_let_go) := ⟨rfl, rfl, rfl, by decide +kernel, rfl, by decide +kernel, by decide +kernel⟩
abbrev N_L_all_put : List Str := ["_law_box_here", "_law_boxed", "_law_model_here", "_law_first", "_law_make", "_law_place", "_law_worth_here", "_law_room", "_law_changes", "_law_due"]
theorem sc_L_all_put : FnScope N_L_all_put ["_law_box_here", "_law_boxed", "_law_model_here", "_law_first"] (defScope s_L_all_put) := ⟨rfl, rfl, rfl, by decide +kernel, rfl, by decide +kernel, by decide +kernel⟩
abbrev N_law : List Str := ["_law_script", "_law_worths_here", "_law_both", "_law_models", "_law_size", "_law_k", "_law_box_here", "_law_goes", "_law_copies", "_law_at", "_law_thing", "_law_boxed", "_law_model_here", "_law_make", "_law_place", "_law_worth_here"]
theorem sc_law : FnScope N_law ["_law_script"] (defScope s_law) := ⟨rfl, rfl, rfl, by decide +kernel, rfl, by decide +kernel, by decide +kernel⟩
def fa : List He.Fa := [.glo "_law_cell_at", .glo "_law_box", .glo "_law_take", .glo "is_whole", .glo "_law_model", .glo "_law_written", .glo "_law_model_copy", .glo "_law_come", .glo "_law_last", .glo "_law_worth", .glo "is_worth", .glo "_law_one_of", .glo "_law_runs", .glo "_law_worths", .glo "is_worths", .glo "_law_put", .glo "is_change", .glo "is_changes", .glo "_law_tells", .glo "_law_refused", .glo "_law_all_put", .glo "law", .glo "MakesError", .glo "NoRow", .glo "NoWorth", .glo "NoPlace", .glo "NoStretch", .glo "NoMake", .glo "NoMark", .glo "NoNumber", .glo "NoChanges", .glo "TooMany", .glo "Alone", .glo "Order", .glo "MakeTree", .glo "LeapTree", .glo "Rows", .glo "Boxed", .free "ValueError", .free "all", .free "bool", .free "dict", .free "enumerate", .free "int", .free "isinstance", .free "len", .free "list", .free "max", .free "min", .free "range", .free "repr", .free "reversed", .free "sum", .free "tuple", .int "MOST_PLACES" 16, .int "MOST_CHANGES" 20, .int "MOST_MARKS" 200, .int "TOP_LABEL" 1024, .int "MOST_MAKES" 64, .noat "NoRow" "found", .cls "Boxed", .noat "Boxed" "wide", .cls "LeapTree", .noat "LeapTree" "owners", .noat "LeapTree" "depths", .noat "LeapTree" "leaping", .mkr "LeapTree", .noat "Boxed" "grown", .noat "Boxed" "wrote", .noat "Boxed" "gone", .noat "Boxed" "counted", .noat "Boxed" "boxes", .cls "Order", .noat "Order" "standing", .noat "Order" "labelled", .noat "Order" "given", .noat "Order" "times", .mkr "Order", .noat "Boxed" "placed", .noat "Boxed" "owners", .noat "Boxed" "marked", .meth "Boxed" "begin", .noat "NoMake" "found", .meth "Boxed" "need_make", .meth "Boxed" "makes", .noat "Alone" "found", .meth "Boxed" "size", .noat "NoPlace" "found", .meth "Boxed" "need_place", .meth "LeapTree" "need_make", .meth "LeapTree" "own", .meth "Boxed" "writer_of", .meth "Boxed" "writer", .noat "NoMark" "found", .meth "Order" "need_mark", .meth "Order" "drop", .meth "Order" "marks", .meth "Boxed" "in_order", .meth "Boxed" "runs", .meth "Boxed" "is_read", .meth "Boxed" "freed", .meth "Boxed" "let_go", .noat "NoWorth" "found", .meth "Boxed" "need_new", .meth "LeapTree" "many", .noat "TooMany" "count", .meth "Boxed" "need_room", .meth "LeapTree" "lay", .meth "LeapTree" "grow", .meth "Boxed" "add_steps", .meth "Order" "ahead", .meth "Boxed" "spot_of", .meth "Order" "label_behind", .meth "Order" "label_all", .meth "Order" "behind", .meth "Boxed" "store", .meth "Boxed" "written", .meth "Boxed" "put", .noat "NoChanges" "found", .meth "Boxed" "put_all", .meth "Order" "copied", .meth "LeapTree" "copied", .meth "Boxed" "same_makes", .meth "Boxed" "copied", .meth "Boxed" "box", .meth "Boxed" "room", .noat "NoNumber" "found", .exm "Alone" "MakesError" true, .exm "TooMany" "MakesError" true, .exm "NoChanges" "MakesError" true, .exm "NoNumber" "MakesError" true, .exm "NoMark" "MakesError" true, .exm "NoMake" "MakesError" true, .exm "NoStretch" "MakesError" true, .exm "NoPlace" "MakesError" true, .exm "NoWorth" "MakesError" true, .exm "NoRow" "MakesError" true]
def xa : List Xa := [.veb , .cfn "MakesError" "__init__", .oex "NoRow", .init "NoRow", .cfn "MakeTree" "__init__", .mki "Boxed" "Rows", .oex "NoMake", .init "NoMake", .oex "Alone", .init "Alone", .oex "NoPlace", .init "NoPlace", .oex "NoMark", .init "NoMark", .oex "NoWorth", .init "NoWorth", .oex "TooMany", .init "TooMany", .oex "NoChanges", .init "NoChanges", .exk "Alone", .kit "Alone" "NoPlace" false, .exk "TooMany", .kit "TooMany" "NoPlace" false, .exk "NoChanges", .kit "NoChanges" "NoPlace" false, .exk "NoNumber", .kit "NoNumber" "NoPlace" false, .exk "NoMark", .kit "NoMark" "NoPlace" false, .exk "NoMake", .kit "NoMake" "NoPlace" false, .exk "NoStretch", .kit "NoStretch" "NoPlace" false, .exk "NoPlace", .kit "NoPlace" "NoPlace" true, .exk "NoWorth", .kit "NoWorth" "NoPlace" false, .exk "NoRow", .kit "NoRow" "NoPlace" false, .xfc "Alone", .xfc "NoChanges", .xfc "NoNumber", .xfc "NoMark", .xfc "NoMake", .xfc "NoPlace", .xfc "NoWorth", .xfc "NoRow"]
abbrev dd_L_cell_at : He.DefD := ⟨("_law_cell_at", none), "_law_cell_at", "_law_cell_at", defArgs s_L_cell_at, defBody s_L_cell_at, defScope s_L_cell_at, [], []⟩
abbrev dd_L_box : He.DefD := ⟨("_law_box", none), "_law_box", "_law_box", defArgs s_L_box, defBody s_L_box, defScope s_L_box, [], []⟩
abbrev dd_L_take : He.DefD := ⟨("_law_take", none), "_law_take", "_law_take", defArgs s_L_take, defBody s_L_take, defScope s_L_take, [], []⟩
abbrev dd_is_whole : He.DefD := ⟨("is_whole", none), "is_whole", "is_whole", defArgs s_is_whole, defBody s_is_whole, defScope s_is_whole, [], []⟩
abbrev dd_MakesError_init : He.DefD := ⟨("MakesError", some "__init__"), "__init__", "MakesError.__init__", defArgs s_MakesError_init, defBody s_MakesError_init, defScope s_MakesError_init, [], []⟩
abbrev dd_LeapTree_MakeTree_init : He.DefD := ⟨("MakeTree", some "__init__"), "__init__", "MakeTree.__init__", defArgs s_LeapTree_MakeTree_init, defBody s_LeapTree_MakeTree_init, defScope s_LeapTree_MakeTree_init, [], []⟩
abbrev dd_Order_init : He.DefD := ⟨("Order", some "__init__"), "__init__", "Order.__init__", defArgs s_Order_init, defBody s_Order_init, defScope s_Order_init, [], []⟩
abbrev dd_L_model : He.DefD := ⟨("_law_model", none), "_law_model", "_law_model", defArgs s_L_model, defBody s_L_model, defScope s_L_model, [], []⟩
abbrev dd_Boxed_makes : He.DefD := ⟨("Boxed", some "makes"), "makes", "Rows.makes", defArgs s_Boxed_makes, defBody s_Boxed_makes, defScope s_Boxed_makes, [], []⟩
abbrev dd_Boxed_size : He.DefD := ⟨("Boxed", some "size"), "size", "Rows.size", defArgs s_Boxed_size, defBody s_Boxed_size, defScope s_Boxed_size, [], []⟩
abbrev dd_Order_marks : He.DefD := ⟨("Order", some "marks"), "marks", "Order.marks", defArgs s_Order_marks, defBody s_Order_marks, defScope s_Order_marks, [], []⟩
abbrev dd_Boxed_is_read : He.DefD := ⟨("Boxed", some "is_read"), "is_read", "Boxed.is_read", defArgs s_Boxed_is_read, defBody s_Boxed_is_read, defScope s_Boxed_is_read, [], []⟩
abbrev dd_LeapTree_many : He.DefD := ⟨("LeapTree", some "many"), "many", "MakeTree.many", defArgs s_LeapTree_many, defBody s_LeapTree_many, defScope s_LeapTree_many, [], []⟩
abbrev dd_LeapTree_lay : He.DefD := ⟨("LeapTree", some "lay"), "lay", "LeapTree.lay", defArgs s_LeapTree_lay, defBody s_LeapTree_lay, defScope s_LeapTree_lay, [], []⟩
abbrev dd_Boxed_add_steps : He.DefD := ⟨("Boxed", some "add_steps"), "add_steps", "Rows.add_steps", defArgs s_Boxed_add_steps, defBody s_Boxed_add_steps, defScope s_Boxed_add_steps, [], []⟩
abbrev dd_Order_label_behind : He.DefD := ⟨("Order", some "label_behind"), "label_behind", "Order.label_behind", defArgs s_Order_label_behind, defBody s_Order_label_behind, defScope s_Order_label_behind, [], []⟩
abbrev dd_Order_label_all : He.DefD := ⟨("Order", some "label_all"), "label_all", "Order.label_all", defArgs s_Order_label_all, defBody s_Order_label_all, defScope s_Order_label_all, [], []⟩
abbrev dd_L_written : He.DefD := ⟨("_law_written", none), "_law_written", "_law_written", defArgs s_L_written, defBody s_L_written, defScope s_L_written, [], []⟩
abbrev dd_L_model_copy : He.DefD := ⟨("_law_model_copy", none), "_law_model_copy", "_law_model_copy", defArgs s_L_model_copy, defBody s_L_model_copy, defScope s_L_model_copy, [], []⟩
abbrev dd_L_come : He.DefD := ⟨("_law_come", none), "_law_come", "_law_come", defArgs s_L_come, defBody s_L_come, defScope s_L_come, [], []⟩
abbrev dd_L_last : He.DefD := ⟨("_law_last", none), "_law_last", "_law_last", defArgs s_L_last, defBody s_L_last, defScope s_L_last, [], []⟩
abbrev dd_Boxed_room : He.DefD := ⟨("Boxed", some "room"), "room", "Boxed.room", defArgs s_Boxed_room, defBody s_Boxed_room, defScope s_Boxed_room, [], []⟩
abbrev dd_L_worth : He.DefD := ⟨("_law_worth", none), "_law_worth", "_law_worth", defArgs s_L_worth, defBody s_L_worth, defScope s_L_worth, [], []⟩
abbrev dd_is_worth : He.DefD := ⟨("is_worth", none), "is_worth", "is_worth", defArgs s_is_worth, defBody s_is_worth, defScope s_is_worth, [], []⟩
abbrev dd_NoRow_init : He.DefD := ⟨("NoRow", some "__init__"), "__init__", "NoRow.__init__", defArgs s_NoRow_init, defBody s_NoRow_init, defScope s_NoRow_init, [], []⟩
abbrev dd_LeapTree_init : He.DefD := ⟨("LeapTree", some "__init__"), "__init__", "LeapTree.__init__", defArgs s_LeapTree_init, defBody s_LeapTree_init, defScope s_LeapTree_init, [], []⟩
abbrev dd_L_one_of : He.DefD := ⟨("_law_one_of", none), "_law_one_of", "_law_one_of", defArgs s_L_one_of, defBody s_L_one_of, defScope s_L_one_of, [], []⟩
abbrev dd_NoMake_init : He.DefD := ⟨("NoMake", some "__init__"), "__init__", "NoMake.__init__", defArgs s_NoMake_init, defBody s_NoMake_init, defScope s_NoMake_init, [], []⟩
abbrev dd_Alone_init : He.DefD := ⟨("Alone", some "__init__"), "__init__", "Alone.__init__", defArgs s_Alone_init, defBody s_Alone_init, defScope s_Alone_init, [], []⟩
abbrev dd_NoPlace_init : He.DefD := ⟨("NoPlace", some "__init__"), "__init__", "NoPlace.__init__", defArgs s_NoPlace_init, defBody s_NoPlace_init, defScope s_NoPlace_init, [], []⟩
abbrev dd_NoMark_init : He.DefD := ⟨("NoMark", some "__init__"), "__init__", "NoMark.__init__", defArgs s_NoMark_init, defBody s_NoMark_init, defScope s_NoMark_init, [], []⟩
abbrev dd_Boxed_in_order : He.DefD := ⟨("Boxed", some "in_order"), "in_order", "Boxed.in_order", defArgs s_Boxed_in_order, defBody s_Boxed_in_order, defScope s_Boxed_in_order, [], []⟩
abbrev dd_NoWorth_init : He.DefD := ⟨("NoWorth", some "__init__"), "__init__", "NoWorth.__init__", defArgs s_NoWorth_init, defBody s_NoWorth_init, defScope s_NoWorth_init, [], []⟩
abbrev dd_TooMany_init : He.DefD := ⟨("TooMany", some "__init__"), "__init__", "TooMany.__init__", defArgs s_TooMany_init, defBody s_TooMany_init, defScope s_TooMany_init, [], []⟩
abbrev dd_NoChanges_init : He.DefD := ⟨("NoChanges", some "__init__"), "__init__", "NoChanges.__init__", defArgs s_NoChanges_init, defBody s_NoChanges_init, defScope s_NoChanges_init, [], []⟩
abbrev dd_L_runs : He.DefD := ⟨("_law_runs", none), "_law_runs", "_law_runs", defArgs s_L_runs, defBody s_L_runs, defScope s_L_runs, [], []⟩
abbrev dd_L_worths : He.DefD := ⟨("_law_worths", none), "_law_worths", "_law_worths", defArgs s_L_worths, defBody s_L_worths, defScope s_L_worths, [], []⟩
abbrev dd_is_worths : He.DefD := ⟨("is_worths", none), "is_worths", "is_worths", defArgs s_is_worths, defBody s_is_worths, defScope s_is_worths, [], []⟩
abbrev dd_Boxed_begin : He.DefD := ⟨("Boxed", some "begin"), "begin", "Boxed.begin", defArgs s_Boxed_begin, defBody s_Boxed_begin, defScope s_Boxed_begin, [], []⟩
abbrev dd_L_put : He.DefD := ⟨("_law_put", none), "_law_put", "_law_put", defArgs s_L_put, defBody s_L_put, defScope s_L_put, [], []⟩
abbrev dd_is_change : He.DefD := ⟨("is_change", none), "is_change", "is_change", defArgs s_is_change, defBody s_is_change, defScope s_is_change, [], []⟩
abbrev dd_Order_copied : He.DefD := ⟨("Order", some "copied"), "copied", "Order.copied", defArgs s_Order_copied, defBody s_Order_copied, defScope s_Order_copied, [], []⟩
abbrev dd_Boxed_Rows_init : He.DefD := ⟨("Rows", some "__init__"), "__init__", "Rows.__init__", defArgs s_Boxed_Rows_init, defBody s_Boxed_Rows_init, defScope s_Boxed_Rows_init, [], []⟩
abbrev dd_Boxed_need_make : He.DefD := ⟨("Boxed", some "need_make"), "need_make", "Rows.need_make", defArgs s_Boxed_need_make, defBody s_Boxed_need_make, defScope s_Boxed_need_make, [], []⟩
abbrev dd_Boxed_need_place : He.DefD := ⟨("Boxed", some "need_place"), "need_place", "Rows.need_place", defArgs s_Boxed_need_place, defBody s_Boxed_need_place, defScope s_Boxed_need_place, [], []⟩
abbrev dd_LeapTree_need_make : He.DefD := ⟨("LeapTree", some "need_make"), "need_make", "MakeTree.need_make", defArgs s_LeapTree_need_make, defBody s_LeapTree_need_make, defScope s_LeapTree_need_make, [], []⟩
abbrev dd_Order_need_mark : He.DefD := ⟨("Order", some "need_mark"), "need_mark", "Order.need_mark", defArgs s_Order_need_mark, defBody s_Order_need_mark, defScope s_Order_need_mark, [], []⟩
abbrev dd_Boxed_need_room : He.DefD := ⟨("Boxed", some "need_room"), "need_room", "Rows.need_room", defArgs s_Boxed_need_room, defBody s_Boxed_need_room, defScope s_Boxed_need_room, [], []⟩
abbrev dd_is_changes : He.DefD := ⟨("is_changes", none), "is_changes", "is_changes", defArgs s_is_changes, defBody s_is_changes, defScope s_is_changes, [], []⟩
abbrev dd_LeapTree_copied : He.DefD := ⟨("LeapTree", some "copied"), "copied", "LeapTree.copied", defArgs s_LeapTree_copied, defBody s_LeapTree_copied, defScope s_LeapTree_copied, [], []⟩
abbrev dd_LeapTree_own : He.DefD := ⟨("LeapTree", some "own"), "own", "MakeTree.own", defArgs s_LeapTree_own, defBody s_LeapTree_own, defScope s_LeapTree_own, [], []⟩
abbrev dd_Order_drop : He.DefD := ⟨("Order", some "drop"), "drop", "Order.drop", defArgs s_Order_drop, defBody s_Order_drop, defScope s_Order_drop, [], []⟩
abbrev dd_Boxed_need_new : He.DefD := ⟨("Boxed", some "need_new"), "need_new", "Rows.need_new", defArgs s_Boxed_need_new, defBody s_Boxed_need_new, defScope s_Boxed_need_new, [], []⟩
abbrev dd_LeapTree_grow : He.DefD := ⟨("LeapTree", some "grow"), "grow", "MakeTree.grow", defArgs s_LeapTree_grow, defBody s_LeapTree_grow, defScope s_LeapTree_grow, [], []⟩
abbrev dd_Order_ahead : He.DefD := ⟨("Order", some "ahead"), "ahead", "Order.ahead", defArgs s_Order_ahead, defBody s_Order_ahead, defScope s_Order_ahead, [], []⟩
abbrev dd_Order_behind : He.DefD := ⟨("Order", some "behind"), "behind", "Order.behind", defArgs s_Order_behind, defBody s_Order_behind, defScope s_Order_behind, [], []⟩
abbrev dd_Boxed_same_makes : He.DefD := ⟨("Boxed", some "same_makes"), "same_makes", "Rows.same_makes", defArgs s_Boxed_same_makes, defBody s_Boxed_same_makes, defScope s_Boxed_same_makes, [], []⟩
abbrev dd_Boxed_box : He.DefD := ⟨("Boxed", some "box"), "box", "Boxed.box", defArgs s_Boxed_box, defBody s_Boxed_box, defScope s_Boxed_box, [], []⟩
abbrev dd_Boxed_writer_of : He.DefD := ⟨("Boxed", some "writer_of"), "writer_of", "Rows.writer_of", defArgs s_Boxed_writer_of, defBody s_Boxed_writer_of, defScope s_Boxed_writer_of, [], []⟩
abbrev dd_Boxed_spot_of : He.DefD := ⟨("Boxed", some "spot_of"), "spot_of", "Boxed.spot_of", defArgs s_Boxed_spot_of, defBody s_Boxed_spot_of, defScope s_Boxed_spot_of, [], []⟩
abbrev dd_Boxed_copied : He.DefD := ⟨("Boxed", some "copied"), "copied", "Boxed.copied", defArgs s_Boxed_copied, defBody s_Boxed_copied, defScope s_Boxed_copied, [], []⟩
abbrev dd_L_tells : He.DefD := ⟨("_law_tells", none), "_law_tells", "_law_tells", defArgs s_L_tells, defBody s_L_tells, defScope s_L_tells, [], []⟩
abbrev dd_L_refused : He.DefD := ⟨("_law_refused", none), "_law_refused", "_law_refused", defArgs s_L_refused, defBody s_L_refused, defScope s_L_refused, [], []⟩
abbrev dd_Boxed_writer : He.DefD := ⟨("Boxed", some "writer"), "writer", "Rows.writer", defArgs s_Boxed_writer, defBody s_Boxed_writer, defScope s_Boxed_writer, [], []⟩
abbrev dd_Boxed_store : He.DefD := ⟨("Boxed", some "store"), "store", "Boxed.store", defArgs s_Boxed_store, defBody s_Boxed_store, defScope s_Boxed_store, [], []⟩
abbrev dd_Boxed_runs : He.DefD := ⟨("Boxed", some "runs"), "runs", "Boxed.runs", defArgs s_Boxed_runs, defBody s_Boxed_runs, defScope s_Boxed_runs, [], []⟩
abbrev dd_Boxed_written : He.DefD := ⟨("Boxed", some "written"), "written", "Rows.written", defArgs s_Boxed_written, defBody s_Boxed_written, defScope s_Boxed_written, [], []⟩
abbrev dd_Boxed_freed : He.DefD := ⟨("Boxed", some "freed"), "freed", "Boxed.freed", defArgs s_Boxed_freed, defBody s_Boxed_freed, defScope s_Boxed_freed, [], []⟩
abbrev dd_Boxed_put : He.DefD := ⟨("Boxed", some "put"), "put", "Rows.put", defArgs s_Boxed_put, defBody s_Boxed_put, defScope s_Boxed_put, [], []⟩
abbrev dd_Boxed_put_all : He.DefD := ⟨("Boxed", some "put_all"), "put_all", "Rows.put_all", defArgs s_Boxed_put_all, defBody s_Boxed_put_all, defScope s_Boxed_put_all, [], []⟩
abbrev dd_Boxed_let_go : He.DefD := ⟨("Boxed", some "let_go"), "let_go", "Rows.let_go", defArgs s_Boxed_let_go, defBody s_Boxed_let_go, defScope s_Boxed_let_go, [], []⟩
abbrev dd_L_all_put : He.DefD := ⟨("_law_all_put", none), "_law_all_put", "_law_all_put", defArgs s_L_all_put, defBody s_L_all_put, defScope s_L_all_put, [], []⟩
abbrev dd_law : He.DefD := ⟨("law", none), "law", "law", defArgs s_law, defBody s_law, defScope s_law, [], []⟩
def fn : List He.DefD := [dd_L_cell_at, dd_L_box, dd_L_take, dd_is_whole, dd_MakesError_init, dd_LeapTree_MakeTree_init, dd_Order_init, dd_L_model, dd_Boxed_makes, dd_Boxed_size, dd_Order_marks, dd_Boxed_is_read, dd_LeapTree_many, dd_LeapTree_lay, dd_Boxed_add_steps, dd_Order_label_behind, dd_Order_label_all, dd_L_written, dd_L_model_copy, dd_L_come, dd_L_last, dd_Boxed_room, dd_L_worth, dd_is_worth, dd_NoRow_init, dd_LeapTree_init, dd_L_one_of, dd_NoMake_init, dd_Alone_init, dd_NoPlace_init, dd_NoMark_init, dd_Boxed_in_order, dd_NoWorth_init, dd_TooMany_init, dd_NoChanges_init, dd_L_runs, dd_L_worths, dd_is_worths, dd_Boxed_begin, dd_L_put, dd_is_change, dd_Order_copied, dd_Boxed_Rows_init, dd_Boxed_need_make, dd_Boxed_need_place, dd_LeapTree_need_make, dd_Order_need_mark, dd_Boxed_need_room, dd_is_changes, dd_LeapTree_copied, dd_LeapTree_own, dd_Order_drop, dd_Boxed_need_new, dd_LeapTree_grow, dd_Order_ahead, dd_Order_behind, dd_Boxed_same_makes, dd_Boxed_box, dd_Boxed_writer_of, dd_Boxed_spot_of, dd_Boxed_copied, dd_L_tells, dd_L_refused, dd_Boxed_writer, dd_Boxed_store, dd_Boxed_runs, dd_Boxed_written, dd_Boxed_freed, dd_Boxed_put, dd_Boxed_put_all, dd_Boxed_let_go, dd_L_all_put, dd_law]
section
variable {P : Program} {w : World} {K : PySem.W.Frag} {mg : Str → Option Value} {base : Heap}
theorem g_L_cell_at (c : SaysM fa fn xa K) (kin : K.In base) (ns : base.Ns mainGlobals mg) : mg "_law_cell_at" = some (.ref (He.ga K "_law_cell_at")) := He.glo_ok kin ns (c.fact 0 (f := .glo "_law_cell_at") rfl)
theorem g_L_box (c : SaysM fa fn xa K) (kin : K.In base) (ns : base.Ns mainGlobals mg) : mg "_law_box" = some (.ref (He.ga K "_law_box")) := He.glo_ok kin ns (c.fact 1 (f := .glo "_law_box") rfl)
theorem g_L_take (c : SaysM fa fn xa K) (kin : K.In base) (ns : base.Ns mainGlobals mg) : mg "_law_take" = some (.ref (He.ga K "_law_take")) := He.glo_ok kin ns (c.fact 2 (f := .glo "_law_take") rfl)
theorem g_is_whole (c : SaysM fa fn xa K) (kin : K.In base) (ns : base.Ns mainGlobals mg) : mg "is_whole" = some (.ref (He.ga K "is_whole")) := He.glo_ok kin ns (c.fact 3 (f := .glo "is_whole") rfl)
theorem g_L_model (c : SaysM fa fn xa K) (kin : K.In base) (ns : base.Ns mainGlobals mg) : mg "_law_model" = some (.ref (He.ga K "_law_model")) := He.glo_ok kin ns (c.fact 4 (f := .glo "_law_model") rfl)
theorem g_L_written (c : SaysM fa fn xa K) (kin : K.In base) (ns : base.Ns mainGlobals mg) : mg "_law_written" = some (.ref (He.ga K "_law_written")) := He.glo_ok kin ns (c.fact 5 (f := .glo "_law_written") rfl)
theorem g_L_model_copy (c : SaysM fa fn xa K) (kin : K.In base) (ns : base.Ns mainGlobals mg) : mg "_law_model_copy" = some (.ref (He.ga K "_law_model_copy")) := He.glo_ok kin ns (c.fact 6 (f := .glo "_law_model_copy") rfl)
theorem g_L_come (c : SaysM fa fn xa K) (kin : K.In base) (ns : base.Ns mainGlobals mg) : mg "_law_come" = some (.ref (He.ga K "_law_come")) := He.glo_ok kin ns (c.fact 7 (f := .glo "_law_come") rfl)
theorem g_L_last (c : SaysM fa fn xa K) (kin : K.In base) (ns : base.Ns mainGlobals mg) : mg "_law_last" = some (.ref (He.ga K "_law_last")) := He.glo_ok kin ns (c.fact 8 (f := .glo "_law_last") rfl)
theorem g_L_worth (c : SaysM fa fn xa K) (kin : K.In base) (ns : base.Ns mainGlobals mg) : mg "_law_worth" = some (.ref (He.ga K "_law_worth")) := He.glo_ok kin ns (c.fact 9 (f := .glo "_law_worth") rfl)
theorem g_is_worth (c : SaysM fa fn xa K) (kin : K.In base) (ns : base.Ns mainGlobals mg) : mg "is_worth" = some (.ref (He.ga K "is_worth")) := He.glo_ok kin ns (c.fact 10 (f := .glo "is_worth") rfl)
theorem g_L_one_of (c : SaysM fa fn xa K) (kin : K.In base) (ns : base.Ns mainGlobals mg) : mg "_law_one_of" = some (.ref (He.ga K "_law_one_of")) := He.glo_ok kin ns (c.fact 11 (f := .glo "_law_one_of") rfl)
theorem g_L_runs (c : SaysM fa fn xa K) (kin : K.In base) (ns : base.Ns mainGlobals mg) : mg "_law_runs" = some (.ref (He.ga K "_law_runs")) := He.glo_ok kin ns (c.fact 12 (f := .glo "_law_runs") rfl)
theorem g_L_worths (c : SaysM fa fn xa K) (kin : K.In base) (ns : base.Ns mainGlobals mg) : mg "_law_worths" = some (.ref (He.ga K "_law_worths")) := He.glo_ok kin ns (c.fact 13 (f := .glo "_law_worths") rfl)
theorem g_is_worths (c : SaysM fa fn xa K) (kin : K.In base) (ns : base.Ns mainGlobals mg) : mg "is_worths" = some (.ref (He.ga K "is_worths")) := He.glo_ok kin ns (c.fact 14 (f := .glo "is_worths") rfl)
theorem g_L_put (c : SaysM fa fn xa K) (kin : K.In base) (ns : base.Ns mainGlobals mg) : mg "_law_put" = some (.ref (He.ga K "_law_put")) := He.glo_ok kin ns (c.fact 15 (f := .glo "_law_put") rfl)
theorem g_is_change (c : SaysM fa fn xa K) (kin : K.In base) (ns : base.Ns mainGlobals mg) : mg "is_change" = some (.ref (He.ga K "is_change")) := He.glo_ok kin ns (c.fact 16 (f := .glo "is_change") rfl)
theorem g_is_changes (c : SaysM fa fn xa K) (kin : K.In base) (ns : base.Ns mainGlobals mg) : mg "is_changes" = some (.ref (He.ga K "is_changes")) := He.glo_ok kin ns (c.fact 17 (f := .glo "is_changes") rfl)
theorem g_L_tells (c : SaysM fa fn xa K) (kin : K.In base) (ns : base.Ns mainGlobals mg) : mg "_law_tells" = some (.ref (He.ga K "_law_tells")) := He.glo_ok kin ns (c.fact 18 (f := .glo "_law_tells") rfl)
theorem g_L_refused (c : SaysM fa fn xa K) (kin : K.In base) (ns : base.Ns mainGlobals mg) : mg "_law_refused" = some (.ref (He.ga K "_law_refused")) := He.glo_ok kin ns (c.fact 19 (f := .glo "_law_refused") rfl)
theorem g_L_all_put (c : SaysM fa fn xa K) (kin : K.In base) (ns : base.Ns mainGlobals mg) : mg "_law_all_put" = some (.ref (He.ga K "_law_all_put")) := He.glo_ok kin ns (c.fact 20 (f := .glo "_law_all_put") rfl)
theorem g_law (c : SaysM fa fn xa K) (kin : K.In base) (ns : base.Ns mainGlobals mg) : mg "law" = some (.ref (He.ga K "law")) := He.glo_ok kin ns (c.fact 21 (f := .glo "law") rfl)
theorem g_MakesError (c : SaysM fa fn xa K) (kin : K.In base) (ns : base.Ns mainGlobals mg) : mg "MakesError" = some (.ref (He.ga K "MakesError")) := He.glo_ok kin ns (c.fact 22 (f := .glo "MakesError") rfl)
theorem g_NoRow (c : SaysM fa fn xa K) (kin : K.In base) (ns : base.Ns mainGlobals mg) : mg "NoRow" = some (.ref (He.ga K "NoRow")) := He.glo_ok kin ns (c.fact 23 (f := .glo "NoRow") rfl)
theorem g_NoWorth (c : SaysM fa fn xa K) (kin : K.In base) (ns : base.Ns mainGlobals mg) : mg "NoWorth" = some (.ref (He.ga K "NoWorth")) := He.glo_ok kin ns (c.fact 24 (f := .glo "NoWorth") rfl)
theorem g_NoPlace (c : SaysM fa fn xa K) (kin : K.In base) (ns : base.Ns mainGlobals mg) : mg "NoPlace" = some (.ref (He.ga K "NoPlace")) := He.glo_ok kin ns (c.fact 25 (f := .glo "NoPlace") rfl)
theorem g_NoStretch (c : SaysM fa fn xa K) (kin : K.In base) (ns : base.Ns mainGlobals mg) : mg "NoStretch" = some (.ref (He.ga K "NoStretch")) := He.glo_ok kin ns (c.fact 26 (f := .glo "NoStretch") rfl)
theorem g_NoMake (c : SaysM fa fn xa K) (kin : K.In base) (ns : base.Ns mainGlobals mg) : mg "NoMake" = some (.ref (He.ga K "NoMake")) := He.glo_ok kin ns (c.fact 27 (f := .glo "NoMake") rfl)
theorem g_NoMark (c : SaysM fa fn xa K) (kin : K.In base) (ns : base.Ns mainGlobals mg) : mg "NoMark" = some (.ref (He.ga K "NoMark")) := He.glo_ok kin ns (c.fact 28 (f := .glo "NoMark") rfl)
theorem g_NoNumber (c : SaysM fa fn xa K) (kin : K.In base) (ns : base.Ns mainGlobals mg) : mg "NoNumber" = some (.ref (He.ga K "NoNumber")) := He.glo_ok kin ns (c.fact 29 (f := .glo "NoNumber") rfl)
theorem g_NoChanges (c : SaysM fa fn xa K) (kin : K.In base) (ns : base.Ns mainGlobals mg) : mg "NoChanges" = some (.ref (He.ga K "NoChanges")) := He.glo_ok kin ns (c.fact 30 (f := .glo "NoChanges") rfl)
theorem g_TooMany (c : SaysM fa fn xa K) (kin : K.In base) (ns : base.Ns mainGlobals mg) : mg "TooMany" = some (.ref (He.ga K "TooMany")) := He.glo_ok kin ns (c.fact 31 (f := .glo "TooMany") rfl)
theorem g_Alone (c : SaysM fa fn xa K) (kin : K.In base) (ns : base.Ns mainGlobals mg) : mg "Alone" = some (.ref (He.ga K "Alone")) := He.glo_ok kin ns (c.fact 32 (f := .glo "Alone") rfl)
theorem g_Order (c : SaysM fa fn xa K) (kin : K.In base) (ns : base.Ns mainGlobals mg) : mg "Order" = some (.ref (He.ga K "Order")) := He.glo_ok kin ns (c.fact 33 (f := .glo "Order") rfl)
theorem g_MakeTree (c : SaysM fa fn xa K) (kin : K.In base) (ns : base.Ns mainGlobals mg) : mg "MakeTree" = some (.ref (He.ga K "MakeTree")) := He.glo_ok kin ns (c.fact 34 (f := .glo "MakeTree") rfl)
theorem g_LeapTree (c : SaysM fa fn xa K) (kin : K.In base) (ns : base.Ns mainGlobals mg) : mg "LeapTree" = some (.ref (He.ga K "LeapTree")) := He.glo_ok kin ns (c.fact 35 (f := .glo "LeapTree") rfl)
theorem g_Rows (c : SaysM fa fn xa K) (kin : K.In base) (ns : base.Ns mainGlobals mg) : mg "Rows" = some (.ref (He.ga K "Rows")) := He.glo_ok kin ns (c.fact 36 (f := .glo "Rows") rfl)
theorem g_Boxed (c : SaysM fa fn xa K) (kin : K.In base) (ns : base.Ns mainGlobals mg) : mg "Boxed" = some (.ref (He.ga K "Boxed")) := He.glo_ok kin ns (c.fact 37 (f := .glo "Boxed") rfl)
theorem k_L_cell_at (c : SaysM fa fn xa K) (kin : K.In base) (ns : base.Ns mainGlobals mg) : PySem.W.keepIn K (.ref (He.ga K "_law_cell_at")) = true := (c.def_ 0 (d := dd_L_cell_at) rfl).elim fun _ F => F.kp
theorem k_L_box (c : SaysM fa fn xa K) (kin : K.In base) (ns : base.Ns mainGlobals mg) : PySem.W.keepIn K (.ref (He.ga K "_law_box")) = true := (c.def_ 1 (d := dd_L_box) rfl).elim fun _ F => F.kp
theorem k_L_take (c : SaysM fa fn xa K) (kin : K.In base) (ns : base.Ns mainGlobals mg) : PySem.W.keepIn K (.ref (He.ga K "_law_take")) = true := (c.def_ 2 (d := dd_L_take) rfl).elim fun _ F => F.kp
theorem k_is_whole (c : SaysM fa fn xa K) (kin : K.In base) (ns : base.Ns mainGlobals mg) : PySem.W.keepIn K (.ref (He.ga K "is_whole")) = true := (c.def_ 3 (d := dd_is_whole) rfl).elim fun _ F => F.kp
theorem k_L_model (c : SaysM fa fn xa K) (kin : K.In base) (ns : base.Ns mainGlobals mg) : PySem.W.keepIn K (.ref (He.ga K "_law_model")) = true := (c.def_ 7 (d := dd_L_model) rfl).elim fun _ F => F.kp
theorem k_L_written (c : SaysM fa fn xa K) (kin : K.In base) (ns : base.Ns mainGlobals mg) : PySem.W.keepIn K (.ref (He.ga K "_law_written")) = true := (c.def_ 17 (d := dd_L_written) rfl).elim fun _ F => F.kp
theorem k_L_model_copy (c : SaysM fa fn xa K) (kin : K.In base) (ns : base.Ns mainGlobals mg) : PySem.W.keepIn K (.ref (He.ga K "_law_model_copy")) = true := (c.def_ 18 (d := dd_L_model_copy) rfl).elim fun _ F => F.kp
theorem k_L_come (c : SaysM fa fn xa K) (kin : K.In base) (ns : base.Ns mainGlobals mg) : PySem.W.keepIn K (.ref (He.ga K "_law_come")) = true := (c.def_ 19 (d := dd_L_come) rfl).elim fun _ F => F.kp
theorem k_L_last (c : SaysM fa fn xa K) (kin : K.In base) (ns : base.Ns mainGlobals mg) : PySem.W.keepIn K (.ref (He.ga K "_law_last")) = true := (c.def_ 20 (d := dd_L_last) rfl).elim fun _ F => F.kp
theorem k_L_worth (c : SaysM fa fn xa K) (kin : K.In base) (ns : base.Ns mainGlobals mg) : PySem.W.keepIn K (.ref (He.ga K "_law_worth")) = true := (c.def_ 22 (d := dd_L_worth) rfl).elim fun _ F => F.kp
theorem k_is_worth (c : SaysM fa fn xa K) (kin : K.In base) (ns : base.Ns mainGlobals mg) : PySem.W.keepIn K (.ref (He.ga K "is_worth")) = true := (c.def_ 23 (d := dd_is_worth) rfl).elim fun _ F => F.kp
theorem k_L_one_of (c : SaysM fa fn xa K) (kin : K.In base) (ns : base.Ns mainGlobals mg) : PySem.W.keepIn K (.ref (He.ga K "_law_one_of")) = true := (c.def_ 26 (d := dd_L_one_of) rfl).elim fun _ F => F.kp
theorem k_L_runs (c : SaysM fa fn xa K) (kin : K.In base) (ns : base.Ns mainGlobals mg) : PySem.W.keepIn K (.ref (He.ga K "_law_runs")) = true := (c.def_ 35 (d := dd_L_runs) rfl).elim fun _ F => F.kp
theorem k_L_worths (c : SaysM fa fn xa K) (kin : K.In base) (ns : base.Ns mainGlobals mg) : PySem.W.keepIn K (.ref (He.ga K "_law_worths")) = true := (c.def_ 36 (d := dd_L_worths) rfl).elim fun _ F => F.kp
theorem k_is_worths (c : SaysM fa fn xa K) (kin : K.In base) (ns : base.Ns mainGlobals mg) : PySem.W.keepIn K (.ref (He.ga K "is_worths")) = true := (c.def_ 37 (d := dd_is_worths) rfl).elim fun _ F => F.kp
theorem k_L_put (c : SaysM fa fn xa K) (kin : K.In base) (ns : base.Ns mainGlobals mg) : PySem.W.keepIn K (.ref (He.ga K "_law_put")) = true := (c.def_ 39 (d := dd_L_put) rfl).elim fun _ F => F.kp
theorem k_is_change (c : SaysM fa fn xa K) (kin : K.In base) (ns : base.Ns mainGlobals mg) : PySem.W.keepIn K (.ref (He.ga K "is_change")) = true := (c.def_ 40 (d := dd_is_change) rfl).elim fun _ F => F.kp
theorem k_is_changes (c : SaysM fa fn xa K) (kin : K.In base) (ns : base.Ns mainGlobals mg) : PySem.W.keepIn K (.ref (He.ga K "is_changes")) = true := (c.def_ 48 (d := dd_is_changes) rfl).elim fun _ F => F.kp
theorem k_L_tells (c : SaysM fa fn xa K) (kin : K.In base) (ns : base.Ns mainGlobals mg) : PySem.W.keepIn K (.ref (He.ga K "_law_tells")) = true := (c.def_ 61 (d := dd_L_tells) rfl).elim fun _ F => F.kp
theorem k_L_refused (c : SaysM fa fn xa K) (kin : K.In base) (ns : base.Ns mainGlobals mg) : PySem.W.keepIn K (.ref (He.ga K "_law_refused")) = true := (c.def_ 62 (d := dd_L_refused) rfl).elim fun _ F => F.kp
theorem k_L_all_put (c : SaysM fa fn xa K) (kin : K.In base) (ns : base.Ns mainGlobals mg) : PySem.W.keepIn K (.ref (He.ga K "_law_all_put")) = true := (c.def_ 71 (d := dd_L_all_put) rfl).elim fun _ F => F.kp
theorem k_law (c : SaysM fa fn xa K) (kin : K.In base) (ns : base.Ns mainGlobals mg) : PySem.W.keepIn K (.ref (He.ga K "law")) = true := (c.def_ 72 (d := dd_law) rfl).elim fun _ F => F.kp
theorem f_ValueError (c : SaysM fa fn xa K) (kin : K.In base) (ns : base.Ns mainGlobals mg) : mg "ValueError" = none := He.free_ok kin ns (c.fact 38 (f := .free "ValueError") rfl)
theorem f_all (c : SaysM fa fn xa K) (kin : K.In base) (ns : base.Ns mainGlobals mg) : mg "all" = none := He.free_ok kin ns (c.fact 39 (f := .free "all") rfl)
theorem f_bool (c : SaysM fa fn xa K) (kin : K.In base) (ns : base.Ns mainGlobals mg) : mg "bool" = none := He.free_ok kin ns (c.fact 40 (f := .free "bool") rfl)
theorem f_dict (c : SaysM fa fn xa K) (kin : K.In base) (ns : base.Ns mainGlobals mg) : mg "dict" = none := He.free_ok kin ns (c.fact 41 (f := .free "dict") rfl)
theorem f_enumerate (c : SaysM fa fn xa K) (kin : K.In base) (ns : base.Ns mainGlobals mg) : mg "enumerate" = none := He.free_ok kin ns (c.fact 42 (f := .free "enumerate") rfl)
theorem f_int (c : SaysM fa fn xa K) (kin : K.In base) (ns : base.Ns mainGlobals mg) : mg "int" = none := He.free_ok kin ns (c.fact 43 (f := .free "int") rfl)
theorem f_isinstance (c : SaysM fa fn xa K) (kin : K.In base) (ns : base.Ns mainGlobals mg) : mg "isinstance" = none := He.free_ok kin ns (c.fact 44 (f := .free "isinstance") rfl)
theorem f_len (c : SaysM fa fn xa K) (kin : K.In base) (ns : base.Ns mainGlobals mg) : mg "len" = none := He.free_ok kin ns (c.fact 45 (f := .free "len") rfl)
theorem f_list (c : SaysM fa fn xa K) (kin : K.In base) (ns : base.Ns mainGlobals mg) : mg "list" = none := He.free_ok kin ns (c.fact 46 (f := .free "list") rfl)
theorem f_max (c : SaysM fa fn xa K) (kin : K.In base) (ns : base.Ns mainGlobals mg) : mg "max" = none := He.free_ok kin ns (c.fact 47 (f := .free "max") rfl)
theorem f_min (c : SaysM fa fn xa K) (kin : K.In base) (ns : base.Ns mainGlobals mg) : mg "min" = none := He.free_ok kin ns (c.fact 48 (f := .free "min") rfl)
theorem f_range (c : SaysM fa fn xa K) (kin : K.In base) (ns : base.Ns mainGlobals mg) : mg "range" = none := He.free_ok kin ns (c.fact 49 (f := .free "range") rfl)
theorem f_repr (c : SaysM fa fn xa K) (kin : K.In base) (ns : base.Ns mainGlobals mg) : mg "repr" = none := He.free_ok kin ns (c.fact 50 (f := .free "repr") rfl)
theorem f_reversed (c : SaysM fa fn xa K) (kin : K.In base) (ns : base.Ns mainGlobals mg) : mg "reversed" = none := He.free_ok kin ns (c.fact 51 (f := .free "reversed") rfl)
theorem f_sum (c : SaysM fa fn xa K) (kin : K.In base) (ns : base.Ns mainGlobals mg) : mg "sum" = none := He.free_ok kin ns (c.fact 52 (f := .free "sum") rfl)
theorem f_tuple (c : SaysM fa fn xa K) (kin : K.In base) (ns : base.Ns mainGlobals mg) : mg "tuple" = none := He.free_ok kin ns (c.fact 53 (f := .free "tuple") rfl)
theorem c_MOST_PLACES (c : SaysM fa fn xa K) (kin : K.In base) (ns : base.Ns mainGlobals mg) : ∃ u, mg "MOST_PLACES" = some u ∧ L2.RelV (.int 16) u := (He.int_ok kin ns (c.fact 54 (f := .int "MOST_PLACES" 16) rfl)).elim fun t e => ⟨_, e, t, rfl⟩
theorem c_MOST_CHANGES (c : SaysM fa fn xa K) (kin : K.In base) (ns : base.Ns mainGlobals mg) : ∃ u, mg "MOST_CHANGES" = some u ∧ L2.RelV (.int 20) u := (He.int_ok kin ns (c.fact 55 (f := .int "MOST_CHANGES" 20) rfl)).elim fun t e => ⟨_, e, t, rfl⟩
theorem c_MOST_MARKS (c : SaysM fa fn xa K) (kin : K.In base) (ns : base.Ns mainGlobals mg) : ∃ u, mg "MOST_MARKS" = some u ∧ L2.RelV (.int 200) u := (He.int_ok kin ns (c.fact 56 (f := .int "MOST_MARKS" 200) rfl)).elim fun t e => ⟨_, e, t, rfl⟩
theorem c_TOP_LABEL (c : SaysM fa fn xa K) (kin : K.In base) (ns : base.Ns mainGlobals mg) : ∃ u, mg "TOP_LABEL" = some u ∧ L2.RelV (.int 1024) u := (He.int_ok kin ns (c.fact 57 (f := .int "TOP_LABEL" 1024) rfl)).elim fun t e => ⟨_, e, t, rfl⟩
theorem c_MOST_MAKES (c : SaysM fa fn xa K) (kin : K.In base) (ns : base.Ns mainGlobals mg) : ∃ u, mg "MOST_MAKES" = some u ∧ L2.RelV (.int 64) u := (He.int_ok kin ns (c.fact 58 (f := .int "MOST_MAKES" 64) rfl)).elim fun t e => ⟨_, e, t, rfl⟩
theorem fa_noat_NoRow_found (c : SaysM fa fn xa K) : (He.Fa.noat "NoRow" "found" : He.Fa).ok K = true := c.fact 59 rfl
theorem fa_cls_Boxed (c : SaysM fa fn xa K) : (He.Fa.cls "Boxed" : He.Fa).ok K = true := c.fact 60 rfl
theorem fa_noat_Boxed_wide (c : SaysM fa fn xa K) : (He.Fa.noat "Boxed" "wide" : He.Fa).ok K = true := c.fact 61 rfl
theorem fa_cls_LeapTree (c : SaysM fa fn xa K) : (He.Fa.cls "LeapTree" : He.Fa).ok K = true := c.fact 62 rfl
theorem fa_noat_LeapTree_owners (c : SaysM fa fn xa K) : (He.Fa.noat "LeapTree" "owners" : He.Fa).ok K = true := c.fact 63 rfl
theorem fa_noat_LeapTree_depths (c : SaysM fa fn xa K) : (He.Fa.noat "LeapTree" "depths" : He.Fa).ok K = true := c.fact 64 rfl
theorem fa_noat_LeapTree_leaping (c : SaysM fa fn xa K) : (He.Fa.noat "LeapTree" "leaping" : He.Fa).ok K = true := c.fact 65 rfl
theorem fa_mkr_LeapTree (c : SaysM fa fn xa K) : (He.Fa.mkr "LeapTree" : He.Fa).ok K = true := c.fact 66 rfl
theorem fa_noat_Boxed_grown (c : SaysM fa fn xa K) : (He.Fa.noat "Boxed" "grown" : He.Fa).ok K = true := c.fact 67 rfl
theorem fa_noat_Boxed_wrote (c : SaysM fa fn xa K) : (He.Fa.noat "Boxed" "wrote" : He.Fa).ok K = true := c.fact 68 rfl
theorem fa_noat_Boxed_gone (c : SaysM fa fn xa K) : (He.Fa.noat "Boxed" "gone" : He.Fa).ok K = true := c.fact 69 rfl
theorem fa_noat_Boxed_counted (c : SaysM fa fn xa K) : (He.Fa.noat "Boxed" "counted" : He.Fa).ok K = true := c.fact 70 rfl
theorem fa_noat_Boxed_boxes (c : SaysM fa fn xa K) : (He.Fa.noat "Boxed" "boxes" : He.Fa).ok K = true := c.fact 71 rfl
theorem fa_cls_Order (c : SaysM fa fn xa K) : (He.Fa.cls "Order" : He.Fa).ok K = true := c.fact 72 rfl
theorem fa_noat_Order_standing (c : SaysM fa fn xa K) : (He.Fa.noat "Order" "standing" : He.Fa).ok K = true := c.fact 73 rfl
theorem fa_noat_Order_labelled (c : SaysM fa fn xa K) : (He.Fa.noat "Order" "labelled" : He.Fa).ok K = true := c.fact 74 rfl
theorem fa_noat_Order_given (c : SaysM fa fn xa K) : (He.Fa.noat "Order" "given" : He.Fa).ok K = true := c.fact 75 rfl
theorem fa_noat_Order_times (c : SaysM fa fn xa K) : (He.Fa.noat "Order" "times" : He.Fa).ok K = true := c.fact 76 rfl
theorem fa_mkr_Order (c : SaysM fa fn xa K) : (He.Fa.mkr "Order" : He.Fa).ok K = true := c.fact 77 rfl
theorem fa_noat_Boxed_placed (c : SaysM fa fn xa K) : (He.Fa.noat "Boxed" "placed" : He.Fa).ok K = true := c.fact 78 rfl
theorem fa_noat_Boxed_owners (c : SaysM fa fn xa K) : (He.Fa.noat "Boxed" "owners" : He.Fa).ok K = true := c.fact 79 rfl
theorem fa_noat_Boxed_marked (c : SaysM fa fn xa K) : (He.Fa.noat "Boxed" "marked" : He.Fa).ok K = true := c.fact 80 rfl
theorem fa_meth_Boxed_begin (c : SaysM fa fn xa K) : (He.Fa.meth "Boxed" "begin" : He.Fa).ok K = true := c.fact 81 rfl
theorem fa_noat_NoMake_found (c : SaysM fa fn xa K) : (He.Fa.noat "NoMake" "found" : He.Fa).ok K = true := c.fact 82 rfl
theorem fa_meth_Boxed_need_make (c : SaysM fa fn xa K) : (He.Fa.meth "Boxed" "need_make" : He.Fa).ok K = true := c.fact 83 rfl
theorem fa_meth_Boxed_makes (c : SaysM fa fn xa K) : (He.Fa.meth "Boxed" "makes" : He.Fa).ok K = true := c.fact 84 rfl
theorem fa_noat_Alone_found (c : SaysM fa fn xa K) : (He.Fa.noat "Alone" "found" : He.Fa).ok K = true := c.fact 85 rfl
theorem fa_meth_Boxed_size (c : SaysM fa fn xa K) : (He.Fa.meth "Boxed" "size" : He.Fa).ok K = true := c.fact 86 rfl
theorem fa_noat_NoPlace_found (c : SaysM fa fn xa K) : (He.Fa.noat "NoPlace" "found" : He.Fa).ok K = true := c.fact 87 rfl
theorem fa_meth_Boxed_need_place (c : SaysM fa fn xa K) : (He.Fa.meth "Boxed" "need_place" : He.Fa).ok K = true := c.fact 88 rfl
theorem fa_meth_LeapTree_need_make (c : SaysM fa fn xa K) : (He.Fa.meth "LeapTree" "need_make" : He.Fa).ok K = true := c.fact 89 rfl
theorem fa_meth_LeapTree_own (c : SaysM fa fn xa K) : (He.Fa.meth "LeapTree" "own" : He.Fa).ok K = true := c.fact 90 rfl
theorem fa_meth_Boxed_writer_of (c : SaysM fa fn xa K) : (He.Fa.meth "Boxed" "writer_of" : He.Fa).ok K = true := c.fact 91 rfl
theorem fa_meth_Boxed_writer (c : SaysM fa fn xa K) : (He.Fa.meth "Boxed" "writer" : He.Fa).ok K = true := c.fact 92 rfl
theorem fa_noat_NoMark_found (c : SaysM fa fn xa K) : (He.Fa.noat "NoMark" "found" : He.Fa).ok K = true := c.fact 93 rfl
theorem fa_meth_Order_need_mark (c : SaysM fa fn xa K) : (He.Fa.meth "Order" "need_mark" : He.Fa).ok K = true := c.fact 94 rfl
theorem fa_meth_Order_drop (c : SaysM fa fn xa K) : (He.Fa.meth "Order" "drop" : He.Fa).ok K = true := c.fact 95 rfl
theorem fa_meth_Order_marks (c : SaysM fa fn xa K) : (He.Fa.meth "Order" "marks" : He.Fa).ok K = true := c.fact 96 rfl
theorem fa_meth_Boxed_in_order (c : SaysM fa fn xa K) : (He.Fa.meth "Boxed" "in_order" : He.Fa).ok K = true := c.fact 97 rfl
theorem fa_meth_Boxed_runs (c : SaysM fa fn xa K) : (He.Fa.meth "Boxed" "runs" : He.Fa).ok K = true := c.fact 98 rfl
theorem fa_meth_Boxed_is_read (c : SaysM fa fn xa K) : (He.Fa.meth "Boxed" "is_read" : He.Fa).ok K = true := c.fact 99 rfl
theorem fa_meth_Boxed_freed (c : SaysM fa fn xa K) : (He.Fa.meth "Boxed" "freed" : He.Fa).ok K = true := c.fact 100 rfl
theorem fa_meth_Boxed_let_go (c : SaysM fa fn xa K) : (He.Fa.meth "Boxed" "let_go" : He.Fa).ok K = true := c.fact 101 rfl
theorem fa_noat_NoWorth_found (c : SaysM fa fn xa K) : (He.Fa.noat "NoWorth" "found" : He.Fa).ok K = true := c.fact 102 rfl
theorem fa_meth_Boxed_need_new (c : SaysM fa fn xa K) : (He.Fa.meth "Boxed" "need_new" : He.Fa).ok K = true := c.fact 103 rfl
theorem fa_meth_LeapTree_many (c : SaysM fa fn xa K) : (He.Fa.meth "LeapTree" "many" : He.Fa).ok K = true := c.fact 104 rfl
theorem fa_noat_TooMany_count (c : SaysM fa fn xa K) : (He.Fa.noat "TooMany" "count" : He.Fa).ok K = true := c.fact 105 rfl
theorem fa_meth_Boxed_need_room (c : SaysM fa fn xa K) : (He.Fa.meth "Boxed" "need_room" : He.Fa).ok K = true := c.fact 106 rfl
theorem fa_meth_LeapTree_lay (c : SaysM fa fn xa K) : (He.Fa.meth "LeapTree" "lay" : He.Fa).ok K = true := c.fact 107 rfl
theorem fa_meth_LeapTree_grow (c : SaysM fa fn xa K) : (He.Fa.meth "LeapTree" "grow" : He.Fa).ok K = true := c.fact 108 rfl
theorem fa_meth_Boxed_add_steps (c : SaysM fa fn xa K) : (He.Fa.meth "Boxed" "add_steps" : He.Fa).ok K = true := c.fact 109 rfl
theorem fa_meth_Order_ahead (c : SaysM fa fn xa K) : (He.Fa.meth "Order" "ahead" : He.Fa).ok K = true := c.fact 110 rfl
theorem fa_meth_Boxed_spot_of (c : SaysM fa fn xa K) : (He.Fa.meth "Boxed" "spot_of" : He.Fa).ok K = true := c.fact 111 rfl
theorem fa_meth_Order_label_behind (c : SaysM fa fn xa K) : (He.Fa.meth "Order" "label_behind" : He.Fa).ok K = true := c.fact 112 rfl
theorem fa_meth_Order_label_all (c : SaysM fa fn xa K) : (He.Fa.meth "Order" "label_all" : He.Fa).ok K = true := c.fact 113 rfl
theorem fa_meth_Order_behind (c : SaysM fa fn xa K) : (He.Fa.meth "Order" "behind" : He.Fa).ok K = true := c.fact 114 rfl
theorem fa_meth_Boxed_store (c : SaysM fa fn xa K) : (He.Fa.meth "Boxed" "store" : He.Fa).ok K = true := c.fact 115 rfl
theorem fa_meth_Boxed_written (c : SaysM fa fn xa K) : (He.Fa.meth "Boxed" "written" : He.Fa).ok K = true := c.fact 116 rfl
theorem fa_meth_Boxed_put (c : SaysM fa fn xa K) : (He.Fa.meth "Boxed" "put" : He.Fa).ok K = true := c.fact 117 rfl
theorem fa_noat_NoChanges_found (c : SaysM fa fn xa K) : (He.Fa.noat "NoChanges" "found" : He.Fa).ok K = true := c.fact 118 rfl
theorem fa_meth_Boxed_put_all (c : SaysM fa fn xa K) : (He.Fa.meth "Boxed" "put_all" : He.Fa).ok K = true := c.fact 119 rfl
theorem fa_meth_Order_copied (c : SaysM fa fn xa K) : (He.Fa.meth "Order" "copied" : He.Fa).ok K = true := c.fact 120 rfl
theorem fa_meth_LeapTree_copied (c : SaysM fa fn xa K) : (He.Fa.meth "LeapTree" "copied" : He.Fa).ok K = true := c.fact 121 rfl
theorem fa_meth_Boxed_same_makes (c : SaysM fa fn xa K) : (He.Fa.meth "Boxed" "same_makes" : He.Fa).ok K = true := c.fact 122 rfl
theorem fa_meth_Boxed_copied (c : SaysM fa fn xa K) : (He.Fa.meth "Boxed" "copied" : He.Fa).ok K = true := c.fact 123 rfl
theorem fa_meth_Boxed_box (c : SaysM fa fn xa K) : (He.Fa.meth "Boxed" "box" : He.Fa).ok K = true := c.fact 124 rfl
theorem fa_meth_Boxed_room (c : SaysM fa fn xa K) : (He.Fa.meth "Boxed" "room" : He.Fa).ok K = true := c.fact 125 rfl
theorem fa_noat_NoNumber_found (c : SaysM fa fn xa K) : (He.Fa.noat "NoNumber" "found" : He.Fa).ok K = true := c.fact 126 rfl
theorem fa_exm_Alone_MakesError_True (c : SaysM fa fn xa K) : (He.Fa.exm "Alone" "MakesError" true : He.Fa).ok K = true := c.fact 127 rfl
theorem fa_exm_TooMany_MakesError_True (c : SaysM fa fn xa K) : (He.Fa.exm "TooMany" "MakesError" true : He.Fa).ok K = true := c.fact 128 rfl
theorem fa_exm_NoChanges_MakesError_True (c : SaysM fa fn xa K) : (He.Fa.exm "NoChanges" "MakesError" true : He.Fa).ok K = true := c.fact 129 rfl
theorem fa_exm_NoNumber_MakesError_True (c : SaysM fa fn xa K) : (He.Fa.exm "NoNumber" "MakesError" true : He.Fa).ok K = true := c.fact 130 rfl
theorem fa_exm_NoMark_MakesError_True (c : SaysM fa fn xa K) : (He.Fa.exm "NoMark" "MakesError" true : He.Fa).ok K = true := c.fact 131 rfl
theorem fa_exm_NoMake_MakesError_True (c : SaysM fa fn xa K) : (He.Fa.exm "NoMake" "MakesError" true : He.Fa).ok K = true := c.fact 132 rfl
theorem fa_exm_NoStretch_MakesError_True (c : SaysM fa fn xa K) : (He.Fa.exm "NoStretch" "MakesError" true : He.Fa).ok K = true := c.fact 133 rfl
theorem fa_exm_NoPlace_MakesError_True (c : SaysM fa fn xa K) : (He.Fa.exm "NoPlace" "MakesError" true : He.Fa).ok K = true := c.fact 134 rfl
theorem fa_exm_NoWorth_MakesError_True (c : SaysM fa fn xa K) : (He.Fa.exm "NoWorth" "MakesError" true : He.Fa).ok K = true := c.fact 135 rfl
theorem fa_exm_NoRow_MakesError_True (c : SaysM fa fn xa K) : (He.Fa.exm "NoRow" "MakesError" true : He.Fa).ok K = true := c.fact 136 rfl
theorem xa_veb (c : SaysM fa fn xa K) : (Xa.veb  : Xa).ok K = true := c.xact 0 rfl
theorem xa_cfn_MakesError___init__ (c : SaysM fa fn xa K) : (Xa.cfn "MakesError" "__init__" : Xa).ok K = true := c.xact 1 rfl
theorem xa_oex_NoRow (c : SaysM fa fn xa K) : (Xa.oex "NoRow" : Xa).ok K = true := c.xact 2 rfl
theorem xa_init_NoRow (c : SaysM fa fn xa K) : (Xa.init "NoRow" : Xa).ok K = true := c.xact 3 rfl
theorem xa_cfn_MakeTree___init__ (c : SaysM fa fn xa K) : (Xa.cfn "MakeTree" "__init__" : Xa).ok K = true := c.xact 4 rfl
theorem xa_mki_Boxed_Rows (c : SaysM fa fn xa K) : (Xa.mki "Boxed" "Rows" : Xa).ok K = true := c.xact 5 rfl
theorem xa_oex_NoMake (c : SaysM fa fn xa K) : (Xa.oex "NoMake" : Xa).ok K = true := c.xact 6 rfl
theorem xa_init_NoMake (c : SaysM fa fn xa K) : (Xa.init "NoMake" : Xa).ok K = true := c.xact 7 rfl
theorem xa_oex_Alone (c : SaysM fa fn xa K) : (Xa.oex "Alone" : Xa).ok K = true := c.xact 8 rfl
theorem xa_init_Alone (c : SaysM fa fn xa K) : (Xa.init "Alone" : Xa).ok K = true := c.xact 9 rfl
theorem xa_oex_NoPlace (c : SaysM fa fn xa K) : (Xa.oex "NoPlace" : Xa).ok K = true := c.xact 10 rfl
theorem xa_init_NoPlace (c : SaysM fa fn xa K) : (Xa.init "NoPlace" : Xa).ok K = true := c.xact 11 rfl
theorem xa_oex_NoMark (c : SaysM fa fn xa K) : (Xa.oex "NoMark" : Xa).ok K = true := c.xact 12 rfl
theorem xa_init_NoMark (c : SaysM fa fn xa K) : (Xa.init "NoMark" : Xa).ok K = true := c.xact 13 rfl
theorem xa_oex_NoWorth (c : SaysM fa fn xa K) : (Xa.oex "NoWorth" : Xa).ok K = true := c.xact 14 rfl
theorem xa_init_NoWorth (c : SaysM fa fn xa K) : (Xa.init "NoWorth" : Xa).ok K = true := c.xact 15 rfl
theorem xa_oex_TooMany (c : SaysM fa fn xa K) : (Xa.oex "TooMany" : Xa).ok K = true := c.xact 16 rfl
theorem xa_init_TooMany (c : SaysM fa fn xa K) : (Xa.init "TooMany" : Xa).ok K = true := c.xact 17 rfl
theorem xa_oex_NoChanges (c : SaysM fa fn xa K) : (Xa.oex "NoChanges" : Xa).ok K = true := c.xact 18 rfl
theorem xa_init_NoChanges (c : SaysM fa fn xa K) : (Xa.init "NoChanges" : Xa).ok K = true := c.xact 19 rfl
theorem xa_exk_Alone (c : SaysM fa fn xa K) : (Xa.exk "Alone" : Xa).ok K = true := c.xact 20 rfl
theorem xa_kit_Alone_NoPlace_False (c : SaysM fa fn xa K) : (Xa.kit "Alone" "NoPlace" false : Xa).ok K = true := c.xact 21 rfl
theorem xa_exk_TooMany (c : SaysM fa fn xa K) : (Xa.exk "TooMany" : Xa).ok K = true := c.xact 22 rfl
theorem xa_kit_TooMany_NoPlace_False (c : SaysM fa fn xa K) : (Xa.kit "TooMany" "NoPlace" false : Xa).ok K = true := c.xact 23 rfl
theorem xa_exk_NoChanges (c : SaysM fa fn xa K) : (Xa.exk "NoChanges" : Xa).ok K = true := c.xact 24 rfl
theorem xa_kit_NoChanges_NoPlace_False (c : SaysM fa fn xa K) : (Xa.kit "NoChanges" "NoPlace" false : Xa).ok K = true := c.xact 25 rfl
theorem xa_exk_NoNumber (c : SaysM fa fn xa K) : (Xa.exk "NoNumber" : Xa).ok K = true := c.xact 26 rfl
theorem xa_kit_NoNumber_NoPlace_False (c : SaysM fa fn xa K) : (Xa.kit "NoNumber" "NoPlace" false : Xa).ok K = true := c.xact 27 rfl
theorem xa_exk_NoMark (c : SaysM fa fn xa K) : (Xa.exk "NoMark" : Xa).ok K = true := c.xact 28 rfl
theorem xa_kit_NoMark_NoPlace_False (c : SaysM fa fn xa K) : (Xa.kit "NoMark" "NoPlace" false : Xa).ok K = true := c.xact 29 rfl
theorem xa_exk_NoMake (c : SaysM fa fn xa K) : (Xa.exk "NoMake" : Xa).ok K = true := c.xact 30 rfl
theorem xa_kit_NoMake_NoPlace_False (c : SaysM fa fn xa K) : (Xa.kit "NoMake" "NoPlace" false : Xa).ok K = true := c.xact 31 rfl
theorem xa_exk_NoStretch (c : SaysM fa fn xa K) : (Xa.exk "NoStretch" : Xa).ok K = true := c.xact 32 rfl
theorem xa_kit_NoStretch_NoPlace_False (c : SaysM fa fn xa K) : (Xa.kit "NoStretch" "NoPlace" false : Xa).ok K = true := c.xact 33 rfl
theorem xa_exk_NoPlace (c : SaysM fa fn xa K) : (Xa.exk "NoPlace" : Xa).ok K = true := c.xact 34 rfl
theorem xa_kit_NoPlace_NoPlace_True (c : SaysM fa fn xa K) : (Xa.kit "NoPlace" "NoPlace" true : Xa).ok K = true := c.xact 35 rfl
theorem xa_exk_NoWorth (c : SaysM fa fn xa K) : (Xa.exk "NoWorth" : Xa).ok K = true := c.xact 36 rfl
theorem xa_kit_NoWorth_NoPlace_False (c : SaysM fa fn xa K) : (Xa.kit "NoWorth" "NoPlace" false : Xa).ok K = true := c.xact 37 rfl
theorem xa_exk_NoRow (c : SaysM fa fn xa K) : (Xa.exk "NoRow" : Xa).ok K = true := c.xact 38 rfl
theorem xa_kit_NoRow_NoPlace_False (c : SaysM fa fn xa K) : (Xa.kit "NoRow" "NoPlace" false : Xa).ok K = true := c.xact 39 rfl
theorem xa_xfc_Alone (c : SaysM fa fn xa K) : (Xa.xfc "Alone" : Xa).ok K = true := c.xact 40 rfl
theorem xa_xfc_NoChanges (c : SaysM fa fn xa K) : (Xa.xfc "NoChanges" : Xa).ok K = true := c.xact 41 rfl
theorem xa_xfc_NoNumber (c : SaysM fa fn xa K) : (Xa.xfc "NoNumber" : Xa).ok K = true := c.xact 42 rfl
theorem xa_xfc_NoMark (c : SaysM fa fn xa K) : (Xa.xfc "NoMark" : Xa).ok K = true := c.xact 43 rfl
theorem xa_xfc_NoMake (c : SaysM fa fn xa K) : (Xa.xfc "NoMake" : Xa).ok K = true := c.xact 44 rfl
theorem xa_xfc_NoPlace (c : SaysM fa fn xa K) : (Xa.xfc "NoPlace" : Xa).ok K = true := c.xact 45 rfl
theorem xa_xfc_NoWorth (c : SaysM fa fn xa K) : (Xa.xfc "NoWorth" : Xa).ok K = true := c.xact 46 rfl
theorem xa_xfc_NoRow (c : SaysM fa fn xa K) : (Xa.xfc "NoRow" : Xa).ok K = true := c.xact 47 rfl
theorem ok_L_cell_at (c : SaysM fa fn xa K) (kin : K.In base) (ns : base.Ns mainGlobals mg) : OkG P w K mg base 1 (He.ga K "_law_cell_at") ["_law_script", "_law_k"] (sp_L_cell_at K) := by
  refine OkG.of (t := t_L_cell_at K) (n := 2) (m := 0) (c.def_ 0 (d := dd_L_cell_at) rfl) sc_L_cell_at (fun _ _ _ _ _ _ us hl => match us, hl with | [_, _], _ => rfl) rfl rfl (fun vs H Q E z => by unfold sp_L_cell_at at z; exact z) ?_
  intro cdv A outer s H E hr hg
  have hu := hr.units
  exact pss_cons (msif (mtc o_lt (mv 1) (mcb k_len rfl (f_len c kin ns) (by decide +kernel) (mac (mv 0) (man)))) (pss_one (msr (mix hu (mv 0) (mv 1)))) (pss_nil)) (pss_one (msr (mbin o_add (mbin o_mul (mi) (mv 1)) (mi))))
theorem ok_L_box (c : SaysM fa fn xa K) (kin : K.In base) (ns : base.Ns mainGlobals mg) : OkG P w K mg base 1 (He.ga K "_law_box") ["_law_cell"] (sp_L_box K) := by
  refine OkG.of (t := t_L_box K) (n := 1) (m := 0) (c.def_ 1 (d := dd_L_box) rfl) sc_L_box (fun _ _ _ _ _ _ us hl => match us, hl with | [_], _ => rfl) rfl rfl (fun vs H Q E z => by unfold sp_L_box at z; exact z) ?_
  intro cdv A outer s H E hr hg
  have hu := hr.units
  exact pss_one (msr (mdis (pps_cons (ms) (mcb (k_max rfl) rfl (f_max c kin ns) (by decide +kernel) (mac (mi) (mac (mbin o_sub (mv 0) (mbin o_pow (mi) (mi))) (man)))) (pps_cons (ms) (mbin o_mod (mv 0) (mi)) (pps_cons (ms) (mi) (pps_nil))))))
theorem ok_L_take (c : SaysM fa fn xa K) (kin : K.In base) (ns : base.Ns mainGlobals mg) : OkG P w K mg base 1 (He.ga K "_law_take") ["_law_box_here", "_law_many"] (sp_L_take K) := by
  refine OkG.of (t := t_L_take K) (n := 2) (m := 2) (c.def_ 2 (d := dd_L_take) rfl) sc_L_take (fun _ _ _ _ _ _ us hl => match us, hl with | [_, _], _ => rfl) rfl rfl (fun vs H Q E z => by unfold sp_L_take at z; exact z) ?_
  intro cdv A outer s H E hr hg
  have hu := hr.units
  exact pss_cons (msif (mtc o_gt (mix hu (mv 0) (ms)) (mi)) (pss_cons (mset (i := 2) sc_L_take.nd rfl (by first | exact Or.inl rfl | exact Or.inr rfl) (mbin o_mod (mix hu (mv 0) (ms)) (mv 1))) (pss_cons (mseti hu (mbin o_div (mix hu (mv 0) (ms)) (mv 1)) (mv 0) (ms)) (pss_one (msr (mv 2))))) (pss_nil)) (pss_cons (mseti hu (mbin o_add (mix hu (mv 0) (ms)) (mi)) (mv 0) (ms)) (pss_cons (mset (i := 3) sc_L_take.nd rfl (by first | exact Or.inl rfl | exact Or.inr rfl) (mbin o_mod (mbin o_pow (mbin o_add (mix hu (mv 0) (ms)) (mbin o_mul (mi) (mix hu (mv 0) (ms)))) (mi)) (mi))) (pss_cons (mset (i := 3) sc_L_take.nd rfl (by first | exact Or.inl rfl | exact Or.inr rfl) (mbin o_mod (mbin o_pow (mbin o_add (mv 3) (mbin o_mul (mi) (mix hu (mv 0) (ms)))) (mi)) (mi))) (pss_one (msr (mbin o_mod (mbin o_div (mv 3) (mi)) (mv 1)))))))
theorem ok_is_whole (c : SaysM fa fn xa K) (kin : K.In base) (ns : base.Ns mainGlobals mg) : OkG P w K mg base 1 (He.ga K "is_whole") ["thing", "low", "high"] (sp_is_whole K) := by
  refine OkG.of (t := t_is_whole K) (n := 3) (m := 0) (c.def_ 3 (d := dd_is_whole) rfl) sc_is_whole (fun _ _ _ _ _ _ us hl => match us, hl with | [_, _, _], _ => rfl) rfl rfl (fun vs H Q E z => by unfold sp_is_whole at z; exact z) ?_
  intro cdv A outer s H E hr hg
  have hu := hr.units
  exact pss_one (msr (mea (mcb (k_isi (T := .int) (fun z => by cases z)) rfl (f_isinstance c kin ns) (by decide +kernel) (mac (mv 0) (mac (mc (pe_bltn rfl (f_int c kin ns) (by decide +kernel) rfl)) man))) (mea (men (mcb (k_isi (T := .bool) (fun z => by cases z)) rfl (f_isinstance c kin ns) (by decide +kernel) (mac (mv 0) (mac (mc (pe_bltn rfl (f_bool c kin ns) (by decide +kernel) rfl)) man)))) (me1 (mch o_le o_le (mv 1) (mv 0) (mv 2))))))
theorem ok_MakesError_init (c : SaysM fa fn xa K) (kin : K.In base) (ns : base.Ns mainGlobals mg) : OkG P w K mg base 1 (He.ma K (He.ga K "MakesError") "__init__") ["self", "text"] (sp_MakesError_init K) := by
  refine OkG.of (t := t_MakesError_init K) (n := 2) (m := 0) (c.def_ 4 (d := dd_MakesError_init) rfl) sc_MakesError_init (fun _ _ _ _ _ _ us hl => match us, hl with | [_, _], _ => rfl) rfl rfl (fun vs H Q E z => by unfold sp_MakesError_init at z; exact z) ?_
  intro cdv A outer s H E hr hg
  have hu := hr.units
  exact pss_one (msx (pe_veinit rfl (f_ValueError c kin ns) (veb_ok (xa_veb c)) (mac (mv 0) (mac (mv 1) (man)))))
theorem ok_LeapTree_MakeTree_init (c : SaysM fa fn xa K) (kin : K.In base) (ns : base.Ns mainGlobals mg) : OkG P w K mg base 1 (He.ma K (He.ga K "MakeTree") "__init__") ["self"] (sp_LeapTree_MakeTree_init K) := by
  refine OkG.of (t := t_LeapTree_MakeTree_init K) (n := 1) (m := 0) (c.def_ 5 (d := dd_LeapTree_MakeTree_init) rfl) sc_LeapTree_MakeTree_init (fun _ _ _ _ _ _ us hl => match us, hl with | [_], _ => rfl) rfl rfl (fun vs H Q E z => by unfold sp_LeapTree_MakeTree_init at z; exact z) ?_
  intro cdv A outer s H E hr hg
  have hu := hr.units
  exact pss_cons (mstf (mlst (mac (mn) (man))) (mv 0) (clc ⟨He.cls_ok (fa_cls_LeapTree c), He.noat_ok (fa_noat_LeapTree_owners c)⟩ (cl0))) (pss_one (mstf (mlst (mac (mi) (man))) (mv 0) (clc ⟨He.cls_ok (fa_cls_LeapTree c), He.noat_ok (fa_noat_LeapTree_depths c)⟩ (cl0))))
theorem ok_Order_init (c : SaysM fa fn xa K) (kin : K.In base) (ns : base.Ns mainGlobals mg) : OkG P w K mg base 1 (He.ma K (He.ga K "Order") "__init__") ["self"] (sp_Order_init K) := by
  refine OkG.of (t := t_Order_init K) (n := 1) (m := 0) (c.def_ 6 (d := dd_Order_init) rfl) sc_Order_init (fun _ _ _ _ _ _ us hl => match us, hl with | [_], _ => rfl) rfl rfl (fun vs H Q E z => by unfold sp_Order_init at z; exact z) ?_
  intro cdv A outer s H E hr hg
  have hu := hr.units
  exact pss_cons (mstf (mlst (mac (mi) (man))) (mv 0) (clc ⟨He.cls_ok (fa_cls_Order c), He.noat_ok (fa_noat_Order_standing c)⟩ (cl0))) (pss_cons (mstf (mdis (pps_cons (mi) (mi) (pps_nil))) (mv 0) (clc ⟨He.cls_ok (fa_cls_Order c), He.noat_ok (fa_noat_Order_labelled c)⟩ (cl0))) (pss_cons (mstf (mi) (mv 0) (clc ⟨He.cls_ok (fa_cls_Order c), He.noat_ok (fa_noat_Order_given c)⟩ (cl0))) (pss_one (mstf (mi) (mv 0) (clc ⟨He.cls_ok (fa_cls_Order c), He.noat_ok (fa_noat_Order_times c)⟩ (cl0))))))
theorem ok_L_model (c : SaysM fa fn xa K) (kin : K.In base) (ns : base.Ns mainGlobals mg) : OkG P w K mg base 1 (He.ga K "_law_model") ["_law_worths_here"] (sp_L_model K) := by
  refine OkG.of (t := t_L_model K) (n := 1) (m := 0) (c.def_ 7 (d := dd_L_model) rfl) sc_L_model (fun _ _ _ _ _ _ us hl => match us, hl with | [_], _ => rfl) rfl rfl (fun vs H Q E z => by unfold sp_L_model at z; exact z) ?_
  intro cdv A outer s H E hr hg
  have hu := hr.units
  exact pss_one (msr (mdis (pps_cons (ms) (mlst (mac (mct k_list rfl (f_list c kin ns) (by decide +kernel) (mac (mv 0) (man))) (man))) (pps_cons (ms) (mlst (mac (mn) (man))) (pps_cons (ms) (mlst (mac (mn) (man))) (pps_cons (ms) (mlst (mac (mi) (man))) (pps_nil)))))))
theorem ok_Boxed_makes (c : SaysM fa fn xa K) (kin : K.In base) (ns : base.Ns mainGlobals mg) : OkG P w K mg base 1 (He.ma K (He.ga K "Boxed") "makes") ["self"] (sp_Boxed_makes K) := by
  refine OkG.of (t := t_Boxed_makes K) (n := 1) (m := 2) (c.def_ 8 (d := dd_Boxed_makes) rfl) sc_Boxed_makes (fun _ _ _ _ _ _ us hl => match us, hl with | [_], _ => rfl) rfl rfl (fun vs H Q E z => by unfold sp_Boxed_makes at z; exact z) ?_
  intro cdv A outer s H E hr hg
  have hu := hr.units
  exact pss_one (msr (mlc (own := [("make", 1), ("gone", 2)]) rfl sc_Boxed_makes.nd (menu rfl (f_enumerate c kin ns) (mac (mfld (mv 0) (clc ⟨He.cls_ok (fa_cls_Boxed c), He.noat_ok (fa_noat_Boxed_gone c)⟩ (cl0))) (man))) (blkOk_by (N := N_Boxed_makes) (sc := defScope s_Boxed_makes) (own := [("make", 1), ("gone", 2)]) (by decide +kernel)) (fun _ _ _ _ _ => mgu rfl (mg1 (mgn sc_Boxed_makes.nd rfl (by first | exact Or.inl rfl | exact Or.inr rfl)) (mg1 (mgn sc_Boxed_makes.nd rfl (by first | exact Or.inl rfl | exact Or.inr rfl)) (mg0)))) (fun _ _ _ _ _ => pts_one (mtn (mtv (mv 2)))) (fun _ _ _ _ _ => mv 1)))
theorem ok_Boxed_size (c : SaysM fa fn xa K) (kin : K.In base) (ns : base.Ns mainGlobals mg) : OkG P w K mg base 1 (He.ma K (He.ga K "Boxed") "size") ["self"] (sp_Boxed_size K) := by
  refine OkG.of (t := t_Boxed_size K) (n := 1) (m := 0) (c.def_ 9 (d := dd_Boxed_size) rfl) sc_Boxed_size (fun _ _ _ _ _ _ us hl => match us, hl with | [_], _ => rfl) rfl rfl (fun vs H Q E z => by unfold sp_Boxed_size at z; exact z) ?_
  intro cdv A outer s H E hr hg
  have hu := hr.units
  exact pss_one (msr (mfld (mv 0) (clc ⟨He.cls_ok (fa_cls_Boxed c), He.noat_ok (fa_noat_Boxed_wide c)⟩ (cl0))))
theorem ok_Order_marks (c : SaysM fa fn xa K) (kin : K.In base) (ns : base.Ns mainGlobals mg) : OkG P w K mg base 1 (He.ma K (He.ga K "Order") "marks") ["self"] (sp_Order_marks K) := by
  refine OkG.of (t := t_Order_marks K) (n := 1) (m := 0) (c.def_ 10 (d := dd_Order_marks) rfl) sc_Order_marks (fun _ _ _ _ _ _ us hl => match us, hl with | [_], _ => rfl) rfl rfl (fun vs H Q E z => by unfold sp_Order_marks at z; exact z) ?_
  intro cdv A outer s H E hr hg
  have hu := hr.units
  exact pss_one (msr (mct k_list rfl (f_list c kin ns) (by decide +kernel) (mac (mfld (mv 0) (clc ⟨He.cls_ok (fa_cls_Order c), He.noat_ok (fa_noat_Order_standing c)⟩ (cl0))) (man))))
theorem ok_Boxed_is_read (c : SaysM fa fn xa K) (kin : K.In base) (ns : base.Ns mainGlobals mg) : OkG P w K mg base 1 (He.ma K (He.ga K "Boxed") "is_read") ["self", "place", "writer"] (sp_Boxed_is_read K) := by
  refine OkG.of (t := t_Boxed_is_read K) (n := 3) (m := 1) (c.def_ 11 (d := dd_Boxed_is_read) rfl) sc_Boxed_is_read (fun _ _ _ _ _ _ us hl => match us, hl with | [_, _, _], _ => rfl) rfl rfl (fun vs H Q E z => by unfold sp_Boxed_is_read at z; exact z) ?_
  intro cdv A outer s H E hr hg
  have hu := hr.units
  exact pss_one (msr (mcmp (o_in hu) (mv 2) (mlc (own := [("turn", 3)]) rfl sc_Boxed_is_read.nd (miv (mix hu (mfld (mv 0) (clc ⟨He.cls_ok (fa_cls_Boxed c), He.noat_ok (fa_noat_Boxed_boxes c)⟩ (cl0))) (mv 1))) (blkOk_by (N := N_Boxed_is_read) (sc := defScope s_Boxed_is_read) (own := [("turn", 3)]) (by decide +kernel)) (fun _ _ _ _ _ => mgn sc_Boxed_is_read.nd rfl (by first | exact Or.inl rfl | exact Or.inr rfl)) (fun _ _ _ _ _ => pts_nil) (fun _ _ _ _ _ => mix hu (mv 3) (mi)))))
theorem ok_LeapTree_many (c : SaysM fa fn xa K) (kin : K.In base) (ns : base.Ns mainGlobals mg) : OkG P w K mg base 1 (He.ma K (He.ga K "LeapTree") "many") ["self"] (sp_LeapTree_many K) := by
  refine OkG.of (t := t_LeapTree_many K) (n := 1) (m := 0) (c.def_ 12 (d := dd_LeapTree_many) rfl) sc_LeapTree_many (fun _ _ _ _ _ _ us hl => match us, hl with | [_], _ => rfl) rfl rfl (fun vs H Q E z => by unfold sp_LeapTree_many at z; exact z) ?_
  intro cdv A outer s H E hr hg
  have hu := hr.units
  exact pss_one (msr (mcb k_len rfl (f_len c kin ns) (by decide +kernel) (mac (mfld (mv 0) (clc ⟨He.cls_ok (fa_cls_LeapTree c), He.noat_ok (fa_noat_LeapTree_owners c)⟩ (cl0))) (man))))
theorem ok_LeapTree_lay (c : SaysM fa fn xa K) (kin : K.In base) (ns : base.Ns mainGlobals mg) : OkG P w K mg base 1 (He.ma K (He.ga K "LeapTree") "lay") ["self", "make"] (sp_LeapTree_lay K) := by
  refine OkG.of (t := t_LeapTree_lay K) (n := 2) (m := 1) (c.def_ 13 (d := dd_LeapTree_lay) rfl) sc_LeapTree_lay (fun _ _ _ _ _ _ us hl => match us, hl with | [_, _], _ => rfl) rfl rfl (fun vs H Q E z => by unfold sp_LeapTree_lay at z; exact z) ?_
  intro cdv A outer s H E hr hg
  have hu := hr.units
  exact pss_cons (msx (pe_bm PySem.F.plainAttrs_list PySem.F.slot_list_append PySem.F.type_list_append t_app (mfld (mv 0) (clc ⟨He.cls_ok (fa_cls_LeapTree c), He.noat_ok (fa_noat_LeapTree_depths c)⟩ (cl0))) (mac (mbin o_add (mix hu (mfld (mv 0) (clc ⟨He.cls_ok (fa_cls_LeapTree c), He.noat_ok (fa_noat_LeapTree_depths c)⟩ (cl0))) (mv 1)) (mi)) (man)))) (pss_cons (mset (i := 2) sc_LeapTree_lay.nd rfl (by first | exact Or.inl rfl | exact Or.inr rfl) (mlst (mac (mv 1) (man)))) (pss_cons (mwhile hp_of (mtc o_ge (mcb k_len rfl (f_len c kin ns) (by decide +kernel) (mac (mix hu (mfld (mv 0) (clc ⟨He.cls_ok (fa_cls_LeapTree c), He.noat_ok (fa_noat_LeapTree_leaping c)⟩ (cl0))) (mix hu (mv 2) (mun o_neg (mi)))) (man))) (mcb k_len rfl (f_len c kin ns) (by decide +kernel) (mac (mv 2) (man)))) (pss_one (msx (pe_bm PySem.F.plainAttrs_list PySem.F.slot_list_append PySem.F.type_list_append t_app (mv 2) (mac (mix hu (mix hu (mfld (mv 0) (clc ⟨He.cls_ok (fa_cls_LeapTree c), He.noat_ok (fa_noat_LeapTree_leaping c)⟩ (cl0))) (mix hu (mv 2) (mun o_neg (mi)))) (mbin o_sub (mcb k_len rfl (f_len c kin ns) (by decide +kernel) (mac (mv 2) (man))) (mi))) (man)))))) (pss_one (msx (pe_bm PySem.F.plainAttrs_list PySem.F.slot_list_append PySem.F.type_list_append t_app (mfld (mv 0) (clc ⟨He.cls_ok (fa_cls_LeapTree c), He.noat_ok (fa_noat_LeapTree_leaping c)⟩ (cl0))) (mac (mv 2) (man)))))))
theorem ok_Boxed_add_steps (c : SaysM fa fn xa K) (kin : K.In base) (ns : base.Ns mainGlobals mg) : OkG P w K mg base 1 (He.ma K (He.ga K "Boxed") "add_steps") ["self", "many"] (sp_Boxed_add_steps K) := by
  refine OkG.of (t := t_Boxed_add_steps K) (n := 2) (m := 0) (c.def_ 14 (d := dd_Boxed_add_steps) rfl) sc_Boxed_add_steps (fun _ _ _ _ _ _ us hl => match us, hl with | [_, _], _ => rfl) rfl rfl (fun vs H Q E z => by unfold sp_Boxed_add_steps at z; exact z) ?_
  intro cdv A outer s H E hr hg
  have hu := hr.units
  exact pss_one (magf (mv 0) (mv 1) g_add (clc ⟨He.cls_ok (fa_cls_Boxed c), He.noat_ok (fa_noat_Boxed_counted c)⟩ (cl0)))
theorem ok_Order_label_behind (c : SaysM fa fn xa K) (kin : K.In base) (ns : base.Ns mainGlobals mg) : OkG P w K mg base 1 (He.ma K (He.ga K "Order") "label_behind") ["self", "at"] (sp_Order_label_behind K) := by
  refine OkG.of (t := t_Order_label_behind K) (n := 2) (m := 0) (c.def_ 15 (d := dd_Order_label_behind) rfl) sc_Order_label_behind (fun _ _ _ _ _ _ us hl => match us, hl with | [_, _], _ => rfl) rfl rfl (fun vs H Q E z => by unfold sp_Order_label_behind at z; exact z) ?_
  intro cdv A outer s H E hr hg
  have hu := hr.units
  exact pss_cons (msif (mtc o_lt (mbin o_add (mv 1) (mi)) (mcb k_len rfl (f_len c kin ns) (by decide +kernel) (mac (mfld (mv 0) (clc ⟨He.cls_ok (fa_cls_Order c), He.noat_ok (fa_noat_Order_standing c)⟩ (cl0))) (man)))) (pss_one (msr (mix hu (mfld (mv 0) (clc ⟨He.cls_ok (fa_cls_Order c), He.noat_ok (fa_noat_Order_labelled c)⟩ (cl0))) (mix hu (mfld (mv 0) (clc ⟨He.cls_ok (fa_cls_Order c), He.noat_ok (fa_noat_Order_standing c)⟩ (cl0))) (mbin o_add (mv 1) (mi)))))) (pss_nil)) (pss_one (msr (mg_ rfl (c_TOP_LABEL c kin ns))))
theorem ok_Order_label_all (c : SaysM fa fn xa K) (kin : K.In base) (ns : base.Ns mainGlobals mg) : OkG P w K mg base 1 (He.ma K (He.ga K "Order") "label_all") ["self"] (sp_Order_label_all K) := by
  refine OkG.of (t := t_Order_label_all K) (n := 1) (m := 3) (c.def_ 16 (d := dd_Order_label_all) rfl) sc_Order_label_all (fun _ _ _ _ _ _ us hl => match us, hl with | [_], _ => rfl) rfl rfl (fun vs H Q E z => by unfold sp_Order_label_all at z; exact z) ?_
  intro cdv A outer s H E hr hg
  have hu := hr.units
  exact pss_cons (mset (i := 1) sc_Order_label_all.nd rfl (by first | exact Or.inl rfl | exact Or.inr rfl) (mbin o_div (mg_ rfl (c_TOP_LABEL c kin ns)) (mcb k_len rfl (f_len c kin ns) (by decide +kernel) (mac (mfld (mv 0) (clc ⟨He.cls_ok (fa_cls_Order c), He.noat_ok (fa_noat_Order_standing c)⟩ (cl0))) (man))))) (pss_cons (mfor hp_of rfl (menu rfl (f_enumerate c kin ns) (mac (mfld (mv 0) (clc ⟨He.cls_ok (fa_cls_Order c), He.noat_ok (fa_noat_Order_standing c)⟩ (cl0))) (man))) (mgu rfl (mg1 (mgn sc_Order_label_all.nd rfl (by first | exact Or.inl rfl | exact Or.inr rfl)) (mg1 (mgn sc_Order_label_all.nd rfl (by first | exact Or.inl rfl | exact Or.inr rfl)) (mg0)))) (pss_one (mseti hu (mbin o_mul (mv 2) (mv 1)) (mfld (mv 0) (clc ⟨He.cls_ok (fa_cls_Order c), He.noat_ok (fa_noat_Order_labelled c)⟩ (cl0))) (mv 3)))) (pss_one (magf (mv 0) (mi) g_add (clc ⟨He.cls_ok (fa_cls_Order c), He.noat_ok (fa_noat_Order_times c)⟩ (cl0)))))
theorem ok_L_written (c : SaysM fa fn xa K) (kin : K.In base) (ns : base.Ns mainGlobals mg) : OkG P w K mg base 1 (He.ga K "_law_written") ["_law_model_here", "_law_make", "_law_place", "_law_worth_here"] (sp_L_written K) := by
  refine OkG.of (t := t_L_written K) (n := 4) (m := 1) (c.def_ 17 (d := dd_L_written) rfl) sc_L_written (fun _ _ _ _ _ _ us hl => match us, hl with | [_, _, _, _], _ => rfl) rfl rfl (fun vs H Q E z => by unfold sp_L_written at z; exact z) ?_
  intro cdv A outer s H E hr hg
  have hu := hr.units
  exact pss_cons (mset (i := 4) sc_L_written.nd rfl (by first | exact Or.inl rfl | exact Or.inr rfl) (mct k_list rfl (f_list c kin ns) (by decide +kernel) (mac (mix hu (mix hu (mv 0) (ms)) (mv 1)) (man)))) (pss_cons (mseti hu (mv 3) (mv 4) (mv 2)) (pss_cons (msx (pe_bm PySem.F.plainAttrs_list PySem.F.slot_list_append PySem.F.type_list_append t_app (mix hu (mv 0) (ms)) (mac (mv 4) (man)))) (pss_cons (msx (pe_bm PySem.F.plainAttrs_list PySem.F.slot_list_append PySem.F.type_list_append t_app (mix hu (mv 0) (ms)) (mac (mv 1) (man)))) (pss_cons (msx (pe_bm PySem.F.plainAttrs_list PySem.F.slot_list_append PySem.F.type_list_append t_app (mix hu (mv 0) (ms)) (mac (mv 2) (man)))) (pss_cons (msx (pe_bm PySem.F.plainAttrs_list PySem.F.slot_list_append PySem.F.type_list_append t_app (mix hu (mv 0) (ms)) (mac (mbin o_sub (mcb k_len rfl (f_len c kin ns) (by decide +kernel) (mac (mix hu (mv 0) (ms)) (man))) (mi)) (man)))) (pss_one (msr (mbin o_sub (mcb k_len rfl (f_len c kin ns) (by decide +kernel) (mac (mix hu (mv 0) (ms)) (man))) (mi)))))))))
theorem ok_L_model_copy (c : SaysM fa fn xa K) (kin : K.In base) (ns : base.Ns mainGlobals mg) : OkG P w K mg base 1 (He.ga K "_law_model_copy") ["_law_model_here"] (sp_L_model_copy K) := by
  refine OkG.of (t := t_L_model_copy K) (n := 1) (m := 2) (c.def_ 18 (d := dd_L_model_copy) rfl) sc_L_model_copy (fun _ _ _ _ _ _ us hl => match us, hl with | [_], _ => rfl) rfl rfl (fun vs H Q E z => by unfold sp_L_model_copy at z; exact z) ?_
  intro cdv A outer s H E hr hg
  have hu := hr.units
  exact pss_cons (mset (i := 1) sc_L_model_copy.nd rfl (by first | exact Or.inl rfl | exact Or.inr rfl) (md0)) (pss_cons (ps_lk (mfor hp_of rfl (mky (mv 0)) (mgn sc_L_model_copy.nd rfl (by first | exact Or.inl rfl | exact Or.inr rfl)) (pss_one (mseti hu (mct k_list rfl (f_list c kin ns) (by decide +kernel) (mac (mix hu (mv 0) (mv 2)) (man))) (mv 1) (mv 2))))) (pss_one (msr (mv 1))))
theorem ok_L_come (c : SaysM fa fn xa K) (kin : K.In base) (ns : base.Ns mainGlobals mg) : OkG P w K mg base 1 (He.ga K "_law_come") ["_law_model_here"] (sp_L_come K) := by
  refine OkG.of (t := t_L_come K) (n := 1) (m := 2) (c.def_ 19 (d := dd_L_come) rfl) sc_L_come (fun _ _ _ _ _ _ us hl => match us, hl with | [_], _ => rfl) rfl rfl (fun vs H Q E z => by unfold sp_L_come at z; exact z) ?_
  intro cdv A outer s H E hr hg
  have hu := hr.units
  exact pss_cons (mset (i := 1) sc_L_come.nd rfl (by first | exact Or.inl rfl | exact Or.inr rfl) (mlst (mac (mi) (man)))) (pss_cons (mfor hp_of rfl (mr2 rfl (f_range c kin ns) (mac (mi) (mac (mcb k_len rfl (f_len c kin ns) (by decide +kernel) (mac (mix hu (mv 0) (ms)) (man))) (man)))) (mgn sc_L_come.nd rfl (by first | exact Or.inl rfl | exact Or.inr rfl)) (pss_one (msx (pe_bm PySem.F.plainAttrs_list PySem.F.slot_list_insert PySem.F.type_list_insert t_ins (mv 1) (mac (mbin o_add (pe_bm PySem.F.plainAttrs_list PySem.F.slot_list_index PySem.F.type_list_index t_idx (mv 1) (mac (mix hu (mix hu (mv 0) (ms)) (mv 2)) (man))) (mi)) (mac (mv 2) (man))))))) (pss_one (msr (mv 1))))
theorem ok_L_last (c : SaysM fa fn xa K) (kin : K.In base) (ns : base.Ns mainGlobals mg) : OkG P w K mg base 1 (He.ga K "_law_last") ["_law_model_here", "_law_make", "_law_place"] (sp_L_last K) := by
  refine OkG.of (t := t_L_last K) (n := 3) (m := 0) (c.def_ 20 (d := dd_L_last) rfl) sc_L_last (fun _ _ _ _ _ _ us hl => match us, hl with | [_, _, _], _ => rfl) rfl rfl (fun vs H Q E z => by unfold sp_L_last at z; exact z) ?_
  intro cdv A outer s H E hr hg
  have hu := hr.units
  exact pss_cons (mwhile hp_of (PW.pt (ma2 (mtc o_gt (mv 1) (mi)) (ma1 (mtc (o_ne hu) (mix hu (mix hu (mv 0) (ms)) (mv 1)) (mv 2))))) (pss_one (mset (i := 1) sc_L_last.nd rfl (by first | exact Or.inl rfl | exact Or.inr rfl) (mix hu (mix hu (mv 0) (ms)) (mv 1))))) (pss_one (msr (mv 1)))
theorem ok_Boxed_room (c : SaysM fa fn xa K) (kin : K.In base) (ns : base.Ns mainGlobals mg) : OkG P w K mg base 1 (He.ma K (He.ga K "Boxed") "room") ["self"] (sp_Boxed_room K) := by
  refine OkG.of (t := t_Boxed_room K) (n := 1) (m := 1) (c.def_ 21 (d := dd_Boxed_room) rfl) sc_Boxed_room (fun _ _ _ _ _ _ us hl => match us, hl with | [_], _ => rfl) rfl rfl (fun vs H Q E z => by unfold sp_Boxed_room at z; exact z) ?_
  intro cdv A outer s H E hr hg
  have hu := hr.units
  exact pss_one (msr (mcb (k_sum rfl) rfl (f_sum c kin ns) (by decide +kernel) (mac (mlc (own := [("turns", 1)]) rfl sc_Boxed_room.nd (miv (mfld (mv 0) (clc ⟨He.cls_ok (fa_cls_Boxed c), He.noat_ok (fa_noat_Boxed_boxes c)⟩ (cl0)))) (blkOk_by (N := N_Boxed_room) (sc := defScope s_Boxed_room) (own := [("turns", 1)]) (by decide +kernel)) (fun _ _ _ _ _ => mgn sc_Boxed_room.nd rfl (by first | exact Or.inl rfl | exact Or.inr rfl)) (fun _ _ _ _ _ => pts_nil) (fun _ _ _ _ _ => mcb k_len rfl (f_len c kin ns) (by decide +kernel) (mac (mv 1) (man)))) (man))))
theorem ok_L_worth (c : SaysM fa fn xa K) (kin : K.In base) (ns : base.Ns mainGlobals mg) : OkG P w K mg base 2 (He.ga K "_law_worth") ["_law_box_here"] (sp_L_worth K) := by
  refine OkG.of (t := t_L_worth K) (n := 1) (m := 2) (c.def_ 22 (d := dd_L_worth) rfl) sc_L_worth (fun _ _ _ _ _ _ us hl => match us, hl with | [_], _ => rfl) rfl rfl (fun vs H Q E z => by unfold sp_L_worth at z; exact z) ?_
  intro cdv A outer s H E hr hg
  have hu := hr.units
  exact pss_cons (mset (i := 1) sc_L_worth.nd rfl (by first | exact Or.inl rfl | exact Or.inr rfl) (pe_cg ((ok_L_take c kin ns).cal hr (by decide) hg) (g_L_take c kin ns) (k_L_take c kin ns) rfl tk_of (mac (mv 0) (mac (mi) (man))))) (pss_cons (mset (i := 2) sc_L_worth.nd rfl (by first | exact Or.inl rfl | exact Or.inr rfl) (mbin o_add (mbin o_add (mbin o_mul (pe_cg ((ok_L_take c kin ns).cal hr (by decide) hg) (g_L_take c kin ns) (k_L_take c kin ns) rfl tk_of (mac (mv 0) (mac (mbin o_pow (mi) (mi)) (man)))) (mbin o_pow (mi) (mi))) (mbin o_mul (pe_cg ((ok_L_take c kin ns).cal hr (by decide) hg) (g_L_take c kin ns) (k_L_take c kin ns) rfl tk_of (mac (mv 0) (mac (mbin o_pow (mi) (mi)) (man)))) (mbin o_pow (mi) (mi)))) (pe_cg ((ok_L_take c kin ns).cal hr (by decide) hg) (g_L_take c kin ns) (k_L_take c kin ns) rfl tk_of (mac (mv 0) (mac (mbin o_pow (mi) (mi)) (man)))))) (pss_one (msr (mix hu (mlst (mac (mbin o_sub (mbin o_mod (mv 2) (mi)) (mi)) (mac (mix hu (mlst (mac (mbin o_sub (mbin o_pow (mi) (mi)) (mi)) (mac (mbin o_sub (mi) (mbin o_pow (mi) (mi))) (mac (mi) (man))))) (mbin o_mod (mv 2) (mi))) (mac (mbin o_sub (mv 2) (mbin o_pow (mi) (mi))) (man))))) (mv 1)))))
theorem ok_is_worth (c : SaysM fa fn xa K) (kin : K.In base) (ns : base.Ns mainGlobals mg) : OkG P w K mg base 2 (He.ga K "is_worth") ["thing"] (sp_is_worth K) := by
  refine OkG.of (t := t_is_worth K) (n := 1) (m := 1) (c.def_ 23 (d := dd_is_worth) rfl) sc_is_worth (fun _ _ _ _ _ _ us hl => match us, hl with | [_], _ => rfl) rfl rfl (fun vs H Q E z => by unfold sp_is_worth at z; exact z) ?_
  intro cdv A outer s H E hr hg
  have hu := hr.units
  exact pss_cons (mset (i := 1) sc_is_worth.nd rfl (by first | exact Or.inl rfl | exact Or.inr rfl) (mbin o_sub (mbin o_pow (mi) (mi)) (mi))) (pss_one (msr (pe_cg ((ok_is_whole c kin ns).cal hr (by decide) hg) (g_is_whole c kin ns) (k_is_whole c kin ns) rfl tk_of (mac (mv 0) (mac (mbin o_sub (mi) (mv 1)) (mac (mv 1) (man)))))))
theorem ok_NoRow_init (c : SaysM fa fn xa K) (kin : K.In base) (ns : base.Ns mainGlobals mg) : OkG P w K mg base 2 (He.ma K (He.ga K "NoRow") "__init__") ["self", "found"] (sp_NoRow_init K) := by
  refine OkG.of (t := t_NoRow_init K) (n := 2) (m := 0) (c.def_ 24 (d := dd_NoRow_init) rfl) sc_NoRow_init (fun _ _ _ _ _ _ us hl => match us, hl with | [_, _], _ => rfl) rfl rfl (fun vs H Q E z => by unfold sp_NoRow_init at z; exact z) ?_
  intro cdv A outer s H E hr hg
  have hu := hr.units
  exact pss_cons (msx (mcfn rfl (g_MakesError c kin ns) (cfn_ok (xa_cfn_MakesError___init__ c)) ((ok_MakesError_init c kin ns).cal hr (by decide) hg) tk_of (mac (mv 0) (mac (ms) (man))))) (pss_one (ps_ost (mv 0) (mv 1)))
theorem ok_LeapTree_init (c : SaysM fa fn xa K) (kin : K.In base) (ns : base.Ns mainGlobals mg) : OkG P w K mg base 2 (He.ma K (He.ga K "LeapTree") "__init__") ["self"] (sp_LeapTree_init K) := by
  refine OkG.of (t := t_LeapTree_init K) (n := 1) (m := 0) (c.def_ 25 (d := dd_LeapTree_init) rfl) sc_LeapTree_init (fun _ _ _ _ _ _ us hl => match us, hl with | [_], _ => rfl) rfl rfl (fun vs H Q E z => by unfold sp_LeapTree_init at z; exact z) ?_
  intro cdv A outer s H E hr hg
  have hu := hr.units
  exact pss_cons (msx (mcfn rfl (g_MakeTree c kin ns) (cfn_ok (xa_cfn_MakeTree___init__ c)) ((ok_LeapTree_MakeTree_init c kin ns).cal hr (by decide) hg) tk_of (mac (mv 0) (man)))) (pss_one (mstf (mlst (mac (mlst (man)) (man))) (mv 0) (clc ⟨He.cls_ok (fa_cls_LeapTree c), He.noat_ok (fa_noat_LeapTree_leaping c)⟩ (cl0))))
theorem ok_L_one_of (c : SaysM fa fn xa K) (kin : K.In base) (ns : base.Ns mainGlobals mg) : OkG P w K mg base 2 (He.ga K "_law_one_of") ["_law_box_here", "_law_some"] (sp_L_one_of K) := by
  refine OkG.of (t := t_L_one_of K) (n := 2) (m := 1) (c.def_ 26 (d := dd_L_one_of) rfl) sc_L_one_of (fun _ _ _ _ _ _ us hl => match us, hl with | [_, _], _ => rfl) rfl rfl (fun vs H Q E z => by unfold sp_L_one_of at z; exact z) ?_
  intro cdv A outer s H E hr hg
  have hu := hr.units
  exact pss_cons (mset (i := 2) sc_L_one_of.nd rfl (by first | exact Or.inl rfl | exact Or.inr rfl) (pe_cg ((ok_L_take c kin ns).cal hr (by decide) hg) (g_L_take c kin ns) (k_L_take c kin ns) rfl tk_of (mac (mv 0) (mac (mi) (man))))) (pss_one (msr (mix hu (mlst (mac (mix hu (mv 1) (pe_cg ((ok_L_take c kin ns).cal hr (by decide) hg) (g_L_take c kin ns) (k_L_take c kin ns) rfl tk_of (mac (mv 0) (mac (mcb k_len rfl (f_len c kin ns) (by decide +kernel) (mac (mv 1) (man))) (man))))) (mac (mix hu (mv 1) (mi)) (mac (mix hu (mv 1) (mun o_neg (mi))) (man))))) (mv 2))))
theorem ok_NoMake_init (c : SaysM fa fn xa K) (kin : K.In base) (ns : base.Ns mainGlobals mg) : OkG P w K mg base 2 (He.ma K (He.ga K "NoMake") "__init__") ["self", "found"] (sp_NoMake_init K) := by
  refine OkG.of (t := t_NoMake_init K) (n := 2) (m := 0) (c.def_ 27 (d := dd_NoMake_init) rfl) sc_NoMake_init (fun _ _ _ _ _ _ us hl => match us, hl with | [_, _], _ => rfl) rfl rfl (fun vs H Q E z => by unfold sp_NoMake_init at z; exact z) ?_
  intro cdv A outer s H E hr hg
  have hu := hr.units
  exact pss_cons (msx (mcfn rfl (g_MakesError c kin ns) (cfn_ok (xa_cfn_MakesError___init__ c)) ((ok_MakesError_init c kin ns).cal hr (by decide) hg) tk_of (mac (mv 0) (mac (ms) (man))))) (pss_one (ps_ost (mv 0) (mv 1)))
theorem ok_Alone_init (c : SaysM fa fn xa K) (kin : K.In base) (ns : base.Ns mainGlobals mg) : OkG P w K mg base 2 (He.ma K (He.ga K "Alone") "__init__") ["self", "found"] (sp_Alone_init K) := by
  refine OkG.of (t := t_Alone_init K) (n := 2) (m := 0) (c.def_ 28 (d := dd_Alone_init) rfl) sc_Alone_init (fun _ _ _ _ _ _ us hl => match us, hl with | [_, _], _ => rfl) rfl rfl (fun vs H Q E z => by unfold sp_Alone_init at z; exact z) ?_
  intro cdv A outer s H E hr hg
  have hu := hr.units
  exact pss_cons (msx (mcfn rfl (g_MakesError c kin ns) (cfn_ok (xa_cfn_MakesError___init__ c)) ((ok_MakesError_init c kin ns).cal hr (by decide) hg) tk_of (mac (mv 0) (mac (ms) (man))))) (pss_one (ps_ost (mv 0) (mv 1)))
theorem ok_NoPlace_init (c : SaysM fa fn xa K) (kin : K.In base) (ns : base.Ns mainGlobals mg) : OkG P w K mg base 2 (He.ma K (He.ga K "NoPlace") "__init__") ["self", "found"] (sp_NoPlace_init K) := by
  refine OkG.of (t := t_NoPlace_init K) (n := 2) (m := 0) (c.def_ 29 (d := dd_NoPlace_init) rfl) sc_NoPlace_init (fun _ _ _ _ _ _ us hl => match us, hl with | [_, _], _ => rfl) rfl rfl (fun vs H Q E z => by unfold sp_NoPlace_init at z; exact z) ?_
  intro cdv A outer s H E hr hg
  have hu := hr.units
  exact pss_cons (msx (mcfn rfl (g_MakesError c kin ns) (cfn_ok (xa_cfn_MakesError___init__ c)) ((ok_MakesError_init c kin ns).cal hr (by decide) hg) tk_of (mac (mv 0) (mac (ms) (man))))) (pss_one (ps_ost (mv 0) (mv 1)))
theorem ok_NoMark_init (c : SaysM fa fn xa K) (kin : K.In base) (ns : base.Ns mainGlobals mg) : OkG P w K mg base 2 (He.ma K (He.ga K "NoMark") "__init__") ["self", "found"] (sp_NoMark_init K) := by
  refine OkG.of (t := t_NoMark_init K) (n := 2) (m := 0) (c.def_ 30 (d := dd_NoMark_init) rfl) sc_NoMark_init (fun _ _ _ _ _ _ us hl => match us, hl with | [_, _], _ => rfl) rfl rfl (fun vs H Q E z => by unfold sp_NoMark_init at z; exact z) ?_
  intro cdv A outer s H E hr hg
  have hu := hr.units
  exact pss_cons (msx (mcfn rfl (g_MakesError c kin ns) (cfn_ok (xa_cfn_MakesError___init__ c)) ((ok_MakesError_init c kin ns).cal hr (by decide) hg) tk_of (mac (mv 0) (mac (ms) (man))))) (pss_one (ps_ost (mv 0) (mv 1)))
theorem ok_Boxed_in_order (c : SaysM fa fn xa K) (kin : K.In base) (ns : base.Ns mainGlobals mg) : OkG P w K mg base 2 (He.ma K (He.ga K "Boxed") "in_order") ["self"] (sp_Boxed_in_order K) := by
  refine OkG.of (t := t_Boxed_in_order K) (n := 1) (m := 1) (c.def_ 31 (d := dd_Boxed_in_order) rfl) sc_Boxed_in_order (fun _ _ _ _ _ _ us hl => match us, hl with | [_], _ => rfl) rfl rfl (fun vs H Q E z => by unfold sp_Boxed_in_order at z; exact z) ?_
  intro cdv A outer s H E hr hg
  have hu := hr.units
  exact pss_one (msr (mlc (own := [("mark", 1)]) rfl sc_Boxed_in_order.nd (miv (mmeth0 (mfld (mv 0) (clc ⟨He.cls_ok (fa_cls_Boxed c), He.noat_ok (fa_noat_Boxed_placed c)⟩ (cl0))) (dsp1 (He.cls_ok (fa_cls_Order c)) (He.meth_ok (fa_meth_Order_marks c)) ((ok_Order_marks c kin ns).cal hr (by decide) hg) (dsp0)) tk_of)) (blkOk_by (N := N_Boxed_in_order) (sc := defScope s_Boxed_in_order) (own := [("mark", 1)]) (by decide +kernel)) (fun _ _ _ _ _ => mgn sc_Boxed_in_order.nd rfl (by first | exact Or.inl rfl | exact Or.inr rfl)) (fun _ _ _ _ _ => pts_nil) (fun _ _ _ _ _ => mix hu (mfld (mv 0) (clc ⟨He.cls_ok (fa_cls_Boxed c), He.noat_ok (fa_noat_Boxed_owners c)⟩ (cl0))) (mv 1))))
theorem ok_NoWorth_init (c : SaysM fa fn xa K) (kin : K.In base) (ns : base.Ns mainGlobals mg) : OkG P w K mg base 2 (He.ma K (He.ga K "NoWorth") "__init__") ["self", "found"] (sp_NoWorth_init K) := by
  refine OkG.of (t := t_NoWorth_init K) (n := 2) (m := 0) (c.def_ 32 (d := dd_NoWorth_init) rfl) sc_NoWorth_init (fun _ _ _ _ _ _ us hl => match us, hl with | [_, _], _ => rfl) rfl rfl (fun vs H Q E z => by unfold sp_NoWorth_init at z; exact z) ?_
  intro cdv A outer s H E hr hg
  have hu := hr.units
  exact pss_cons (msx (mcfn rfl (g_MakesError c kin ns) (cfn_ok (xa_cfn_MakesError___init__ c)) ((ok_MakesError_init c kin ns).cal hr (by decide) hg) tk_of (mac (mv 0) (mac (ms) (man))))) (pss_one (ps_ost (mv 0) (mv 1)))
theorem ok_TooMany_init (c : SaysM fa fn xa K) (kin : K.In base) (ns : base.Ns mainGlobals mg) : OkG P w K mg base 2 (He.ma K (He.ga K "TooMany") "__init__") ["self", "count"] (sp_TooMany_init K) := by
  refine OkG.of (t := t_TooMany_init K) (n := 2) (m := 0) (c.def_ 33 (d := dd_TooMany_init) rfl) sc_TooMany_init (fun _ _ _ _ _ _ us hl => match us, hl with | [_, _], _ => rfl) rfl rfl (fun vs H Q E z => by unfold sp_TooMany_init at z; exact z) ?_
  intro cdv A outer s H E hr hg
  have hu := hr.units
  exact pss_cons (msx (mcfn rfl (g_MakesError c kin ns) (cfn_ok (xa_cfn_MakesError___init__ c)) ((ok_MakesError_init c kin ns).cal hr (by decide) hg) tk_of (mac (mv 0) (mac (ms) (man))))) (pss_one (ps_ost (mv 0) (mv 1)))
theorem ok_NoChanges_init (c : SaysM fa fn xa K) (kin : K.In base) (ns : base.Ns mainGlobals mg) : OkG P w K mg base 2 (He.ma K (He.ga K "NoChanges") "__init__") ["self", "found"] (sp_NoChanges_init K) := by
  refine OkG.of (t := t_NoChanges_init K) (n := 2) (m := 0) (c.def_ 34 (d := dd_NoChanges_init) rfl) sc_NoChanges_init (fun _ _ _ _ _ _ us hl => match us, hl with | [_, _], _ => rfl) rfl rfl (fun vs H Q E z => by unfold sp_NoChanges_init at z; exact z) ?_
  intro cdv A outer s H E hr hg
  have hu := hr.units
  exact pss_cons (msx (mcfn rfl (g_MakesError c kin ns) (cfn_ok (xa_cfn_MakesError___init__ c)) ((ok_MakesError_init c kin ns).cal hr (by decide) hg) tk_of (mac (mv 0) (mac (ms) (man))))) (pss_one (ps_ost (mv 0) (mv 1)))
theorem ok_L_runs (c : SaysM fa fn xa K) (kin : K.In base) (ns : base.Ns mainGlobals mg) : OkG P w K mg base 2 (He.ga K "_law_runs") ["_law_model_here", "_law_place"] (sp_L_runs K) := by
  refine OkG.of (t := t_L_runs K) (n := 2) (m := 3) (c.def_ 35 (d := dd_L_runs) rfl) sc_L_runs (fun _ _ _ _ _ _ us hl => match us, hl with | [_, _], _ => rfl) rfl rfl (fun vs H Q E z => by unfold sp_L_runs at z; exact z) ?_
  intro cdv A outer s H E hr hg
  have hu := hr.units
  exact pss_cons (mset (i := 2) sc_L_runs.nd rfl (by first | exact Or.inl rfl | exact Or.inr rfl) (mlst (man))) (pss_cons (mfor hp_of rfl (miv (pe_cg ((ok_L_come c kin ns).cal hr (by decide) hg) (g_L_come c kin ns) (k_L_come c kin ns) rfl tk_of (mac (mv 0) (man)))) (mgn sc_L_runs.nd rfl (by first | exact Or.inl rfl | exact Or.inr rfl)) (pss_one (msif (mtc (o_in hu) (mv 3) (mix hu (mv 0) (ms))) (pss_cons (mset (i := 4) sc_L_runs.nd rfl (by first | exact Or.inl rfl | exact Or.inr rfl) (pe_cg ((ok_L_last c kin ns).cal hr (by decide) hg) (g_L_last c kin ns) (k_L_last c kin ns) rfl tk_of (mac (mv 0) (mac (mv 3) (mac (mv 1) (man)))))) (pss_one (msif (PW.pt (mo2 (mtc (o_eq hu) (mv 2) (mlst (man))) (mo1 (mtc (o_ne hu) (mix hu (mix hu (mv 2) (mun o_neg (mi))) (mi)) (mv 4))))) (pss_one (msx (pe_bm PySem.F.plainAttrs_list PySem.F.slot_list_append PySem.F.type_list_append t_app (mv 2) (mac (mtup (mac (mv 3) (mac (mv 4) (mac (mix hu (mix hu (mix hu (mv 0) (ms)) (mv 3)) (mv 1)) (man))))) (man))))) (pss_nil)))) (pss_nil)))) (pss_one (msr (mv 2))))
theorem ok_L_worths (c : SaysM fa fn xa K) (kin : K.In base) (ns : base.Ns mainGlobals mg) : OkG P w K mg base 3 (He.ga K "_law_worths") ["_law_box_here"] (sp_L_worths K) := by
  refine OkG.of (t := t_L_worths K) (n := 1) (m := 2) (c.def_ 36 (d := dd_L_worths) rfl) sc_L_worths (fun _ _ _ _ _ _ us hl => match us, hl with | [_], _ => rfl) rfl rfl (fun vs H Q E z => by unfold sp_L_worths at z; exact z) ?_
  intro cdv A outer s H E hr hg
  have hu := hr.units
  exact pss_cons (mset (i := 1) sc_L_worths.nd rfl (by first | exact Or.inl rfl | exact Or.inr rfl) (mix hu (mlst (mac (mbin o_add (mi) (pe_cg ((ok_L_take c kin ns).cal hr (by decide) hg) (g_L_take c kin ns) (k_L_take c kin ns) rfl tk_of (mac (mv 0) (mac (mi) (man))))) (mac (mi) (mac (mbin o_add (mi) (pe_cg ((ok_L_take c kin ns).cal hr (by decide) hg) (g_L_take c kin ns) (k_L_take c kin ns) rfl tk_of (mac (mv 0) (mac (mi) (man))))) (man))))) (pe_cg ((ok_L_take c kin ns).cal hr (by decide) hg) (g_L_take c kin ns) (k_L_take c kin ns) rfl tk_of (mac (mv 0) (mac (mi) (man)))))) (pss_one (msr (mlc (own := [("_law_k", 2)]) rfl sc_L_worths.nd (mr1 rfl (f_range c kin ns) (mac (mv 1) (man))) (blkOk_by (N := N_L_worths) (sc := defScope s_L_worths) (own := [("_law_k", 2)]) (by decide +kernel)) (fun _ _ _ _ _ => mgn sc_L_worths.nd rfl (by first | exact Or.inl rfl | exact Or.inr rfl)) (fun _ _ _ _ _ => pts_nil) (fun _ _ _ _ _ => pe_cg ((ok_L_worth c kin ns).cal hr (by decide) hg) (g_L_worth c kin ns) (k_L_worth c kin ns) rfl tk0 (mac (mv 0) (man))))))
theorem ok_is_worths (c : SaysM fa fn xa K) (kin : K.In base) (ns : base.Ns mainGlobals mg) : OkG P w K mg base 3 (He.ga K "is_worths") ["thing"] (sp_is_worths K) := by
  refine OkG.of (t := t_is_worths K) (n := 1) (m := 1) (c.def_ 37 (d := dd_is_worths) rfl) sc_is_worths (fun _ _ _ _ _ _ us hl => match us, hl with | [_], _ => rfl) rfl rfl (fun vs H Q E z => by unfold sp_is_worths at z; exact z) ?_
  intro cdv A outer s H E hr hg
  have hu := hr.units
  exact pss_cons (msif (PW.pt (mo2 (mtn (mtv (mcb (k_isiT (T := [.list, .tuple]) (by decide)) rfl (f_isinstance c kin ns) (by decide +kernel) (mac (mv 0) (mac (mtup (mac (mc (pe_bltn rfl (f_list c kin ns) (by decide +kernel) rfl)) (mac (mc (pe_bltn rfl (f_tuple c kin ns) (by decide +kernel) rfl)) (man)))) man))))) (mo1 (mtn (mtch o_le o_le (mi) (mcb k_len rfl (f_len c kin ns) (by decide +kernel) (mac (mv 0) (man))) (mg_ rfl (c_MOST_PLACES c kin ns))))))) (pss_one (msr (mb))) (pss_nil)) (pss_one (msr (mcb (k_all rfl) rfl (f_all c kin ns) (by decide +kernel) (mac (mlc (own := [("worth", 1)]) rfl sc_is_worths.nd (miv (mv 0)) (blkOk_by (N := N_is_worths) (sc := defScope s_is_worths) (own := [("worth", 1)]) (by decide +kernel)) (fun _ _ _ _ _ => mgn sc_is_worths.nd rfl (by first | exact Or.inl rfl | exact Or.inr rfl)) (fun _ _ _ _ _ => pts_nil) (fun _ _ _ _ _ => pe_cg ((ok_is_worth c kin ns).cal hr (by decide) hg) (g_is_worth c kin ns) (k_is_worth c kin ns) rfl tk0 (mac (mv 1) (man)))) (man)))))
theorem ok_Boxed_begin (c : SaysM fa fn xa K) (kin : K.In base) (ns : base.Ns mainGlobals mg) : OkG P w K mg base 3 (He.ma K (He.ga K "Boxed") "begin") ["self", "worths"] (sp_Boxed_begin K) := by
  refine OkG.of (t := t_Boxed_begin K) (n := 2) (m := 1) (c.def_ 38 (d := dd_Boxed_begin) rfl) sc_Boxed_begin (fun _ _ _ _ _ _ us hl => match us, hl with | [_, _], _ => rfl) rfl rfl (fun vs H Q E z => by unfold sp_Boxed_begin at z; exact z) ?_
  intro cdv A outer s H E hr hg
  have hu := hr.units
  exact pss_cons (mstf (mlc (own := [("worth", 2)]) rfl sc_Boxed_begin.nd (miv (mv 1)) (blkOk_by (N := N_Boxed_begin) (sc := defScope s_Boxed_begin) (own := [("worth", 2)]) (by decide +kernel)) (fun _ _ _ _ _ => mgn sc_Boxed_begin.nd rfl (by first | exact Or.inl rfl | exact Or.inr rfl)) (fun _ _ _ _ _ => pts_nil) (fun _ _ _ _ _ => mlst (mac (mtup (mac (mi) (mac (mi) (mac (mv 2) (man))))) (man)))) (mv 0) (clc ⟨He.cls_ok (fa_cls_Boxed c), He.noat_ok (fa_noat_Boxed_boxes c)⟩ (cl0))) (pss_cons (mstf (pe_mk0 (He.mkr_ok (fa_mkr_Order c)) ((ok_Order_init c kin ns).calM hr (by decide) hg) (g_Order c kin ns) rfl tk_of) (mv 0) (clc ⟨He.cls_ok (fa_cls_Boxed c), He.noat_ok (fa_noat_Boxed_placed c)⟩ (cl0))) (pss_cons (mstf (mdis (pps_cons (mi) (mi) (pps_nil))) (mv 0) (clc ⟨He.cls_ok (fa_cls_Boxed c), He.noat_ok (fa_noat_Boxed_owners c)⟩ (cl0))) (pss_one (mstf (mdis (pps_cons (mi) (mi) (pps_nil))) (mv 0) (clc ⟨He.cls_ok (fa_cls_Boxed c), He.noat_ok (fa_noat_Boxed_marked c)⟩ (cl0))))))
theorem ok_L_put (c : SaysM fa fn xa K) (kin : K.In base) (ns : base.Ns mainGlobals mg) : OkG P w K mg base 3 (He.ga K "_law_put") ["_law_box_here", "_law_model_here", "_law_size"] (sp_L_put K) := by
  refine OkG.of (t := t_L_put K) (n := 3) (m := 3) (c.def_ 39 (d := dd_L_put) rfl) sc_L_put (fun _ _ _ _ _ _ us hl => match us, hl with | [_, _, _], _ => rfl) rfl rfl (fun vs H Q E z => by unfold sp_L_put at z; exact z) ?_
  intro cdv A outer s H E hr hg
  have hu := hr.units
  exact pss_cons (mset (i := 3) sc_L_put.nd rfl (by first | exact Or.inl rfl | exact Or.inr rfl) (pe_cg ((ok_L_one_of c kin ns).cal hr (by decide) hg) (g_L_one_of c kin ns) (k_L_one_of c kin ns) rfl tk_of (mac (mv 0) (mac (mix hu (mv 1) (ms)) (man))))) (pss_cons (mset (i := 4) sc_L_put.nd rfl (by first | exact Or.inl rfl | exact Or.inr rfl) (mix hu (mlst (mac (pe_cg ((ok_L_take c kin ns).cal hr (by decide) hg) (g_L_take c kin ns) (k_L_take c kin ns) rfl tk_of (mac (mv 0) (mac (mv 2) (man)))) (mac (mi) (mac (mbin o_sub (mv 2) (mi)) (man))))) (pe_cg ((ok_L_take c kin ns).cal hr (by decide) hg) (g_L_take c kin ns) (k_L_take c kin ns) rfl tk_of (mac (mv 0) (mac (mi) (man)))))) (pss_cons (mset (i := 5) sc_L_put.nd rfl (by first | exact Or.inl rfl | exact Or.inr rfl) (mix hu (mlst (mac (pe_cg ((ok_L_worth c kin ns).cal hr (by decide) hg) (g_L_worth c kin ns) (k_L_worth c kin ns) rfl tk_of (mac (mv 0) (man))) (mac (mix hu (mix hu (mix hu (mv 1) (ms)) (mv 3)) (mv 4)) (man)))) (mct k_int rfl (f_int c kin ns) (by decide +kernel) (mac (mcmp (o_eq hu) (pe_cg ((ok_L_take c kin ns).cal hr (by decide) hg) (g_L_take c kin ns) (k_L_take c kin ns) rfl tk_of (mac (mv 0) (mac (mi) (man)))) (mi)) (man))))) (pss_one (msr (mtup (mac (mv 3) (mac (mv 4) (mac (mv 5) (man)))))))))
theorem ok_is_change (c : SaysM fa fn xa K) (kin : K.In base) (ns : base.Ns mainGlobals mg) : OkG P w K mg base 3 (He.ga K "is_change") ["thing", "size"] (sp_is_change K) := by
  refine OkG.of (t := t_is_change K) (n := 2) (m := 0) (c.def_ 40 (d := dd_is_change) rfl) sc_is_change (fun _ _ _ _ _ _ us hl => match us, hl with | [_, _], _ => rfl) rfl rfl (fun vs H Q E z => by unfold sp_is_change at z; exact z) ?_
  intro cdv A outer s H E hr hg
  have hu := hr.units
  exact pss_cons (msif (PW.pt (mo2 (mtn (mtv (mcb (k_isi (T := .tuple) (fun z => by cases z)) rfl (f_isinstance c kin ns) (by decide +kernel) (mac (mv 0) (mac (mc (pe_bltn rfl (f_tuple c kin ns) (by decide +kernel) rfl)) man))))) (mo1 (mtc (o_ne hu) (mcb k_len rfl (f_len c kin ns) (by decide +kernel) (mac (mv 0) (man))) (mi))))) (pss_one (msr (mb))) (pss_nil)) (pss_one (msr (mea (pe_cg ((ok_is_whole c kin ns).cal hr (by decide) hg) (g_is_whole c kin ns) (k_is_whole c kin ns) rfl tk_of (mac (mix hu (mv 0) (mi)) (mac (mi) (mac (mbin o_sub (mv 1) (mi)) (man))))) (me1 (pe_cg ((ok_is_worth c kin ns).cal hr (by decide) hg) (g_is_worth c kin ns) (k_is_worth c kin ns) rfl tk_of (mac (mix hu (mv 0) (mi)) (man)))))))
theorem ok_Order_copied (c : SaysM fa fn xa K) (kin : K.In base) (ns : base.Ns mainGlobals mg) : OkG P w K mg base 3 (He.ma K (He.ga K "Order") "copied") ["self"] (sp_Order_copied K) := by
  refine OkG.of (t := t_Order_copied K) (n := 1) (m := 1) (c.def_ 41 (d := dd_Order_copied) rfl) sc_Order_copied (fun _ _ _ _ _ _ us hl => match us, hl with | [_], _ => rfl) rfl rfl (fun vs H Q E z => by unfold sp_Order_copied at z; exact z) ?_
  intro cdv A outer s H E hr hg
  have hu := hr.units
  exact pss_cons (mset (i := 1) sc_Order_copied.nd rfl (by first | exact Or.inl rfl | exact Or.inr rfl) (pe_mk0 (He.mkr_ok (fa_mkr_Order c)) ((ok_Order_init c kin ns).calM hr (by decide) hg) (g_Order c kin ns) rfl tk_of)) (pss_cons (mstf (mct k_list rfl (f_list c kin ns) (by decide +kernel) (mac (mfld (mv 0) (clc ⟨He.cls_ok (fa_cls_Order c), He.noat_ok (fa_noat_Order_standing c)⟩ (cl0))) (man))) (mv 1) (clc ⟨He.cls_ok (fa_cls_Order c), He.noat_ok (fa_noat_Order_standing c)⟩ (cl0))) (pss_cons (mstf (mct (k_dict rfl) rfl (f_dict c kin ns) (by decide +kernel) (mac (mfld (mv 0) (clc ⟨He.cls_ok (fa_cls_Order c), He.noat_ok (fa_noat_Order_labelled c)⟩ (cl0))) (man))) (mv 1) (clc ⟨He.cls_ok (fa_cls_Order c), He.noat_ok (fa_noat_Order_labelled c)⟩ (cl0))) (pss_cons (mstf (mfld (mv 0) (clc ⟨He.cls_ok (fa_cls_Order c), He.noat_ok (fa_noat_Order_given c)⟩ (cl0))) (mv 1) (clc ⟨He.cls_ok (fa_cls_Order c), He.noat_ok (fa_noat_Order_given c)⟩ (cl0))) (pss_cons (mstf (mfld (mv 0) (clc ⟨He.cls_ok (fa_cls_Order c), He.noat_ok (fa_noat_Order_times c)⟩ (cl0))) (mv 1) (clc ⟨He.cls_ok (fa_cls_Order c), He.noat_ok (fa_noat_Order_times c)⟩ (cl0))) (pss_one (msr (mv 1)))))))
theorem ok_Boxed_Rows_init (c : SaysM fa fn xa K) (kin : K.In base) (ns : base.Ns mainGlobals mg) : OkG P w K mg base 4 (He.ma K (He.ga K "Rows") "__init__") ["self", "worths"] (sp_Boxed_Rows_init K) := by
  refine OkG.of (t := t_Boxed_Rows_init K) (n := 2) (m := 0) (c.def_ 42 (d := dd_Boxed_Rows_init) rfl) sc_Boxed_Rows_init (fun _ _ _ _ _ _ us hl => match us, hl with | [_, _], _ => rfl) rfl rfl (fun vs H Q E z => by unfold sp_Boxed_Rows_init at z; exact z) ?_
  intro cdv A outer s H E hr hg
  have hu := hr.units
  exact pss_cons (msif (mtn (mtv (pe_cg ((ok_is_worths c kin ns).cal hr (by decide) hg) (g_is_worths c kin ns) (k_is_worths c kin ns) rfl tk_of (mac (mv 1) (man))))) (pss_one (mraise tk_of (pmk_exc (oex_ok (xa_oex_NoRow c)) (init_ok (xa_init_NoRow c)) ((ok_NoRow_init c kin ns).calM hr (by decide) hg) (exc_one (oex_ok (xa_oex_NoRow c)) (He.noat_ok (fa_noat_NoRow_found c)) (keepsM fun _ _ _ _ _ h => sp_MakesError_init_i h) fun _ _ _ _ _  h => sp_NoRow_init_i h) rfl (g_NoRow c kin ns) (mac (mv 1) (man))))) (pss_nil)) (pss_cons (mstf (mcb k_len rfl (f_len c kin ns) (by decide +kernel) (mac (mv 1) (man))) (mv 0) (clc ⟨He.cls_ok (fa_cls_Boxed c), He.noat_ok (fa_noat_Boxed_wide c)⟩ (cl0))) (pss_cons (mstf (pe_mk0 (He.mkr_ok (fa_mkr_LeapTree c)) ((ok_LeapTree_init c kin ns).calM hr (by decide) hg) (g_LeapTree c kin ns) rfl tk_of) (mv 0) (clc ⟨He.cls_ok (fa_cls_Boxed c), He.noat_ok (fa_noat_Boxed_grown c)⟩ (cl0))) (pss_cons (mstf (mlst (mac (mn) (man))) (mv 0) (clc ⟨He.cls_ok (fa_cls_Boxed c), He.noat_ok (fa_noat_Boxed_wrote c)⟩ (cl0))) (pss_cons (mstf (mlst (mac (mb) (man))) (mv 0) (clc ⟨He.cls_ok (fa_cls_Boxed c), He.noat_ok (fa_noat_Boxed_gone c)⟩ (cl0))) (pss_cons (mstf (mi) (mv 0) (clc ⟨He.cls_ok (fa_cls_Boxed c), He.noat_ok (fa_noat_Boxed_counted c)⟩ (cl0))) (pss_one (msx (mmeth (mv 0) (dsp1 (He.cls_ok (fa_cls_Boxed c)) (He.meth_ok (fa_meth_Boxed_begin c)) ((ok_Boxed_begin c kin ns).cal hr (by decide) hg) (dsp0)) tk_of (mac (mct k_list rfl (f_list c kin ns) (by decide +kernel) (mac (mv 1) (man))) (man))))))))))
theorem ok_Boxed_need_make (c : SaysM fa fn xa K) (kin : K.In base) (ns : base.Ns mainGlobals mg) : OkG P w K mg base 4 (He.ma K (He.ga K "Boxed") "need_make") ["self", "make"] (sp_Boxed_need_make K) := by
  refine OkG.of (t := t_Boxed_need_make K) (n := 2) (m := 0) (c.def_ 43 (d := dd_Boxed_need_make) rfl) sc_Boxed_need_make (fun _ _ _ _ _ _ us hl => match us, hl with | [_, _], _ => rfl) rfl rfl (fun vs H Q E z => by unfold sp_Boxed_need_make at z; exact z) ?_
  intro cdv A outer s H E hr hg
  have hu := hr.units
  exact pss_one (msif (PW.pt (mo2 (mtn (mtv (pe_cg ((ok_is_whole c kin ns).cal hr (by decide) hg) (g_is_whole c kin ns) (k_is_whole c kin ns) rfl tk_of (mac (mv 1) (mac (mi) (mac (mbin o_sub (mcb k_len rfl (f_len c kin ns) (by decide +kernel) (mac (mfld (mv 0) (clc ⟨He.cls_ok (fa_cls_Boxed c), He.noat_ok (fa_noat_Boxed_gone c)⟩ (cl0))) (man))) (mi)) (man))))))) (mo1 (mtv (mix hu (mfld (mv 0) (clc ⟨He.cls_ok (fa_cls_Boxed c), He.noat_ok (fa_noat_Boxed_gone c)⟩ (cl0))) (mv 1)))))) (pss_one (mraise tk_of (pmk_exc (oex_ok (xa_oex_NoMake c)) (init_ok (xa_init_NoMake c)) ((ok_NoMake_init c kin ns).calM hr (by decide) hg) (exc_one (oex_ok (xa_oex_NoMake c)) (He.noat_ok (fa_noat_NoMake_found c)) (keepsM fun _ _ _ _ _ h => sp_MakesError_init_i h) fun _ _ _ _ _  h => sp_NoMake_init_i h) rfl (g_NoMake c kin ns) (mac (mv 1) (man))))) (pss_nil))
theorem ok_Boxed_need_place (c : SaysM fa fn xa K) (kin : K.In base) (ns : base.Ns mainGlobals mg) : OkG P w K mg base 4 (He.ma K (He.ga K "Boxed") "need_place") ["self", "place"] (sp_Boxed_need_place K) := by
  refine OkG.of (t := t_Boxed_need_place K) (n := 2) (m := 0) (c.def_ 44 (d := dd_Boxed_need_place) rfl) sc_Boxed_need_place (fun _ _ _ _ _ _ us hl => match us, hl with | [_, _], _ => rfl) rfl rfl (fun vs H Q E z => by unfold sp_Boxed_need_place at z; exact z) ?_
  intro cdv A outer s H E hr hg
  have hu := hr.units
  exact pss_one (msif (mtn (mtv (pe_cg ((ok_is_whole c kin ns).cal hr (by decide) hg) (g_is_whole c kin ns) (k_is_whole c kin ns) rfl tk_of (mac (mv 1) (mac (mi) (mac (mbin o_sub (mfld (mv 0) (clc ⟨He.cls_ok (fa_cls_Boxed c), He.noat_ok (fa_noat_Boxed_wide c)⟩ (cl0))) (mi)) (man))))))) (pss_one (mraise tk_of (pmk_exc (oex_ok (xa_oex_NoPlace c)) (init_ok (xa_init_NoPlace c)) ((ok_NoPlace_init c kin ns).calM hr (by decide) hg) (exc_one (oex_ok (xa_oex_NoPlace c)) (He.noat_ok (fa_noat_NoPlace_found c)) (keepsM fun _ _ _ _ _ h => sp_MakesError_init_i h) fun _ _ _ _ _  h => sp_NoPlace_init_i h) rfl (g_NoPlace c kin ns) (mac (mv 1) (man))))) (pss_nil))
theorem ok_LeapTree_need_make (c : SaysM fa fn xa K) (kin : K.In base) (ns : base.Ns mainGlobals mg) : OkG P w K mg base 4 (He.ma K (He.ga K "LeapTree") "need_make") ["self", "make"] (sp_LeapTree_need_make K) := by
  refine OkG.of (t := t_LeapTree_need_make K) (n := 2) (m := 0) (c.def_ 45 (d := dd_LeapTree_need_make) rfl) sc_LeapTree_need_make (fun _ _ _ _ _ _ us hl => match us, hl with | [_, _], _ => rfl) rfl rfl (fun vs H Q E z => by unfold sp_LeapTree_need_make at z; exact z) ?_
  intro cdv A outer s H E hr hg
  have hu := hr.units
  exact pss_one (msif (mtn (mtv (pe_cg ((ok_is_whole c kin ns).cal hr (by decide) hg) (g_is_whole c kin ns) (k_is_whole c kin ns) rfl tk_of (mac (mv 1) (mac (mi) (mac (mbin o_sub (mcb k_len rfl (f_len c kin ns) (by decide +kernel) (mac (mfld (mv 0) (clc ⟨He.cls_ok (fa_cls_LeapTree c), He.noat_ok (fa_noat_LeapTree_owners c)⟩ (cl0))) (man))) (mi)) (man))))))) (pss_one (mraise tk_of (pmk_exc (oex_ok (xa_oex_NoMake c)) (init_ok (xa_init_NoMake c)) ((ok_NoMake_init c kin ns).calM hr (by decide) hg) (exc_one (oex_ok (xa_oex_NoMake c)) (He.noat_ok (fa_noat_NoMake_found c)) (keepsM fun _ _ _ _ _ h => sp_MakesError_init_i h) fun _ _ _ _ _  h => sp_NoMake_init_i h) rfl (g_NoMake c kin ns) (mac (mv 1) (man))))) (pss_nil))
theorem ok_Order_need_mark (c : SaysM fa fn xa K) (kin : K.In base) (ns : base.Ns mainGlobals mg) : OkG P w K mg base 4 (He.ma K (He.ga K "Order") "need_mark") ["self", "mark"] (sp_Order_need_mark K) := by
  refine OkG.of (t := t_Order_need_mark K) (n := 2) (m := 0) (c.def_ 46 (d := dd_Order_need_mark) rfl) sc_Order_need_mark (fun _ _ _ _ _ _ us hl => match us, hl with | [_, _], _ => rfl) rfl rfl (fun vs H Q E z => by unfold sp_Order_need_mark at z; exact z) ?_
  intro cdv A outer s H E hr hg
  have hu := hr.units
  exact pss_one (msif (PW.pt (mo2 (mtn (mtv (pe_cg ((ok_is_whole c kin ns).cal hr (by decide) hg) (g_is_whole c kin ns) (k_is_whole c kin ns) rfl tk_of (mac (mv 1) (mac (mi) (mac (mbin o_sub (mfld (mv 0) (clc ⟨He.cls_ok (fa_cls_Order c), He.noat_ok (fa_noat_Order_given c)⟩ (cl0))) (mi)) (man))))))) (mo1 (mtc (o_ni hu) (mv 1) (mfld (mv 0) (clc ⟨He.cls_ok (fa_cls_Order c), He.noat_ok (fa_noat_Order_labelled c)⟩ (cl0))))))) (pss_one (mraise tk_of (pmk_exc (oex_ok (xa_oex_NoMark c)) (init_ok (xa_init_NoMark c)) ((ok_NoMark_init c kin ns).calM hr (by decide) hg) (exc_one (oex_ok (xa_oex_NoMark c)) (He.noat_ok (fa_noat_NoMark_found c)) (keepsM fun _ _ _ _ _ h => sp_MakesError_init_i h) fun _ _ _ _ _  h => sp_NoMark_init_i h) rfl (g_NoMark c kin ns) (mac (mv 1) (man))))) (pss_nil))
theorem ok_Boxed_need_room (c : SaysM fa fn xa K) (kin : K.In base) (ns : base.Ns mainGlobals mg) : OkG P w K mg base 4 (He.ma K (He.ga K "Boxed") "need_room") ["self", "many"] (sp_Boxed_need_room K) := by
  refine OkG.of (t := t_Boxed_need_room K) (n := 2) (m := 0) (c.def_ 47 (d := dd_Boxed_need_room) rfl) sc_Boxed_need_room (fun _ _ _ _ _ _ us hl => match us, hl with | [_, _], _ => rfl) rfl rfl (fun vs H Q E z => by unfold sp_Boxed_need_room at z; exact z) ?_
  intro cdv A outer s H E hr hg
  have hu := hr.units
  exact pss_one (msif (mtc o_gt (mbin o_add (mmeth0 (mfld (mv 0) (clc ⟨He.cls_ok (fa_cls_Boxed c), He.noat_ok (fa_noat_Boxed_grown c)⟩ (cl0))) (dsp1 (He.cls_ok (fa_cls_LeapTree c)) (He.meth_ok (fa_meth_LeapTree_many c)) ((ok_LeapTree_many c kin ns).cal hr (by decide) hg) (dsp0)) tk_of) (mv 1)) (mg_ rfl (c_MOST_MAKES c kin ns))) (pss_one (mraise tk_of (pmk_exc (oex_ok (xa_oex_TooMany c)) (init_ok (xa_init_TooMany c)) ((ok_TooMany_init c kin ns).calM hr (by decide) hg) (exc_one (oex_ok (xa_oex_TooMany c)) (He.noat_ok (fa_noat_TooMany_count c)) (keepsM fun _ _ _ _ _ h => sp_MakesError_init_i h) fun _ _ _ _ _  h => sp_TooMany_init_i h) rfl (g_TooMany c kin ns) (mac (mbin o_add (mmeth0 (mfld (mv 0) (clc ⟨He.cls_ok (fa_cls_Boxed c), He.noat_ok (fa_noat_Boxed_grown c)⟩ (cl0))) (dsp1 (He.cls_ok (fa_cls_LeapTree c)) (He.meth_ok (fa_meth_LeapTree_many c)) ((ok_LeapTree_many c kin ns).cal hr (by decide) hg) (dsp0)) tk_of) (mv 1)) (man))))) (pss_nil))
theorem ok_is_changes (c : SaysM fa fn xa K) (kin : K.In base) (ns : base.Ns mainGlobals mg) : OkG P w K mg base 4 (He.ga K "is_changes") ["thing", "size"] (sp_is_changes K) := by
  refine OkG.of (t := t_is_changes K) (n := 2) (m := 1) (c.def_ 48 (d := dd_is_changes) rfl) sc_is_changes (fun _ _ _ _ _ _ us hl => match us, hl with | [_, _], _ => rfl) rfl rfl (fun vs H Q E z => by unfold sp_is_changes at z; exact z) ?_
  intro cdv A outer s H E hr hg
  have hu := hr.units
  exact pss_cons (msif (PW.pt (mo2 (mtn (mtv (mcb (k_isiT (T := [.list, .tuple]) (by decide)) rfl (f_isinstance c kin ns) (by decide +kernel) (mac (mv 0) (mac (mtup (mac (mc (pe_bltn rfl (f_list c kin ns) (by decide +kernel) rfl)) (mac (mc (pe_bltn rfl (f_tuple c kin ns) (by decide +kernel) rfl)) (man)))) man))))) (mo1 (mtc o_gt (mcb k_len rfl (f_len c kin ns) (by decide +kernel) (mac (mv 0) (man))) (mg_ rfl (c_MOST_CHANGES c kin ns)))))) (pss_one (msr (mb))) (pss_nil)) (pss_one (msr (mcb (k_all rfl) rfl (f_all c kin ns) (by decide +kernel) (mac (mlc (own := [("change", 2)]) rfl sc_is_changes.nd (miv (mv 0)) (blkOk_by (N := N_is_changes) (sc := defScope s_is_changes) (own := [("change", 2)]) (by decide +kernel)) (fun _ _ _ _ _ => mgn sc_is_changes.nd rfl (by first | exact Or.inl rfl | exact Or.inr rfl)) (fun _ _ _ _ _ => pts_nil) (fun _ _ _ _ _ => pe_cg ((ok_is_change c kin ns).cal hr (by decide) hg) (g_is_change c kin ns) (k_is_change c kin ns) rfl tk0 (mac (mv 2) (mac (mv 1) (man))))) (man)))))
theorem ok_LeapTree_copied (c : SaysM fa fn xa K) (kin : K.In base) (ns : base.Ns mainGlobals mg) : OkG P w K mg base 4 (He.ma K (He.ga K "LeapTree") "copied") ["self"] (sp_LeapTree_copied K) := by
  refine OkG.of (t := t_LeapTree_copied K) (n := 1) (m := 2) (c.def_ 49 (d := dd_LeapTree_copied) rfl) sc_LeapTree_copied (fun _ _ _ _ _ _ us hl => match us, hl with | [_], _ => rfl) rfl rfl (fun vs H Q E z => by unfold sp_LeapTree_copied at z; exact z) ?_
  intro cdv A outer s H E hr hg
  have hu := hr.units
  exact pss_cons (mset (i := 1) sc_LeapTree_copied.nd rfl (by first | exact Or.inl rfl | exact Or.inr rfl) (pe_mk0 (He.mkr_ok (fa_mkr_LeapTree c)) ((ok_LeapTree_init c kin ns).calM hr (by decide) hg) (g_LeapTree c kin ns) rfl tk_of)) (pss_cons (mstf (mct k_list rfl (f_list c kin ns) (by decide +kernel) (mac (mfld (mv 0) (clc ⟨He.cls_ok (fa_cls_LeapTree c), He.noat_ok (fa_noat_LeapTree_owners c)⟩ (cl0))) (man))) (mv 1) (clc ⟨He.cls_ok (fa_cls_LeapTree c), He.noat_ok (fa_noat_LeapTree_owners c)⟩ (cl0))) (pss_cons (mstf (mct k_list rfl (f_list c kin ns) (by decide +kernel) (mac (mfld (mv 0) (clc ⟨He.cls_ok (fa_cls_LeapTree c), He.noat_ok (fa_noat_LeapTree_depths c)⟩ (cl0))) (man))) (mv 1) (clc ⟨He.cls_ok (fa_cls_LeapTree c), He.noat_ok (fa_noat_LeapTree_depths c)⟩ (cl0))) (pss_cons (mstf (mlc (own := [("leaps", 2)]) rfl sc_LeapTree_copied.nd (miv (mfld (mv 0) (clc ⟨He.cls_ok (fa_cls_LeapTree c), He.noat_ok (fa_noat_LeapTree_leaping c)⟩ (cl0)))) (blkOk_by (N := N_LeapTree_copied) (sc := defScope s_LeapTree_copied) (own := [("leaps", 2)]) (by decide +kernel)) (fun _ _ _ _ _ => mgn sc_LeapTree_copied.nd rfl (by first | exact Or.inl rfl | exact Or.inr rfl)) (fun _ _ _ _ _ => pts_nil) (fun _ _ _ _ _ => mct k_list rfl (f_list c kin ns) (by decide +kernel) (mac (mv 2) (man)))) (mv 1) (clc ⟨He.cls_ok (fa_cls_LeapTree c), He.noat_ok (fa_noat_LeapTree_leaping c)⟩ (cl0))) (pss_one (msr (mv 1))))))
theorem ok_LeapTree_own (c : SaysM fa fn xa K) (kin : K.In base) (ns : base.Ns mainGlobals mg) : OkG P w K mg base 5 (He.ma K (He.ga K "LeapTree") "own") ["self", "make"] (sp_LeapTree_own K) := by
  refine OkG.of (t := t_LeapTree_own K) (n := 2) (m := 0) (c.def_ 50 (d := dd_LeapTree_own) rfl) sc_LeapTree_own (fun _ _ _ _ _ _ us hl => match us, hl with | [_, _], _ => rfl) rfl rfl (fun vs H Q E z => by unfold sp_LeapTree_own at z; exact z) ?_
  intro cdv A outer s H E hr hg
  have hu := hr.units
  exact pss_cons (msx (mmeth (mv 0) (dsp1 (He.cls_ok (fa_cls_LeapTree c)) (He.meth_ok (fa_meth_LeapTree_need_make c)) ((ok_LeapTree_need_make c kin ns).cal hr (by decide) hg) (dsp0)) tk_of (mac (mv 1) (man)))) (pss_one (msr (mix hu (mfld (mv 0) (clc ⟨He.cls_ok (fa_cls_LeapTree c), He.noat_ok (fa_noat_LeapTree_owners c)⟩ (cl0))) (mv 1))))
theorem ok_Order_drop (c : SaysM fa fn xa K) (kin : K.In base) (ns : base.Ns mainGlobals mg) : OkG P w K mg base 5 (He.ma K (He.ga K "Order") "drop") ["self", "mark"] (sp_Order_drop K) := by
  refine OkG.of (t := t_Order_drop K) (n := 2) (m := 0) (c.def_ 51 (d := dd_Order_drop) rfl) sc_Order_drop (fun _ _ _ _ _ _ us hl => match us, hl with | [_, _], _ => rfl) rfl rfl (fun vs H Q E z => by unfold sp_Order_drop at z; exact z) ?_
  intro cdv A outer s H E hr hg
  have hu := hr.units
  exact pss_cons (msx (mmeth (mv 0) (dsp1 (He.cls_ok (fa_cls_Order c)) (He.meth_ok (fa_meth_Order_need_mark c)) ((ok_Order_need_mark c kin ns).cal hr (by decide) hg) (dsp0)) tk_of (mac (mv 1) (man)))) (pss_cons (msif (mtc (o_eq hu) (mcb k_len rfl (f_len c kin ns) (by decide +kernel) (mac (mfld (mv 0) (clc ⟨He.cls_ok (fa_cls_Order c), He.noat_ok (fa_noat_Order_standing c)⟩ (cl0))) (man))) (mi)) (pss_one (mraise tk_of (pmk_exc (oex_ok (xa_oex_Alone c)) (init_ok (xa_init_Alone c)) ((ok_Alone_init c kin ns).calM hr (by decide) hg) (exc_one (oex_ok (xa_oex_Alone c)) (He.noat_ok (fa_noat_Alone_found c)) (keepsM fun _ _ _ _ _ h => sp_MakesError_init_i h) fun _ _ _ _ _  h => sp_Alone_init_i h) rfl (g_Alone c kin ns) (mac (mv 1) (man))))) (pss_nil)) (pss_cons (msx (pe_bm PySem.F.plainAttrs_list PySem.F.slot_list_remove PySem.F.type_list_remove t_rem (mfld (mv 0) (clc ⟨He.cls_ok (fa_cls_Order c), He.noat_ok (fa_noat_Order_standing c)⟩ (cl0))) (mac (mv 1) (man)))) (pss_one (msx (dpop1 (mfld (mv 0) (clc ⟨He.cls_ok (fa_cls_Order c), He.noat_ok (fa_noat_Order_labelled c)⟩ (cl0))) (mv 1))))))
theorem ok_Boxed_need_new (c : SaysM fa fn xa K) (kin : K.In base) (ns : base.Ns mainGlobals mg) : OkG P w K mg base 5 (He.ma K (He.ga K "Boxed") "need_new") ["self", "make"] (sp_Boxed_need_new K) := by
  refine OkG.of (t := t_Boxed_need_new K) (n := 2) (m := 0) (c.def_ 52 (d := dd_Boxed_need_new) rfl) sc_Boxed_need_new (fun _ _ _ _ _ _ us hl => match us, hl with | [_, _], _ => rfl) rfl rfl (fun vs H Q E z => by unfold sp_Boxed_need_new at z; exact z) ?_
  intro cdv A outer s H E hr hg
  have hu := hr.units
  exact pss_one (msx (mmeth (mv 0) (dsp1 (He.cls_ok (fa_cls_Boxed c)) (He.meth_ok (fa_meth_Boxed_need_make c)) ((ok_Boxed_need_make c kin ns).cal hr (by decide) hg) (dsp0)) tk_of (mac (mv 1) (man))))
theorem ok_LeapTree_grow (c : SaysM fa fn xa K) (kin : K.In base) (ns : base.Ns mainGlobals mg) : OkG P w K mg base 5 (He.ma K (He.ga K "LeapTree") "grow") ["self", "make"] (sp_LeapTree_grow K) := by
  refine OkG.of (t := t_LeapTree_grow K) (n := 2) (m := 0) (c.def_ 53 (d := dd_LeapTree_grow) rfl) sc_LeapTree_grow (fun _ _ _ _ _ _ us hl => match us, hl with | [_, _], _ => rfl) rfl rfl (fun vs H Q E z => by unfold sp_LeapTree_grow at z; exact z) ?_
  intro cdv A outer s H E hr hg
  have hu := hr.units
  exact pss_cons (msx (mmeth (mv 0) (dsp1 (He.cls_ok (fa_cls_LeapTree c)) (He.meth_ok (fa_meth_LeapTree_need_make c)) ((ok_LeapTree_need_make c kin ns).cal hr (by decide) hg) (dsp0)) tk_of (mac (mv 1) (man)))) (pss_cons (msif (mtc (o_eq hu) (mcb k_len rfl (f_len c kin ns) (by decide +kernel) (mac (mfld (mv 0) (clc ⟨He.cls_ok (fa_cls_LeapTree c), He.noat_ok (fa_noat_LeapTree_owners c)⟩ (cl0))) (man))) (mg_ rfl (c_MOST_MAKES c kin ns))) (pss_one (mraise tk_of (pmk_exc (oex_ok (xa_oex_TooMany c)) (init_ok (xa_init_TooMany c)) ((ok_TooMany_init c kin ns).calM hr (by decide) hg) (exc_one (oex_ok (xa_oex_TooMany c)) (He.noat_ok (fa_noat_TooMany_count c)) (keepsM fun _ _ _ _ _ h => sp_MakesError_init_i h) fun _ _ _ _ _  h => sp_TooMany_init_i h) rfl (g_TooMany c kin ns) (mac (mbin o_add (mg_ rfl (c_MOST_MAKES c kin ns)) (mi)) (man))))) (pss_nil)) (pss_cons (msx (pe_bm PySem.F.plainAttrs_list PySem.F.slot_list_append PySem.F.type_list_append t_app (mfld (mv 0) (clc ⟨He.cls_ok (fa_cls_LeapTree c), He.noat_ok (fa_noat_LeapTree_owners c)⟩ (cl0))) (mac (mv 1) (man)))) (pss_cons (msx (mmeth (mv 0) (dsp1 (He.cls_ok (fa_cls_LeapTree c)) (He.meth_ok (fa_meth_LeapTree_lay c)) ((ok_LeapTree_lay c kin ns).cal hr (by decide) hg) (dsp0)) tk_of (mac (mv 1) (man)))) (pss_one (msr (mbin o_sub (mcb k_len rfl (f_len c kin ns) (by decide +kernel) (mac (mfld (mv 0) (clc ⟨He.cls_ok (fa_cls_LeapTree c), He.noat_ok (fa_noat_LeapTree_owners c)⟩ (cl0))) (man))) (mi)))))))
theorem ok_Order_ahead (c : SaysM fa fn xa K) (kin : K.In base) (ns : base.Ns mainGlobals mg) : OkG P w K mg base 5 (He.ma K (He.ga K "Order") "ahead") ["self", "one", "other"] (sp_Order_ahead K) := by
  refine OkG.of (t := t_Order_ahead K) (n := 3) (m := 0) (c.def_ 54 (d := dd_Order_ahead) rfl) sc_Order_ahead (fun _ _ _ _ _ _ us hl => match us, hl with | [_, _, _], _ => rfl) rfl rfl (fun vs H Q E z => by unfold sp_Order_ahead at z; exact z) ?_
  intro cdv A outer s H E hr hg
  have hu := hr.units
  exact pss_cons (msx (mmeth (mv 0) (dsp1 (He.cls_ok (fa_cls_Order c)) (He.meth_ok (fa_meth_Order_need_mark c)) ((ok_Order_need_mark c kin ns).cal hr (by decide) hg) (dsp0)) tk_of (mac (mv 1) (man)))) (pss_cons (msx (mmeth (mv 0) (dsp1 (He.cls_ok (fa_cls_Order c)) (He.meth_ok (fa_meth_Order_need_mark c)) ((ok_Order_need_mark c kin ns).cal hr (by decide) hg) (dsp0)) tk_of (mac (mv 2) (man)))) (pss_one (msr (mcmp o_lt (mix hu (mfld (mv 0) (clc ⟨He.cls_ok (fa_cls_Order c), He.noat_ok (fa_noat_Order_labelled c)⟩ (cl0))) (mv 1)) (mix hu (mfld (mv 0) (clc ⟨He.cls_ok (fa_cls_Order c), He.noat_ok (fa_noat_Order_labelled c)⟩ (cl0))) (mv 2))))))
theorem ok_Order_behind (c : SaysM fa fn xa K) (kin : K.In base) (ns : base.Ns mainGlobals mg) : OkG P w K mg base 5 (He.ma K (He.ga K "Order") "behind") ["self", "mark"] (sp_Order_behind K) := by
  refine OkG.of (t := t_Order_behind K) (n := 2) (m := 2) (c.def_ 55 (d := dd_Order_behind) rfl) sc_Order_behind (fun _ _ _ _ _ _ us hl => match us, hl with | [_, _], _ => rfl) rfl rfl (fun vs H Q E z => by unfold sp_Order_behind at z; exact z) ?_
  intro cdv A outer s H E hr hg
  have hu := hr.units
  exact pss_cons (msx (mmeth (mv 0) (dsp1 (He.cls_ok (fa_cls_Order c)) (He.meth_ok (fa_meth_Order_need_mark c)) ((ok_Order_need_mark c kin ns).cal hr (by decide) hg) (dsp0)) tk_of (mac (mv 1) (man)))) (pss_cons (msif (mtc (o_eq hu) (mcb k_len rfl (f_len c kin ns) (by decide +kernel) (mac (mfld (mv 0) (clc ⟨He.cls_ok (fa_cls_Order c), He.noat_ok (fa_noat_Order_standing c)⟩ (cl0))) (man))) (mg_ rfl (c_MOST_MARKS c kin ns))) (pss_one (mraise tk_of (pmk_exc (oex_ok (xa_oex_TooMany c)) (init_ok (xa_init_TooMany c)) ((ok_TooMany_init c kin ns).calM hr (by decide) hg) (exc_one (oex_ok (xa_oex_TooMany c)) (He.noat_ok (fa_noat_TooMany_count c)) (keepsM fun _ _ _ _ _ h => sp_MakesError_init_i h) fun _ _ _ _ _  h => sp_TooMany_init_i h) rfl (g_TooMany c kin ns) (mac (mbin o_add (mg_ rfl (c_MOST_MARKS c kin ns)) (mi)) (man))))) (pss_nil)) (pss_cons (mset (i := 2) sc_Order_behind.nd rfl (by first | exact Or.inl rfl | exact Or.inr rfl) (pe_bm PySem.F.plainAttrs_list PySem.F.slot_list_index PySem.F.type_list_index t_idx (mfld (mv 0) (clc ⟨He.cls_ok (fa_cls_Order c), He.noat_ok (fa_noat_Order_standing c)⟩ (cl0))) (mac (mv 1) (man)))) (pss_cons (msif (mtc o_lt (mbin o_sub (mmeth (mv 0) (dsp1 (He.cls_ok (fa_cls_Order c)) (He.meth_ok (fa_meth_Order_label_behind c)) ((ok_Order_label_behind c kin ns).cal hr (by decide) hg) (dsp0)) tk_of (mac (mv 2) (man))) (mix hu (mfld (mv 0) (clc ⟨He.cls_ok (fa_cls_Order c), He.noat_ok (fa_noat_Order_labelled c)⟩ (cl0))) (mv 1))) (mi)) (pss_one (msx (mmeth0 (mv 0) (dsp1 (He.cls_ok (fa_cls_Order c)) (He.meth_ok (fa_meth_Order_label_all c)) ((ok_Order_label_all c kin ns).cal hr (by decide) hg) (dsp0)) tk_of))) (pss_nil)) (pss_cons (mset (i := 3) sc_Order_behind.nd rfl (by first | exact Or.inl rfl | exact Or.inr rfl) (mfld (mv 0) (clc ⟨He.cls_ok (fa_cls_Order c), He.noat_ok (fa_noat_Order_given c)⟩ (cl0)))) (pss_cons (mseti hu (mbin o_div (mbin o_add (mix hu (mfld (mv 0) (clc ⟨He.cls_ok (fa_cls_Order c), He.noat_ok (fa_noat_Order_labelled c)⟩ (cl0))) (mv 1)) (mmeth (mv 0) (dsp1 (He.cls_ok (fa_cls_Order c)) (He.meth_ok (fa_meth_Order_label_behind c)) ((ok_Order_label_behind c kin ns).cal hr (by decide) hg) (dsp0)) tk_of (mac (mv 2) (man)))) (mi)) (mfld (mv 0) (clc ⟨He.cls_ok (fa_cls_Order c), He.noat_ok (fa_noat_Order_labelled c)⟩ (cl0))) (mv 3)) (pss_cons (msx (pe_bm PySem.F.plainAttrs_list PySem.F.slot_list_insert PySem.F.type_list_insert t_ins (mfld (mv 0) (clc ⟨He.cls_ok (fa_cls_Order c), He.noat_ok (fa_noat_Order_standing c)⟩ (cl0))) (mac (mbin o_add (mv 2) (mi)) (mac (mv 3) (man))))) (pss_cons (magf (mv 0) (mi) g_add (clc ⟨He.cls_ok (fa_cls_Order c), He.noat_ok (fa_noat_Order_given c)⟩ (cl0))) (pss_one (msr (mv 3))))))))))
theorem ok_Boxed_same_makes (c : SaysM fa fn xa K) (kin : K.In base) (ns : base.Ns mainGlobals mg) : OkG P w K mg base 5 (He.ma K (He.ga K "Boxed") "same_makes") ["self", "other"] (sp_Boxed_same_makes K) := by
  refine OkG.of (t := t_Boxed_same_makes K) (n := 2) (m := 0) (c.def_ 56 (d := dd_Boxed_same_makes) rfl) sc_Boxed_same_makes (fun _ _ _ _ _ _ us hl => match us, hl with | [_, _], _ => rfl) rfl rfl (fun vs H Q E z => by unfold sp_Boxed_same_makes at z; exact z) ?_
  intro cdv A outer s H E hr hg
  have hu := hr.units
  exact pss_cons (mstf (mmeth0 (mfld (mv 0) (clc ⟨He.cls_ok (fa_cls_Boxed c), He.noat_ok (fa_noat_Boxed_grown c)⟩ (cl0))) (dsp1 (He.cls_ok (fa_cls_LeapTree c)) (He.meth_ok (fa_meth_LeapTree_copied c)) ((ok_LeapTree_copied c kin ns).cal hr (by decide) hg) (dsp0)) tk_of) (mv 1) (clc ⟨He.cls_ok (fa_cls_Boxed c), He.noat_ok (fa_noat_Boxed_grown c)⟩ (cl0))) (pss_cons (mstf (mct k_list rfl (f_list c kin ns) (by decide +kernel) (mac (mfld (mv 0) (clc ⟨He.cls_ok (fa_cls_Boxed c), He.noat_ok (fa_noat_Boxed_wrote c)⟩ (cl0))) (man))) (mv 1) (clc ⟨He.cls_ok (fa_cls_Boxed c), He.noat_ok (fa_noat_Boxed_wrote c)⟩ (cl0))) (pss_cons (mstf (mct k_list rfl (f_list c kin ns) (by decide +kernel) (mac (mfld (mv 0) (clc ⟨He.cls_ok (fa_cls_Boxed c), He.noat_ok (fa_noat_Boxed_gone c)⟩ (cl0))) (man))) (mv 1) (clc ⟨He.cls_ok (fa_cls_Boxed c), He.noat_ok (fa_noat_Boxed_gone c)⟩ (cl0))) (pss_cons (mstf (mfld (mv 0) (clc ⟨He.cls_ok (fa_cls_Boxed c), He.noat_ok (fa_noat_Boxed_counted c)⟩ (cl0))) (mv 1) (clc ⟨He.cls_ok (fa_cls_Boxed c), He.noat_ok (fa_noat_Boxed_counted c)⟩ (cl0))) (pss_one (msr (mv 1))))))
theorem ok_Boxed_box (c : SaysM fa fn xa K) (kin : K.In base) (ns : base.Ns mainGlobals mg) : OkG P w K mg base 5 (He.ma K (He.ga K "Boxed") "box") ["self", "place"] (sp_Boxed_box K) := by
  refine OkG.of (t := t_Boxed_box K) (n := 2) (m := 0) (c.def_ 57 (d := dd_Boxed_box) rfl) sc_Boxed_box (fun _ _ _ _ _ _ us hl => match us, hl with | [_, _], _ => rfl) rfl rfl (fun vs H Q E z => by unfold sp_Boxed_box at z; exact z) ?_
  intro cdv A outer s H E hr hg
  have hu := hr.units
  exact pss_cons (msx (mmeth (mv 0) (dsp1 (He.cls_ok (fa_cls_Boxed c)) (He.meth_ok (fa_meth_Boxed_need_place c)) ((ok_Boxed_need_place c kin ns).cal hr (by decide) hg) (dsp0)) tk_of (mac (mv 1) (man)))) (pss_one (msr (mct k_list rfl (f_list c kin ns) (by decide +kernel) (mac (mix hu (mfld (mv 0) (clc ⟨He.cls_ok (fa_cls_Boxed c), He.noat_ok (fa_noat_Boxed_boxes c)⟩ (cl0))) (mv 1)) (man)))))
theorem ok_Boxed_writer_of (c : SaysM fa fn xa K) (kin : K.In base) (ns : base.Ns mainGlobals mg) : OkG P w K mg base 6 (He.ma K (He.ga K "Boxed") "writer_of") ["self", "make", "place"] (sp_Boxed_writer_of K) := by
  refine OkG.of (t := t_Boxed_writer_of K) (n := 3) (m := 0) (c.def_ 58 (d := dd_Boxed_writer_of) rfl) sc_Boxed_writer_of (fun _ _ _ _ _ _ us hl => match us, hl with | [_, _, _], _ => rfl) rfl rfl (fun vs H Q E z => by unfold sp_Boxed_writer_of at z; exact z) ?_
  intro cdv A outer s H E hr hg
  have hu := hr.units
  exact pss_cons (mwhile hp_of (PW.pt (ma2 (mtc o_gt (mv 1) (mi)) (ma1 (mtc (o_ne hu) (mix hu (mfld (mv 0) (clc ⟨He.cls_ok (fa_cls_Boxed c), He.noat_ok (fa_noat_Boxed_wrote c)⟩ (cl0))) (mv 1)) (mv 2))))) (pss_one (mset (i := 1) sc_Boxed_writer_of.nd rfl (by first | exact Or.inl rfl | exact Or.inr rfl) (mmeth (mfld (mv 0) (clc ⟨He.cls_ok (fa_cls_Boxed c), He.noat_ok (fa_noat_Boxed_grown c)⟩ (cl0))) (dsp1 (He.cls_ok (fa_cls_LeapTree c)) (He.meth_ok (fa_meth_LeapTree_own c)) ((ok_LeapTree_own c kin ns).cal hr (by decide) hg) (dsp0)) tk_of (mac (mv 1) (man)))))) (pss_one (msr (mv 1)))
theorem ok_Boxed_spot_of (c : SaysM fa fn xa K) (kin : K.In base) (ns : base.Ns mainGlobals mg) : OkG P w K mg base 6 (He.ma K (He.ga K "Boxed") "spot_of") ["self", "make", "place"] (sp_Boxed_spot_of K) := by
  refine OkG.of (t := t_Boxed_spot_of K) (n := 3) (m := 4) (c.def_ 59 (d := dd_Boxed_spot_of) rfl) sc_Boxed_spot_of (fun _ _ _ _ _ _ us hl => match us, hl with | [_, _, _], _ => rfl) rfl rfl (fun vs H Q E z => by unfold sp_Boxed_spot_of at z; exact z) ?_
  intro cdv A outer s H E hr hg
  have hu := hr.units
  exact pss_cons (mset (i := 3) sc_Boxed_spot_of.nd rfl (by first | exact Or.inl rfl | exact Or.inr rfl) (mix hu (mfld (mv 0) (clc ⟨He.cls_ok (fa_cls_Boxed c), He.noat_ok (fa_noat_Boxed_boxes c)⟩ (cl0))) (mv 2))) (pss_cons (mset (i := 4) sc_Boxed_spot_of.nd rfl (by first | exact Or.inl rfl | exact Or.inr rfl) (mi)) (pss_cons (mset (i := 5) sc_Boxed_spot_of.nd rfl (by first | exact Or.inl rfl | exact Or.inr rfl) (mcb k_len rfl (f_len c kin ns) (by decide +kernel) (mac (mv 3) (man)))) (pss_cons (msx (mmeth (mv 0) (dsp1 (He.cls_ok (fa_cls_Boxed c)) (He.meth_ok (fa_meth_Boxed_add_steps c)) ((ok_Boxed_add_steps c kin ns).cal hr (by decide) hg) (dsp0)) tk_of (mac (mi) (man)))) (pss_cons (mwhile hp_of (mtc o_gt (mbin o_sub (mv 5) (mv 4)) (mi)) (pss_cons (mset (i := 6) sc_Boxed_spot_of.nd rfl (by first | exact Or.inl rfl | exact Or.inr rfl) (mbin o_div (mbin o_add (mv 4) (mv 5)) (mi))) (pss_cons (msx (mmeth (mv 0) (dsp1 (He.cls_ok (fa_cls_Boxed c)) (He.meth_ok (fa_meth_Boxed_add_steps c)) ((ok_Boxed_add_steps c kin ns).cal hr (by decide) hg) (dsp0)) tk_of (mac (mi) (man)))) (pss_one (msif (mtv (mmeth (mfld (mv 0) (clc ⟨He.cls_ok (fa_cls_Boxed c), He.noat_ok (fa_noat_Boxed_placed c)⟩ (cl0))) (dsp1 (He.cls_ok (fa_cls_Order c)) (He.meth_ok (fa_meth_Order_ahead c)) ((ok_Order_ahead c kin ns).cal hr (by decide) hg) (dsp0)) tk_of (mac (mix hu (mfld (mv 0) (clc ⟨He.cls_ok (fa_cls_Boxed c), He.noat_ok (fa_noat_Boxed_marked c)⟩ (cl0))) (mv 1)) (mac (mix hu (mfld (mv 0) (clc ⟨He.cls_ok (fa_cls_Boxed c), He.noat_ok (fa_noat_Boxed_marked c)⟩ (cl0))) (mix hu (mix hu (mv 3) (mv 6)) (mi))) (man))))) (pss_one (mset (i := 5) sc_Boxed_spot_of.nd rfl (by first | exact Or.inl rfl | exact Or.inr rfl) (mv 6))) (pss_one (mset (i := 4) sc_Boxed_spot_of.nd rfl (by first | exact Or.inl rfl | exact Or.inr rfl) (mv 6)))))))) (pss_one (msr (mv 4)))))))
theorem ok_Boxed_copied (c : SaysM fa fn xa K) (kin : K.In base) (ns : base.Ns mainGlobals mg) : OkG P w K mg base 6 (He.ma K (He.ga K "Boxed") "copied") ["self"] (sp_Boxed_copied K) := by
  refine OkG.of (t := t_Boxed_copied K) (n := 1) (m := 2) (c.def_ 60 (d := dd_Boxed_copied) rfl) sc_Boxed_copied (fun _ _ _ _ _ _ us hl => match us, hl with | [_], _ => rfl) rfl rfl (fun vs H Q E z => by unfold sp_Boxed_copied at z; exact z) ?_
  intro cdv A outer s H E hr hg
  have hu := hr.units
  exact pss_cons (mset (i := 1) sc_Boxed_copied.nd rfl (by first | exact Or.inl rfl | exact Or.inr rfl) (pe_mk (mki_ok (xa_mki_Boxed_Rows c)) ((ok_Boxed_Rows_init c kin ns).calM hr (by decide) hg) (g_Boxed c kin ns) rfl tk_of (mac (mbin o_mul (mlst (mac (mi) (man))) (mmeth0 (mv 0) (dsp1 (He.cls_ok (fa_cls_Boxed c)) (He.meth_ok (fa_meth_Boxed_size c)) ((ok_Boxed_size c kin ns).cal hr (by decide) hg) (dsp0)) tk_of)) (man)))) (pss_cons (mstf (mlc (own := [("turns", 2)]) rfl sc_Boxed_copied.nd (miv (mfld (mv 0) (clc ⟨He.cls_ok (fa_cls_Boxed c), He.noat_ok (fa_noat_Boxed_boxes c)⟩ (cl0)))) (blkOk_by (N := N_Boxed_copied) (sc := defScope s_Boxed_copied) (own := [("turns", 2)]) (by decide +kernel)) (fun _ _ _ _ _ => mgn sc_Boxed_copied.nd rfl (by first | exact Or.inl rfl | exact Or.inr rfl)) (fun _ _ _ _ _ => pts_nil) (fun _ _ _ _ _ => mct k_list rfl (f_list c kin ns) (by decide +kernel) (mac (mv 2) (man)))) (mv 1) (clc ⟨He.cls_ok (fa_cls_Boxed c), He.noat_ok (fa_noat_Boxed_boxes c)⟩ (cl0))) (pss_cons (mstf (mmeth0 (mfld (mv 0) (clc ⟨He.cls_ok (fa_cls_Boxed c), He.noat_ok (fa_noat_Boxed_placed c)⟩ (cl0))) (dsp1 (He.cls_ok (fa_cls_Order c)) (He.meth_ok (fa_meth_Order_copied c)) ((ok_Order_copied c kin ns).cal hr (by decide) hg) (dsp0)) tk_of) (mv 1) (clc ⟨He.cls_ok (fa_cls_Boxed c), He.noat_ok (fa_noat_Boxed_placed c)⟩ (cl0))) (pss_cons (mstf (mct (k_dict rfl) rfl (f_dict c kin ns) (by decide +kernel) (mac (mfld (mv 0) (clc ⟨He.cls_ok (fa_cls_Boxed c), He.noat_ok (fa_noat_Boxed_owners c)⟩ (cl0))) (man))) (mv 1) (clc ⟨He.cls_ok (fa_cls_Boxed c), He.noat_ok (fa_noat_Boxed_owners c)⟩ (cl0))) (pss_cons (mstf (mct (k_dict rfl) rfl (f_dict c kin ns) (by decide +kernel) (mac (mfld (mv 0) (clc ⟨He.cls_ok (fa_cls_Boxed c), He.noat_ok (fa_noat_Boxed_marked c)⟩ (cl0))) (man))) (mv 1) (clc ⟨He.cls_ok (fa_cls_Boxed c), He.noat_ok (fa_noat_Boxed_marked c)⟩ (cl0))) (pss_one (msr (mmeth (mv 0) (dsp1 (He.cls_ok (fa_cls_Boxed c)) (He.meth_ok (fa_meth_Boxed_same_makes c)) ((ok_Boxed_same_makes c kin ns).cal hr (by decide) hg) (dsp0)) tk_of (mac (mv 1) (man)))))))))
theorem ok_L_tells (c : SaysM fa fn xa K) (kin : K.In base) (ns : base.Ns mainGlobals mg) : OkG P w K mg base 6 (He.ga K "_law_tells") ["_law_boxed", "_law_model_here"] (sp_L_tells K) := by
  refine OkG.of (t := t_L_tells K) (n := 2) (m := 7) (c.def_ 61 (d := dd_L_tells) rfl) sc_L_tells (fun _ _ _ _ _ _ us hl => match us, hl with | [_, _], _ => rfl) rfl rfl (fun vs H Q E z => by unfold sp_L_tells at z; exact z) ?_
  intro cdv A outer s H E hr hg
  have hu := hr.units
  exact pss_cons (mlcs (own := [("_law_place", 3)]) (i := 2) rfl sc_L_tells.nd rfl rfl (sw_true rfl rfl rfl (by decide +kernel)) (mr1 rfl (f_range c kin ns) (mac (mcb k_len rfl (f_len c kin ns) (by decide +kernel) (mac (mix hu (mix hu (mv 1) (ms)) (mi)) (man))) (man))) (blkOk_by (N := N_L_tells) (sc := defScope s_L_tells) (own := [("_law_place", 3)]) (by decide +kernel)) (fun _ _ _ _ _ => mgn sc_L_tells.nd rfl (by first | exact Or.inl rfl | exact Or.inr rfl)) (fun _ _ _ _ _ => pts_nil) (fun _ _ _ _ _ => pe_cg ((ok_L_runs c kin ns).cal hr (by decide) hg) (g_L_runs c kin ns) (k_L_runs c kin ns) rfl tk0 (mac (mv 1) (mac (mv 3) (man))))) (pss_cons (mfor hp_of rfl (mr1 rfl (f_range c kin ns) (mac (mi) (man))) (mgn sc_L_tells.nd rfl (by first | exact Or.inl rfl | exact Or.inr rfl)) (pss_cons (mlcs (own := [("_law_place", 3)]) (i := 5) rfl sc_L_tells.nd rfl rfl (sw_true rfl rfl rfl (by decide +kernel)) (mr1 rfl (f_range c kin ns) (mac (mcb k_len rfl (f_len c kin ns) (by decide +kernel) (mac (mv 2) (man))) (man))) (blkOk_by (N := N_L_tells) (sc := defScope s_L_tells) (own := [("_law_place", 3)]) (by decide +kernel)) (fun _ _ _ _ _ => mgn sc_L_tells.nd rfl (by first | exact Or.inl rfl | exact Or.inr rfl)) (fun _ _ _ _ _ => pts_nil) (fun _ _ _ _ _ => mmeth (mv 0) (dsp1 (He.cls_ok (fa_cls_Boxed c)) (He.meth_ok (fa_meth_Boxed_box c)) ((ok_Boxed_box c kin ns).cal hr (by decide) hg) (dsp0)) tk0 (mac (mv 3) (man)))) (pss_cons (mset (i := 6) sc_L_tells.nd rfl (by first | exact Or.inl rfl | exact Or.inr rfl) (mmeth0 (mv 0) (dsp1 (He.cls_ok (fa_cls_Boxed c)) (He.meth_ok (fa_meth_Boxed_in_order c)) ((ok_Boxed_in_order c kin ns).cal hr (by decide) hg) (dsp0)) tk_of)) (pss_cons (msif (mtc (o_ne hu) (mcb (k_repr hg hu) rfl (f_repr c kin ns) (by decide +kernel) (mac (mv 5) (man))) (mcb (k_repr hg hu) rfl (f_repr c kin ns) (by decide +kernel) (mac (mv 2) (man)))) (pss_one (msr (mb))) (pss_nil)) (pss_cons (msif (mtc (o_ne hu) (mcb (k_repr hg hu) rfl (f_repr c kin ns) (by decide +kernel) (mac (mv 6) (man))) (mcb (k_repr hg hu) rfl (f_repr c kin ns) (by decide +kernel) (mac (mlc (own := [("_law_one", 7)]) rfl sc_L_tells.nd (miv (pe_cg ((ok_L_come c kin ns).cal hr (by decide) hg) (g_L_come c kin ns) (k_L_come c kin ns) rfl tk_of (mac (mv 1) (man)))) (blkOk_by (N := N_L_tells) (sc := defScope s_L_tells) (own := [("_law_one", 7)]) (by decide +kernel)) (fun _ _ _ _ _ => mgn sc_L_tells.nd rfl (by first | exact Or.inl rfl | exact Or.inr rfl)) (fun _ _ _ _ _ => pts_one (mtc (o_in hu) (mv 7) (mix hu (mv 1) (ms)))) (fun _ _ _ _ _ => mv 7)) (man)))) (pss_one (msr (mb))) (pss_nil)) (pss_cons (msx (pe_bm0 PySem.F.plainAttrs_list PySem.F.slot_list_clear PySem.F.type_list_clear t_clr (mix hu (mv 5) (mun o_neg (mi))))) (pss_one (msx (pe_bm PySem.F.plainAttrs_list PySem.F.slot_list_append PySem.F.type_list_append t_app (mv 6) (mac (mi) (man))))))))))) (pss_one (msr (mcmp (o_eq hu) (mcb (k_repr hg hu) rfl (f_repr c kin ns) (by decide +kernel) (mac (mmeth0 (mv 0) (dsp1 (He.cls_ok (fa_cls_Boxed c)) (He.meth_ok (fa_meth_Boxed_room c)) ((ok_Boxed_room c kin ns).cal hr (by decide) hg) (dsp0)) tk_of) (man))) (mcb (k_repr hg hu) rfl (f_repr c kin ns) (by decide +kernel) (mac (mcb (k_sum rfl) rfl (f_sum c kin ns) (by decide +kernel) (mac (mlc (own := [("_law_turns", 8)]) rfl sc_L_tells.nd (miv (mv 2)) (blkOk_by (N := N_L_tells) (sc := defScope s_L_tells) (own := [("_law_turns", 8)]) (by decide +kernel)) (fun _ _ _ _ _ => mgn sc_L_tells.nd rfl (by first | exact Or.inl rfl | exact Or.inr rfl)) (fun _ _ _ _ _ => pts_nil) (fun _ _ _ _ _ => mcb k_len rfl (f_len c kin ns) (by decide +kernel) (mac (mv 8) (man)))) (man))) (man)))))))
theorem ok_L_refused (c : SaysM fa fn xa K) (kin : K.In base) (ns : base.Ns mainGlobals mg) : OkG P w K mg base 6 (He.ga K "_law_refused") ["_law_boxed", "_law_thing"] (sp_L_refused K) := by
  refine OkG.of (t := t_L_refused K) (n := 2) (m := 2) (c.def_ 62 (d := dd_L_refused) rfl) sc_L_refused (fun _ _ _ _ _ _ us hl => match us, hl with | [_, _], _ => rfl) rfl rfl (fun vs H Q E z => by unfold sp_L_refused at z; exact z) ?_
  intro cdv A outer s H E hr hg
  have hu := hr.units
  exact pss_cons (mset (i := 2) sc_L_refused.nd rfl (by first | exact Or.inl rfl | exact Or.inr rfl) (mn)) (pss_cons (mtry_as rfl rfl sc_L_refused.nd rfl rfl ⟨rfl, by decide +kernel, .inl (g_MakesError c kin ns)⟩ tk_of (xt1 (He.exm_ok (fa_exm_NoRow_MakesError_True c)) (xt1 (He.exm_ok (fa_exm_NoWorth_MakesError_True c)) (xt1 (He.exm_ok (fa_exm_NoPlace_MakesError_True c)) (xt1 (He.exm_ok (fa_exm_NoStretch_MakesError_True c)) (xt1 (He.exm_ok (fa_exm_NoMake_MakesError_True c)) (xt1 (He.exm_ok (fa_exm_NoMark_MakesError_True c)) (xt1 (He.exm_ok (fa_exm_NoNumber_MakesError_True c)) (xt1 (He.exm_ok (fa_exm_NoChanges_MakesError_True c)) (xt1 (He.exm_ok (fa_exm_TooMany_MakesError_True c)) (xt1 (He.exm_ok (fa_exm_Alone_MakesError_True c)) (xt0))))))))))) (fun W1 pn1 xe1 tk1 hp1 => pss_one (msx (mmeth (mv 0) (dsp1 (He.cls_ok (fa_cls_Boxed c)) (He.meth_ok (fa_meth_Boxed_box c)) ((ok_Boxed_box c kin ns).cal hr (by decide) hg) (dsp0)) tk1 (mac (mv 1) (man))))) (fun a1 oe1 cls1 d1 pn1 hz1 hf1 => pss_one (msif (mtv (mcb (k_isE (D := (He.ga K "NoPlace")) (tbl := [((He.ga K "NoRow"), false), ((He.ga K "NoWorth"), false), ((He.ga K "NoPlace"), true), ((He.ga K "NoStretch"), false), ((He.ga K "NoMake"), false), ((He.ga K "NoMark"), false), ((He.ga K "NoNumber"), false), ((He.ga K "NoChanges"), false), ((He.ga K "TooMany"), false), ((He.ga K "Alone"), false)]) (ie1 ⟨exk_ok (xa_exk_NoRow c), kit_ok (xa_kit_NoRow_NoPlace_False c)⟩ (ie1 ⟨exk_ok (xa_exk_NoWorth c), kit_ok (xa_kit_NoWorth_NoPlace_False c)⟩ (ie1 ⟨exk_ok (xa_exk_NoPlace c), kit_ok (xa_kit_NoPlace_NoPlace_True c)⟩ (ie1 ⟨exk_ok (xa_exk_NoStretch c), kit_ok (xa_kit_NoStretch_NoPlace_False c)⟩ (ie1 ⟨exk_ok (xa_exk_NoMake c), kit_ok (xa_kit_NoMake_NoPlace_False c)⟩ (ie1 ⟨exk_ok (xa_exk_NoMark c), kit_ok (xa_kit_NoMark_NoPlace_False c)⟩ (ie1 ⟨exk_ok (xa_exk_NoNumber c), kit_ok (xa_kit_NoNumber_NoPlace_False c)⟩ (ie1 ⟨exk_ok (xa_exk_NoChanges c), kit_ok (xa_kit_NoChanges_NoPlace_False c)⟩ (ie1 ⟨exk_ok (xa_exk_TooMany c), kit_ok (xa_kit_TooMany_NoPlace_False c)⟩ (ie1 ⟨exk_ok (xa_exk_Alone c), kit_ok (xa_kit_Alone_NoPlace_False c)⟩ (ie0))))))))))) hz1 hf1) rfl (f_isinstance c kin ns) (by decide +kernel) (mac (mv 3) (mac (mcls rfl (g_NoPlace c kin ns)) man)))) (pss_one (mset (i := 2) sc_L_refused.nd rfl (by first | exact Or.inl rfl | exact Or.inr rfl) (mlst (mac (mxf (clc ⟨xfc_ok (xa_xfc_NoRow c), He.noat_ok (fa_noat_NoRow_found c)⟩ (clc ⟨xfc_ok (xa_xfc_NoWorth c), He.noat_ok (fa_noat_NoWorth_found c)⟩ (clc ⟨xfc_ok (xa_xfc_NoPlace c), He.noat_ok (fa_noat_NoPlace_found c)⟩ (clc ⟨xfc_ok (xa_xfc_NoMake c), He.noat_ok (fa_noat_NoMake_found c)⟩ (clc ⟨xfc_ok (xa_xfc_NoMark c), He.noat_ok (fa_noat_NoMark_found c)⟩ (clc ⟨xfc_ok (xa_xfc_NoNumber c), He.noat_ok (fa_noat_NoNumber_found c)⟩ (clc ⟨xfc_ok (xa_xfc_NoChanges c), He.noat_ok (fa_noat_NoChanges_found c)⟩ (clc ⟨xfc_ok (xa_xfc_Alone c), He.noat_ok (fa_noat_Alone_found c)⟩ (cl0))))))))) hz1 hf1 (mv 3)) (man))))) (pss_nil)))) (pss_one (msr (mv 2))))
theorem ok_Boxed_writer (c : SaysM fa fn xa K) (kin : K.In base) (ns : base.Ns mainGlobals mg) : OkG P w K mg base 7 (He.ma K (He.ga K "Boxed") "writer") ["self", "make", "place"] (sp_Boxed_writer K) := by
  refine OkG.of (t := t_Boxed_writer K) (n := 3) (m := 0) (c.def_ 63 (d := dd_Boxed_writer) rfl) sc_Boxed_writer (fun _ _ _ _ _ _ us hl => match us, hl with | [_, _, _], _ => rfl) rfl rfl (fun vs H Q E z => by unfold sp_Boxed_writer at z; exact z) ?_
  intro cdv A outer s H E hr hg
  have hu := hr.units
  exact pss_cons (msif (mtn (mtv (pe_cg ((ok_is_whole c kin ns).cal hr (by decide) hg) (g_is_whole c kin ns) (k_is_whole c kin ns) rfl tk_of (mac (mv 1) (mac (mi) (mac (mbin o_sub (mcb k_len rfl (f_len c kin ns) (by decide +kernel) (mac (mfld (mv 0) (clc ⟨He.cls_ok (fa_cls_Boxed c), He.noat_ok (fa_noat_Boxed_wrote c)⟩ (cl0))) (man))) (mi)) (man))))))) (pss_one (mraise tk_of (pmk_exc (oex_ok (xa_oex_NoMake c)) (init_ok (xa_init_NoMake c)) ((ok_NoMake_init c kin ns).calM hr (by decide) hg) (exc_one (oex_ok (xa_oex_NoMake c)) (He.noat_ok (fa_noat_NoMake_found c)) (keepsM fun _ _ _ _ _ h => sp_MakesError_init_i h) fun _ _ _ _ _  h => sp_NoMake_init_i h) rfl (g_NoMake c kin ns) (mac (mv 1) (man))))) (pss_nil)) (pss_cons (msx (mmeth (mv 0) (dsp1 (He.cls_ok (fa_cls_Boxed c)) (He.meth_ok (fa_meth_Boxed_need_place c)) ((ok_Boxed_need_place c kin ns).cal hr (by decide) hg) (dsp0)) tk_of (mac (mv 2) (man)))) (pss_one (msr (mmeth (mv 0) (dsp1 (He.cls_ok (fa_cls_Boxed c)) (He.meth_ok (fa_meth_Boxed_writer_of c)) ((ok_Boxed_writer_of c kin ns).cal hr (by decide) hg) (dsp0)) tk_of (mac (mv 1) (mac (mv 2) (man)))))))
theorem ok_Boxed_store (c : SaysM fa fn xa K) (kin : K.In base) (ns : base.Ns mainGlobals mg) : OkG P w K mg base 7 (He.ma K (He.ga K "Boxed") "store") ["self", "make", "number", "place", "worth"] (sp_Boxed_store K) := by
  refine OkG.of (t := t_Boxed_store K) (n := 5) (m := 7) (c.def_ 64 (d := dd_Boxed_store) rfl) sc_Boxed_store (fun _ _ _ _ _ _ us hl => match us, hl with | [_, _, _, _, _], _ => rfl) rfl rfl (fun vs H Q E z => by unfold sp_Boxed_store at z; exact z) ?_
  intro cdv A outer s H E hr hg
  have hu := hr.units
  exact pss_cons (mset (i := 5) sc_Boxed_store.nd rfl (by first | exact Or.inl rfl | exact Or.inr rfl) (mmeth (mv 0) (dsp1 (He.cls_ok (fa_cls_Boxed c)) (He.meth_ok (fa_meth_Boxed_spot_of c)) ((ok_Boxed_spot_of c kin ns).cal hr (by decide) hg) (dsp0)) tk_of (mac (mv 1) (mac (mv 3) (man))))) (pss_cons (mset (i := 6) sc_Boxed_store.nd rfl (by first | exact Or.inl rfl | exact Or.inr rfl) (mix hu (mfld (mv 0) (clc ⟨He.cls_ok (fa_cls_Boxed c), He.noat_ok (fa_noat_Boxed_boxes c)⟩ (cl0))) (mv 3))) (pss_cons (mset (i := 7) sc_Boxed_store.nd rfl (by first | exact Or.inl rfl | exact Or.inr rfl) (mmeth0 (mv 0) (dsp1 (He.cls_ok (fa_cls_Boxed c)) (He.meth_ok (fa_meth_Boxed_in_order c)) ((ok_Boxed_in_order c kin ns).cal hr (by decide) hg) (dsp0)) tk_of)) (pss_cons (mset (i := 8) sc_Boxed_store.nd rfl (by first | exact Or.inl rfl | exact Or.inr rfl) (msl (msl (mv 7) (po_some (mbin o_add (pe_bm PySem.F.plainAttrs_list PySem.F.slot_list_index PySem.F.type_list_index t_idx (mv 7) (mac (mv 1) (man))) (mi))) po_none) po_none (po_some (mi)))) (pss_cons (mlcs (own := [("other", 10)]) (i := 9) rfl sc_Boxed_store.nd rfl rfl (sw_true rfl rfl rfl (by decide +kernel)) (miv (mv 8)) (blkOk_by (N := N_Boxed_store) (sc := defScope s_Boxed_store) (own := [("other", 10)]) (by decide +kernel)) (fun _ _ _ _ _ => mgn sc_Boxed_store.nd rfl (by first | exact Or.inl rfl | exact Or.inr rfl)) (fun _ _ _ _ _ => pts_one (mtc (o_ni hu) (mv 10) (mlc (own := [("turn", 11)]) rfl sc_Boxed_store.nd (miv (mv 6)) (blkOk_by (N := N_Boxed_store) (sc := { kind := ScopeKind.function, names := [(".0", NameKind.local), ("other", NameKind.local), ("spot", NameKind.cell), ("turns", NameKind.cell)], isGenerator := false, isCoroutine := false }) (own := [("turn", 11)]) (by decide +kernel)) (fun _ _ _ _ _ => mgn sc_Boxed_store.nd rfl (by first | exact Or.inl rfl | exact Or.inr rfl)) (fun _ _ _ _ _ => pts_nil) (fun _ _ _ _ _ => mix hu (mv 11) (mi))))) (fun _ _ _ _ _ => mbin o_add (mtup (mac (mv 10) (man))) (msl (mix hu (mv 6) (mv 5)) (po_some (mi)) po_none))) (pss_cons (mseti hu (mbin o_add (mbin o_add (mbin o_add (msl (mv 6) po_none (po_some (mbin o_add (mv 5) (mi)))) (mlst (mac (mtup (mac (mv 2) (mac (mv 2) (mac (mv 4) (man))))) (man)))) (mv 9)) (msl (mv 6) (po_some (mbin o_add (mv 5) (mi))) po_none)) (mfld (mv 0) (clc ⟨He.cls_ok (fa_cls_Boxed c), He.noat_ok (fa_noat_Boxed_boxes c)⟩ (cl0))) (mv 3)) (pss_cons (mseti hu (mmeth (mfld (mv 0) (clc ⟨He.cls_ok (fa_cls_Boxed c), He.noat_ok (fa_noat_Boxed_placed c)⟩ (cl0))) (dsp1 (He.cls_ok (fa_cls_Order c)) (He.meth_ok (fa_meth_Order_behind c)) ((ok_Order_behind c kin ns).cal hr (by decide) hg) (dsp0)) tk_of (mac (mix hu (mfld (mv 0) (clc ⟨He.cls_ok (fa_cls_Boxed c), He.noat_ok (fa_noat_Boxed_marked c)⟩ (cl0))) (mv 1)) (man))) (mfld (mv 0) (clc ⟨He.cls_ok (fa_cls_Boxed c), He.noat_ok (fa_noat_Boxed_marked c)⟩ (cl0))) (mv 2)) (pss_one (mseti hu (mv 2) (mfld (mv 0) (clc ⟨He.cls_ok (fa_cls_Boxed c), He.noat_ok (fa_noat_Boxed_owners c)⟩ (cl0))) (mix hu (mfld (mv 0) (clc ⟨He.cls_ok (fa_cls_Boxed c), He.noat_ok (fa_noat_Boxed_marked c)⟩ (cl0))) (mv 2))))))))))
theorem ok_Boxed_runs (c : SaysM fa fn xa K) (kin : K.In base) (ns : base.Ns mainGlobals mg) : OkG P w K mg base 8 (He.ma K (He.ga K "Boxed") "runs") ["self", "place", "line"] (sp_Boxed_runs K) := by
  refine OkG.of (t := t_Boxed_runs K) (n := 3) (m := 5) (c.def_ 65 (d := dd_Boxed_runs) rfl) sc_Boxed_runs (fun _ _ _ _ _ _ us hl => match us, hl with | [_, _, _], _ => rfl) rfl rfl (fun vs H Q E z => by unfold sp_Boxed_runs at z; exact z) ?_
  intro cdv A outer s H E hr hg
  have hu := hr.units
  exact pss_cons (mset (i := 3) sc_Boxed_runs.nd rfl (by first | exact Or.inl rfl | exact Or.inr rfl) (mct (k_dict rfl) rfl (f_dict c kin ns) (by decide +kernel) (mac (mlc (own := [("turn", 4)]) rfl sc_Boxed_runs.nd (miv (mix hu (mfld (mv 0) (clc ⟨He.cls_ok (fa_cls_Boxed c), He.noat_ok (fa_noat_Boxed_boxes c)⟩ (cl0))) (mv 1))) (blkOk_by (N := N_Boxed_runs) (sc := defScope s_Boxed_runs) (own := [("turn", 4)]) (by decide +kernel)) (fun _ _ _ _ _ => mgn sc_Boxed_runs.nd rfl (by first | exact Or.inl rfl | exact Or.inr rfl)) (fun _ _ _ _ _ => pts_nil) (fun _ _ _ _ _ => mtup (mac (mix hu (mv 4) (mi)) (mac (mix hu (mv 4) (mi)) (man))))) (man)))) (pss_cons (mset (i := 5) sc_Boxed_runs.nd rfl (by first | exact Or.inl rfl | exact Or.inr rfl) (mlst (man))) (pss_cons (mfor hp_of rfl (miv (mv 2)) (mgn sc_Boxed_runs.nd rfl (by first | exact Or.inl rfl | exact Or.inr rfl)) (pss_cons (mset (i := 7) sc_Boxed_runs.nd rfl (by first | exact Or.inl rfl | exact Or.inr rfl) (mmeth (mv 0) (dsp1 (He.cls_ok (fa_cls_Boxed c)) (He.meth_ok (fa_meth_Boxed_writer c)) ((ok_Boxed_writer c kin ns).cal hr (by decide) hg) (dsp0)) tk_of (mac (mv 6) (mac (mv 1) (man))))) (pss_one (msif (PW.pt (mo2 (mtc (o_eq hu) (mv 5) (mlst (man))) (mo1 (mtc (o_ne hu) (mix hu (mix hu (mv 5) (mun o_neg (mi))) (mi)) (mv 7))))) (pss_one (msx (pe_bm PySem.F.plainAttrs_list PySem.F.slot_list_append PySem.F.type_list_append t_app (mv 5) (mac (mtup (mac (mv 6) (mac (mv 7) (mac (mix hu (mv 3) (mv 7)) (man))))) (man))))) (pss_nil))))) (pss_one (msr (mv 5)))))
theorem ok_Boxed_written (c : SaysM fa fn xa K) (kin : K.In base) (ns : base.Ns mainGlobals mg) : OkG P w K mg base 8 (He.ma K (He.ga K "Boxed") "written") ["self", "make", "place", "worth"] (sp_Boxed_written K) := by
  refine OkG.of (t := t_Boxed_written K) (n := 4) (m := 1) (c.def_ 66 (d := dd_Boxed_written) rfl) sc_Boxed_written (fun _ _ _ _ _ _ us hl => match us, hl with | [_, _, _, _], _ => rfl) rfl rfl (fun vs H Q E z => by unfold sp_Boxed_written at z; exact z) ?_
  intro cdv A outer s H E hr hg
  have hu := hr.units
  exact pss_cons (mset (i := 4) sc_Boxed_written.nd rfl (by first | exact Or.inl rfl | exact Or.inr rfl) (mmeth (mfld (mv 0) (clc ⟨He.cls_ok (fa_cls_Boxed c), He.noat_ok (fa_noat_Boxed_grown c)⟩ (cl0))) (dsp1 (He.cls_ok (fa_cls_LeapTree c)) (He.meth_ok (fa_meth_LeapTree_grow c)) ((ok_LeapTree_grow c kin ns).cal hr (by decide) hg) (dsp0)) tk_of (mac (mv 1) (man)))) (pss_cons (msx (pe_bm PySem.F.plainAttrs_list PySem.F.slot_list_append PySem.F.type_list_append t_app (mfld (mv 0) (clc ⟨He.cls_ok (fa_cls_Boxed c), He.noat_ok (fa_noat_Boxed_wrote c)⟩ (cl0))) (mac (mv 2) (man)))) (pss_cons (msx (pe_bm PySem.F.plainAttrs_list PySem.F.slot_list_append PySem.F.type_list_append t_app (mfld (mv 0) (clc ⟨He.cls_ok (fa_cls_Boxed c), He.noat_ok (fa_noat_Boxed_gone c)⟩ (cl0))) (mac (mb) (man)))) (pss_cons (msx (mmeth (mv 0) (dsp1 (He.cls_ok (fa_cls_Boxed c)) (He.meth_ok (fa_meth_Boxed_store c)) ((ok_Boxed_store c kin ns).cal hr (by decide) hg) (dsp0)) tk_of (mac (mv 1) (mac (mv 4) (mac (mv 2) (mac (mv 3) (man))))))) (pss_one (msr (mv 4))))))
theorem ok_Boxed_freed (c : SaysM fa fn xa K) (kin : K.In base) (ns : base.Ns mainGlobals mg) : OkG P w K mg base 9 (He.ma K (He.ga K "Boxed") "freed") ["self", "make"] (sp_Boxed_freed K) := by
  refine OkG.of (t := t_Boxed_freed K) (n := 2) (m := 5) (c.def_ 67 (d := dd_Boxed_freed) rfl) sc_Boxed_freed (fun _ _ _ _ _ _ us hl => match us, hl with | [_, _], _ => rfl) rfl rfl (fun vs H Q E z => by unfold sp_Boxed_freed at z; exact z) ?_
  intro cdv A outer s H E hr hg
  have hu := hr.units
  exact pss_cons (mlcs (own := [("place", 3)]) (i := 2) rfl sc_Boxed_freed.nd rfl rfl (sw_true rfl rfl rfl (by decide +kernel)) (mr1 rfl (f_range c kin ns) (mac (mmeth0 (mv 0) (dsp1 (He.cls_ok (fa_cls_Boxed c)) (He.meth_ok (fa_meth_Boxed_size c)) ((ok_Boxed_size c kin ns).cal hr (by decide) hg) (dsp0)) tk_of) (man))) (blkOk_by (N := N_Boxed_freed) (sc := defScope s_Boxed_freed) (own := [("place", 3)]) (by decide +kernel)) (fun _ _ _ _ _ => mgn sc_Boxed_freed.nd rfl (by first | exact Or.inl rfl | exact Or.inr rfl)) (fun _ _ _ _ _ => pts_nil) (fun _ _ _ _ _ => mtup (mac (mv 3) (mac (mmeth (mv 0) (dsp1 (He.cls_ok (fa_cls_Boxed c)) (He.meth_ok (fa_meth_Boxed_writer c)) ((ok_Boxed_writer c kin ns).cal hr (by decide) hg) (dsp0)) tk0 (mac (mv 1) (mac (mv 3) (man)))) (man))))) (pss_cons (mset (i := 4) sc_Boxed_freed.nd rfl (by first | exact Or.inl rfl | exact Or.inr rfl) (dpop1 (mfld (mv 0) (clc ⟨He.cls_ok (fa_cls_Boxed c), He.noat_ok (fa_noat_Boxed_marked c)⟩ (cl0))) (mv 1))) (pss_cons (msx (mmeth (mfld (mv 0) (clc ⟨He.cls_ok (fa_cls_Boxed c), He.noat_ok (fa_noat_Boxed_placed c)⟩ (cl0))) (dsp1 (He.cls_ok (fa_cls_Order c)) (He.meth_ok (fa_meth_Order_drop c)) ((ok_Order_drop c kin ns).cal hr (by decide) hg) (dsp0)) tk_of (mac (mv 4) (man)))) (pss_cons (msx (dpop1 (mfld (mv 0) (clc ⟨He.cls_ok (fa_cls_Boxed c), He.noat_ok (fa_noat_Boxed_owners c)⟩ (cl0))) (mv 4))) (pss_cons (mset (i := 5) sc_Boxed_freed.nd rfl (by first | exact Or.inl rfl | exact Or.inr rfl) (mmeth0 (mv 0) (dsp1 (He.cls_ok (fa_cls_Boxed c)) (He.meth_ok (fa_meth_Boxed_in_order c)) ((ok_Boxed_in_order c kin ns).cal hr (by decide) hg) (dsp0)) tk_of)) (pss_cons (mfor hp_of rfl (mr1 rfl (f_range c kin ns) (mac (mmeth0 (mv 0) (dsp1 (He.cls_ok (fa_cls_Boxed c)) (He.meth_ok (fa_meth_Boxed_size c)) ((ok_Boxed_size c kin ns).cal hr (by decide) hg) (dsp0)) tk_of) (man))) (mgn sc_Boxed_freed.nd rfl (by first | exact Or.inl rfl | exact Or.inr rfl)) (pss_one (mseti hu (mmeth (mv 0) (dsp1 (He.cls_ok (fa_cls_Boxed c)) (He.meth_ok (fa_meth_Boxed_runs c)) ((ok_Boxed_runs c kin ns).cal hr (by decide) hg) (dsp0)) tk_of (mac (mv 3) (mac (mv 5) (man)))) (mfld (mv 0) (clc ⟨He.cls_ok (fa_cls_Boxed c), He.noat_ok (fa_noat_Boxed_boxes c)⟩ (cl0))) (mv 3)))) (pss_one (msr (mlc (own := [("place", 3), ("writer", 6)]) rfl sc_Boxed_freed.nd (miv (mv 2)) (blkOk_by (N := N_Boxed_freed) (sc := defScope s_Boxed_freed) (own := [("place", 3), ("writer", 6)]) (by decide +kernel)) (fun _ _ _ _ _ => mgu rfl (mg1 (mgn sc_Boxed_freed.nd rfl (by first | exact Or.inl rfl | exact Or.inr rfl)) (mg1 (mgn sc_Boxed_freed.nd rfl (by first | exact Or.inl rfl | exact Or.inr rfl)) (mg0)))) (fun _ _ _ _ _ => pts_one (mtn (mtv (mmeth (mv 0) (dsp1 (He.cls_ok (fa_cls_Boxed c)) (He.meth_ok (fa_meth_Boxed_is_read c)) ((ok_Boxed_is_read c kin ns).cal hr (by decide) hg) (dsp0)) tk0 (mac (mv 3) (mac (mv 6) (man))))))) (fun _ _ _ _ _ => mtup (mac (mv 3) (mac (mv 6) (man))))))))))))
theorem ok_Boxed_put (c : SaysM fa fn xa K) (kin : K.In base) (ns : base.Ns mainGlobals mg) : OkG P w K mg base 9 (He.ma K (He.ga K "Boxed") "put") ["self", "make", "place", "worth"] (sp_Boxed_put K) := by
  refine OkG.of (t := t_Boxed_put K) (n := 4) (m := 0) (c.def_ 68 (d := dd_Boxed_put) rfl) sc_Boxed_put (fun _ _ _ _ _ _ us hl => match us, hl with | [_, _, _, _], _ => rfl) rfl rfl (fun vs H Q E z => by unfold sp_Boxed_put at z; exact z) ?_
  intro cdv A outer s H E hr hg
  have hu := hr.units
  exact pss_cons (msx (mmeth (mv 0) (dsp1 (He.cls_ok (fa_cls_Boxed c)) (He.meth_ok (fa_meth_Boxed_need_make c)) ((ok_Boxed_need_make c kin ns).cal hr (by decide) hg) (dsp0)) tk_of (mac (mv 1) (man)))) (pss_cons (msx (mmeth (mv 0) (dsp1 (He.cls_ok (fa_cls_Boxed c)) (He.meth_ok (fa_meth_Boxed_need_place c)) ((ok_Boxed_need_place c kin ns).cal hr (by decide) hg) (dsp0)) tk_of (mac (mv 2) (man)))) (pss_cons (msif (mtn (mtv (pe_cg ((ok_is_worth c kin ns).cal hr (by decide) hg) (g_is_worth c kin ns) (k_is_worth c kin ns) rfl tk_of (mac (mv 3) (man))))) (pss_one (mraise tk_of (pmk_exc (oex_ok (xa_oex_NoWorth c)) (init_ok (xa_init_NoWorth c)) ((ok_NoWorth_init c kin ns).calM hr (by decide) hg) (exc_one (oex_ok (xa_oex_NoWorth c)) (He.noat_ok (fa_noat_NoWorth_found c)) (keepsM fun _ _ _ _ _ h => sp_MakesError_init_i h) fun _ _ _ _ _  h => sp_NoWorth_init_i h) rfl (g_NoWorth c kin ns) (mac (mv 3) (man))))) (pss_nil)) (pss_cons (msx (mmeth (mv 0) (dsp1 (He.cls_ok (fa_cls_Boxed c)) (He.meth_ok (fa_meth_Boxed_need_new c)) ((ok_Boxed_need_new c kin ns).cal hr (by decide) hg) (dsp0)) tk_of (mac (mv 1) (man)))) (pss_cons (msx (mmeth (mv 0) (dsp1 (He.cls_ok (fa_cls_Boxed c)) (He.meth_ok (fa_meth_Boxed_need_room c)) ((ok_Boxed_need_room c kin ns).cal hr (by decide) hg) (dsp0)) tk_of (mac (mi) (man)))) (pss_one (msr (mmeth (mv 0) (dsp1 (He.cls_ok (fa_cls_Boxed c)) (He.meth_ok (fa_meth_Boxed_written c)) ((ok_Boxed_written c kin ns).cal hr (by decide) hg) (dsp0)) tk_of (mac (mv 1) (mac (mv 2) (mac (mv 3) (man)))))))))))
theorem ok_Boxed_put_all (c : SaysM fa fn xa K) (kin : K.In base) (ns : base.Ns mainGlobals mg) : OkG P w K mg base 9 (He.ma K (He.ga K "Boxed") "put_all") ["self", "make", "changes"] (sp_Boxed_put_all K) := by
  refine OkG.of (t := t_Boxed_put_all K) (n := 3) (m := 3) (c.def_ 69 (d := dd_Boxed_put_all) rfl) sc_Boxed_put_all (fun _ _ _ _ _ _ us hl => match us, hl with | [_, _, _], _ => rfl) rfl rfl (fun vs H Q E z => by unfold sp_Boxed_put_all at z; exact z) ?_
  intro cdv A outer s H E hr hg
  have hu := hr.units
  exact pss_cons (msx (mmeth (mv 0) (dsp1 (He.cls_ok (fa_cls_Boxed c)) (He.meth_ok (fa_meth_Boxed_need_make c)) ((ok_Boxed_need_make c kin ns).cal hr (by decide) hg) (dsp0)) tk_of (mac (mv 1) (man)))) (pss_cons (msif (mtn (mtv (pe_cg ((ok_is_changes c kin ns).cal hr (by decide) hg) (g_is_changes c kin ns) (k_is_changes c kin ns) rfl tk_of (mac (mv 2) (mac (mfld (mv 0) (clc ⟨He.cls_ok (fa_cls_Boxed c), He.noat_ok (fa_noat_Boxed_wide c)⟩ (cl0))) (man)))))) (pss_one (mraise tk_of (pmk_exc (oex_ok (xa_oex_NoChanges c)) (init_ok (xa_init_NoChanges c)) ((ok_NoChanges_init c kin ns).calM hr (by decide) hg) (exc_one (oex_ok (xa_oex_NoChanges c)) (He.noat_ok (fa_noat_NoChanges_found c)) (keepsM fun _ _ _ _ _ h => sp_MakesError_init_i h) fun _ _ _ _ _  h => sp_NoChanges_init_i h) rfl (g_NoChanges c kin ns) (mac (mv 2) (man))))) (pss_nil)) (pss_cons (msif (mtc (o_eq hu) (mcb k_len rfl (f_len c kin ns) (by decide +kernel) (mac (mv 2) (man))) (mi)) (pss_one (msr (mlst (man)))) (pss_nil)) (pss_cons (msx (mmeth (mv 0) (dsp1 (He.cls_ok (fa_cls_Boxed c)) (He.meth_ok (fa_meth_Boxed_need_new c)) ((ok_Boxed_need_new c kin ns).cal hr (by decide) hg) (dsp0)) tk_of (mac (mv 1) (man)))) (pss_cons (msx (mmeth (mv 0) (dsp1 (He.cls_ok (fa_cls_Boxed c)) (He.meth_ok (fa_meth_Boxed_need_room c)) ((ok_Boxed_need_room c kin ns).cal hr (by decide) hg) (dsp0)) tk_of (mac (mcb k_len rfl (f_len c kin ns) (by decide +kernel) (mac (mv 2) (man))) (man)))) (pss_cons (mset (i := 3) sc_Boxed_put_all.nd rfl (by first | exact Or.inl rfl | exact Or.inr rfl) (mlst (mac (mv 1) (man)))) (pss_cons (mfor hp_of rfl (miv (mv 2)) (mgu rfl (mg1 (mgn sc_Boxed_put_all.nd rfl (by first | exact Or.inl rfl | exact Or.inr rfl)) (mg1 (mgn sc_Boxed_put_all.nd rfl (by first | exact Or.inl rfl | exact Or.inr rfl)) (mg0)))) (pss_one (msx (pe_bm PySem.F.plainAttrs_list PySem.F.slot_list_append PySem.F.type_list_append t_app (mv 3) (mac (mmeth (mv 0) (dsp1 (He.cls_ok (fa_cls_Boxed c)) (He.meth_ok (fa_meth_Boxed_written c)) ((ok_Boxed_written c kin ns).cal hr (by decide) hg) (dsp0)) tk_of (mac (mix hu (mv 3) (mun o_neg (mi))) (mac (mv 4) (mac (mv 5) (man))))) (man)))))) (pss_one (msr (msl (mv 3) (po_some (mi)) po_none)))))))))
theorem ok_Boxed_let_go (c : SaysM fa fn xa K) (kin : K.In base) (ns : base.Ns mainGlobals mg) : OkG P w K mg base 10 (He.ma K (He.ga K "Boxed") "let_go") ["self", "make"] (sp_Boxed_let_go K) := by
  refine OkG.of (t := t_Boxed_let_go K) (n := 2) (m := 0) (c.def_ 70 (d := dd_Boxed_let_go) rfl) sc_Boxed_let_go (fun _ _ _ _ _ _ us hl => match us, hl with | [_, _], _ => rfl) rfl rfl (fun vs H Q E z => by unfold sp_Boxed_let_go at z; exact z) ?_
  intro cdv A outer s H E hr hg
  have hu := hr.units
  exact pss_cons (msx (mmeth (mv 0) (dsp1 (He.cls_ok (fa_cls_Boxed c)) (He.meth_ok (fa_meth_Boxed_need_make c)) ((ok_Boxed_need_make c kin ns).cal hr (by decide) hg) (dsp0)) tk_of (mac (mv 1) (man)))) (pss_cons (msif (mtc (o_eq hu) (mcb k_len rfl (f_len c kin ns) (by decide +kernel) (mac (mmeth0 (mv 0) (dsp1 (He.cls_ok (fa_cls_Boxed c)) (He.meth_ok (fa_meth_Boxed_makes c)) ((ok_Boxed_makes c kin ns).cal hr (by decide) hg) (dsp0)) tk_of) (man))) (mi)) (pss_one (mraise tk_of (pmk_exc (oex_ok (xa_oex_Alone c)) (init_ok (xa_init_Alone c)) ((ok_Alone_init c kin ns).calM hr (by decide) hg) (exc_one (oex_ok (xa_oex_Alone c)) (He.noat_ok (fa_noat_Alone_found c)) (keepsM fun _ _ _ _ _ h => sp_MakesError_init_i h) fun _ _ _ _ _  h => sp_Alone_init_i h) rfl (g_Alone c kin ns) (mac (mv 1) (man))))) (pss_nil)) (pss_cons (mseti hu (mb) (mfld (mv 0) (clc ⟨He.cls_ok (fa_cls_Boxed c), He.noat_ok (fa_noat_Boxed_gone c)⟩ (cl0))) (mv 1)) (pss_one (msr (mmeth (mv 0) (dsp1 (He.cls_ok (fa_cls_Boxed c)) (He.meth_ok (fa_meth_Boxed_freed c)) ((ok_Boxed_freed c kin ns).cal hr (by decide) hg) (dsp0)) tk_of (mac (mv 1) (man)))))))
theorem ok_L_all_put (c : SaysM fa fn xa K) (kin : K.In base) (ns : base.Ns mainGlobals mg) : OkG P w K mg base 10 (He.ga K "_law_all_put") ["_law_box_here", "_law_boxed", "_law_model_here", "_law_first"] (sp_L_all_put K) := by
  refine OkG.of (t := t_L_all_put K) (n := 4) (m := 6) (c.def_ 71 (d := dd_L_all_put) rfl) sc_L_all_put (fun _ _ _ _ _ _ us hl => match us, hl with | [_, _, _, _], _ => rfl) rfl rfl (fun vs H Q E z => by unfold sp_L_all_put at z; exact z) ?_
  intro cdv A outer s H E hr hg
  have hu := hr.units
  exact pss_cons (masg (mv 3) (mgu rfl (mg1 (mgn sc_L_all_put.nd rfl (by first | exact Or.inl rfl | exact Or.inr rfl)) (mg1 (mgn sc_L_all_put.nd rfl (by first | exact Or.inl rfl | exact Or.inr rfl)) (mg1 (mgn sc_L_all_put.nd rfl (by first | exact Or.inl rfl | exact Or.inr rfl)) (mg0)))))) (pss_cons (mset (i := 7) sc_L_all_put.nd rfl (by first | exact Or.inl rfl | exact Or.inr rfl) (mbin o_sub (mi) (mcb k_len rfl (f_len c kin ns) (by decide +kernel) (mac (mix hu (mv 2) (ms)) (man))))) (pss_cons (msif (mtc (o_eq hu) (mv 7) (mi)) (pss_one (msr (mb))) (pss_nil)) (pss_cons (mset (i := 8) sc_L_all_put.nd rfl (by first | exact Or.inl rfl | exact Or.inr rfl) (mlst (mac (mtup (mac (mv 5) (mac (mv 6) (man)))) (mac (mtup (mac (pe_cg ((ok_L_take c kin ns).cal hr (by decide) hg) (g_L_take c kin ns) (k_L_take c kin ns) rfl tk_of (mac (mv 0) (mac (mcb k_len rfl (f_len c kin ns) (by decide +kernel) (mac (mix hu (mix hu (mv 2) (ms)) (mi)) (man))) (man)))) (mac (mv 6) (man)))) (mac (mtup (mac (mi) (mac (pe_cg ((ok_L_worth c kin ns).cal hr (by decide) hg) (g_L_worth c kin ns) (k_L_worth c kin ns) rfl tk_of (mac (mv 0) (man))) (man)))) (man)))))) (pss_cons (msif (mtc o_gt (pe_cg ((ok_L_take c kin ns).cal hr (by decide) hg) (g_L_take c kin ns) (k_L_take c kin ns) rfl tk_of (mac (mv 0) (mac (mi) (man)))) (mi)) (pss_one (msr (mcmp (o_eq hu) (mcb (k_repr hg hu) rfl (f_repr c kin ns) (by decide +kernel) (mac (mmeth (mv 1) (dsp1 (He.cls_ok (fa_cls_Boxed c)) (He.meth_ok (fa_meth_Boxed_put c)) ((ok_Boxed_put c kin ns).cal hr (by decide) hg) (dsp0)) tk_of (mac (mv 4) (mac (mv 5) (mac (mv 6) (man))))) (man))) (mcb (k_repr hg hu) rfl (f_repr c kin ns) (by decide +kernel) (mac (pe_cg ((ok_L_written c kin ns).cal hr (by decide) hg) (g_L_written c kin ns) (k_L_written c kin ns) rfl tk_of (mac (mv 2) (mac (mv 4) (mac (mv 5) (mac (mv 6) (man)))))) (man)))))) (pss_nil)) (pss_cons (mset (i := 9) sc_L_all_put.nd rfl (by first | exact Or.inl rfl | exact Or.inr rfl) (mlst (man))) (pss_cons (mfor hp_of rfl (miv (msl (mv 8) po_none (po_some (mcb (k_min rfl) rfl (f_min c kin ns) (by decide +kernel) (mac (mv 7) (mac (pe_cg ((ok_L_take c kin ns).cal hr (by decide) hg) (g_L_take c kin ns) (k_L_take c kin ns) rfl tk_of (mac (mv 0) (mac (mi) (man)))) (man))))))) (mgu rfl (mg1 (mgn sc_L_all_put.nd rfl (by first | exact Or.inl rfl | exact Or.inr rfl)) (mg1 (mgn sc_L_all_put.nd rfl (by first | exact Or.inl rfl | exact Or.inr rfl)) (mg0)))) (pss_one (msx (pe_bm PySem.F.plainAttrs_list PySem.F.slot_list_append PySem.F.type_list_append t_app (mv 9) (mac (pe_cg ((ok_L_written c kin ns).cal hr (by decide) hg) (g_L_written c kin ns) (k_L_written c kin ns) rfl tk_of (mac (mv 2) (mac (mix hu (mbin o_add (mlst (mac (mv 4) (man))) (mv 9)) (mun o_neg (mi))) (mac (mv 5) (mac (mv 6) (man)))))) (man)))))) (pss_one (msr (mcmp (o_eq hu) (mcb (k_repr hg hu) rfl (f_repr c kin ns) (by decide +kernel) (mac (mmeth (mv 1) (dsp1 (He.cls_ok (fa_cls_Boxed c)) (He.meth_ok (fa_meth_Boxed_put_all c)) ((ok_Boxed_put_all c kin ns).cal hr (by decide) hg) (dsp0)) tk_of (mac (mv 4) (mac (msl (mv 8) po_none (po_some (mcb k_len rfl (f_len c kin ns) (by decide +kernel) (mac (mv 9) (man))))) (man)))) (man))) (mcb (k_repr hg hu) rfl (f_repr c kin ns) (by decide +kernel) (mac (mv 9) (man))))))))))))
theorem ok_law (c : SaysM fa fn xa K) (kin : K.In base) (ns : base.Ns mainGlobals mg) : OkG P w K mg base 11 (He.ga K "law") ["_law_script"] (sp_law K) := by
  refine OkG.of (t := t_law K) (n := 1) (m := 15) (c.def_ 72 (d := dd_law) rfl) sc_law (fun _ _ _ _ _ _ us hl => match us, hl with | [_], _ => rfl) rfl rfl (fun vs H Q E z => by unfold sp_law at z; exact z) ?_
  intro cdv A outer s H E hr hg
  have hu := hr.units
  exact pss_cons (mset (i := 1) sc_law.nd rfl (by first | exact Or.inl rfl | exact Or.inr rfl) (pe_cg ((ok_L_worths c kin ns).cal hr (by decide) hg) (g_L_worths c kin ns) (k_L_worths c kin ns) rfl tk_of (mac (pe_cg ((ok_L_box c kin ns).cal hr (by decide) hg) (g_L_box c kin ns) (k_L_box c kin ns) rfl tk_of (mac (pe_cg ((ok_L_cell_at c kin ns).cal hr (by decide) hg) (g_L_cell_at c kin ns) (k_L_cell_at c kin ns) rfl tk_of (mac (mv 0) (mac (mi) (man)))) (man))) (man)))) (pss_cons (mset (i := 2) sc_law.nd rfl (by first | exact Or.inl rfl | exact Or.inr rfl) (mlst (mac (pe_mk (mki_ok (xa_mki_Boxed_Rows c)) ((ok_Boxed_Rows_init c kin ns).calM hr (by decide) hg) (g_Boxed c kin ns) rfl tk_of (mac (mct k_list rfl (f_list c kin ns) (by decide +kernel) (mac (mv 1) (man))) (man))) (mac (pe_mk (mki_ok (xa_mki_Boxed_Rows c)) ((ok_Boxed_Rows_init c kin ns).calM hr (by decide) hg) (g_Boxed c kin ns) rfl tk_of (mac (mct k_list rfl (f_list c kin ns) (by decide +kernel) (mac (mv 1) (man))) (man))) (man))))) (pss_cons (mset (i := 3) sc_law.nd rfl (by first | exact Or.inl rfl | exact Or.inr rfl) (mlst (mac (pe_cg ((ok_L_model c kin ns).cal hr (by decide) hg) (g_L_model c kin ns) (k_L_model c kin ns) rfl tk_of (mac (mv 1) (man))) (mac (pe_cg ((ok_L_model c kin ns).cal hr (by decide) hg) (g_L_model c kin ns) (k_L_model c kin ns) rfl tk_of (mac (mv 1) (man))) (man))))) (pss_cons (mset (i := 4) sc_law.nd rfl (by first | exact Or.inl rfl | exact Or.inr rfl) (mcb k_len rfl (f_len c kin ns) (by decide +kernel) (mac (mv 1) (man)))) (pss_cons (mfor hp_of rfl (mr2 rfl (f_range c kin ns) (mac (mi) (mac (mcb (k_max rfl) rfl (f_max c kin ns) (by decide +kernel) (mac (mi) (mac (mcb (k_min rfl) rfl (f_min c kin ns) (by decide +kernel) (mac (mi) (mac (mcb k_len rfl (f_len c kin ns) (by decide +kernel) (mac (mv 0) (man))) (man)))) (man)))) (man)))) (mgn sc_law.nd rfl (by first | exact Or.inl rfl | exact Or.inr rfl)) (pss_cons (mset (i := 6) sc_law.nd rfl (by first | exact Or.inl rfl | exact Or.inr rfl) (pe_cg ((ok_L_box c kin ns).cal hr (by decide) hg) (g_L_box c kin ns) (k_L_box c kin ns) rfl tk_of (mac (pe_cg ((ok_L_cell_at c kin ns).cal hr (by decide) hg) (g_L_cell_at c kin ns) (k_L_cell_at c kin ns) rfl tk_of (mac (mv 0) (mac (mv 5) (man)))) (man)))) (pss_cons (mset (i := 7) sc_law.nd rfl (by first | exact Or.inl rfl | exact Or.inr rfl) (mcmp (o_eq hu) (pe_cg ((ok_L_take c kin ns).cal hr (by decide) hg) (g_L_take c kin ns) (k_L_take c kin ns) rfl tk_of (mac (mv 6) (mac (mi) (man)))) (mi))) (pss_cons (mset (i := 8) sc_law.nd rfl (by first | exact Or.inl rfl | exact Or.inr rfl) (mcmp (o_eq hu) (pe_cg ((ok_L_take c kin ns).cal hr (by decide) hg) (g_L_take c kin ns) (k_L_take c kin ns) rfl tk_of (mac (mv 6) (mac (mi) (man)))) (mi))) (pss_cons (mset (i := 9) sc_law.nd rfl (by first | exact Or.inl rfl | exact Or.inr rfl) (pe_cg ((ok_L_take c kin ns).cal hr (by decide) hg) (g_L_take c kin ns) (k_L_take c kin ns) rfl tk_of (mac (mv 6) (mac (mi) (man))))) (pss_cons (mpar rfl sc_law.nd rfl rfl (by decide) rfl rfl (mac (mix hu (mv 2) (mv 9)) (mac (mix hu (mv 3) (mv 9)) (man)))) (pss_cons (masg (pe_cg ((ok_L_put c kin ns).cal hr (by decide) hg) (g_L_put c kin ns) (k_L_put c kin ns) rfl tk_of (mac (mv 6) (mac (mv 12) (mac (mv 4) (man))))) (mgu rfl (mg1 (mgn sc_law.nd rfl (by first | exact Or.inl rfl | exact Or.inr rfl)) (mg1 (mgn sc_law.nd rfl (by first | exact Or.inl rfl | exact Or.inr rfl)) (mg1 (mgn sc_law.nd rfl (by first | exact Or.inl rfl | exact Or.inr rfl)) (mg0)))))) (pss_cons (msif (PW.pt (ma2 (mtv (mv 7)) (ma1 (mtc o_gt (mcb k_len rfl (f_len c kin ns) (by decide +kernel) (mac (mix hu (mv 12) (ms)) (man))) (mi))))) (pss_cons (msx (pe_bm PySem.F.plainAttrs_list PySem.F.slot_list_remove PySem.F.type_list_remove t_rem (mix hu (mv 12) (ms)) (mac (mv 13) (man)))) (pss_one (msx (mmeth (mv 11) (dsp1 (He.cls_ok (fa_cls_Boxed c)) (He.meth_ok (fa_meth_Boxed_let_go c)) ((ok_Boxed_let_go c kin ns).cal hr (by decide) hg) (dsp0)) tk_of (mac (mv 13) (man)))))) (pss_one (msif (mtn (mtv (pe_cg ((ok_L_all_put c kin ns).cal hr (by decide) hg) (g_L_all_put c kin ns) (k_L_all_put c kin ns) rfl tk_of (mac (mv 6) (mac (mv 11) (mac (mv 12) (mac (mlst (mac (mv 13) (mac (mv 14) (mac (mv 15) (man))))) (man)))))))) (pss_one (msr (mb))) (pss_nil)))) (pss_cons (msif (mtv (mv 8)) (pss_cons (mseti hu (mmeth0 (mv 11) (dsp1 (He.cls_ok (fa_cls_Order c)) (He.meth_ok (fa_meth_Order_copied c)) ((ok_Order_copied c kin ns).cal hr (by decide) hg) (dsp1 (He.cls_ok (fa_cls_LeapTree c)) (He.meth_ok (fa_meth_LeapTree_copied c)) ((ok_LeapTree_copied c kin ns).cal hr (by decide) hg) (dsp1 (He.cls_ok (fa_cls_Boxed c)) (He.meth_ok (fa_meth_Boxed_copied c)) ((ok_Boxed_copied c kin ns).cal hr (by decide) hg) (dsp0)))) tk_of) (mv 2) (mbin o_sub (mi) (mv 9))) (pss_one (mseti hu (pe_cg ((ok_L_model_copy c kin ns).cal hr (by decide) hg) (g_L_model_copy c kin ns) (k_L_model_copy c kin ns) rfl tk_of (mac (mv 12) (man))) (mv 3) (mbin o_sub (mi) (mv 9))))) (pss_nil)) (pss_cons (msif (PW.pt (mo2 (mtn (mtv (pe_cg ((ok_L_tells c kin ns).cal hr (by decide) hg) (g_L_tells c kin ns) (k_L_tells c kin ns) rfl tk_of (mac (mix hu (mv 2) (mi)) (mac (mix hu (mv 3) (mi)) (man)))))) (mo1 (mtn (mtv (pe_cg ((ok_L_tells c kin ns).cal hr (by decide) hg) (g_L_tells c kin ns) (k_L_tells c kin ns) rfl tk_of (mac (mix hu (mv 2) (mi)) (mac (mix hu (mv 3) (mi)) (man))))))))) (pss_one (msr (mb))) (pss_nil)) (pss_cons (mset (i := 10) sc_law.nd rfl (by first | exact Or.inl rfl | exact Or.inr rfl) (mix hu (mlst (mac (mv 4) (mac (mun o_neg (mi)) (mac (mn) (mac (mb) (mac (ms) (mac (mlst (mac (mi) (man))) (mac (mbin o_sub (mi) (mbin o_pow (mi) (mi))) (man))))))))) (pe_cg ((ok_L_take c kin ns).cal hr (by decide) hg) (g_L_take c kin ns) (k_L_take c kin ns) rfl tk_of (mac (mv 6) (mac (mi) (man)))))) (pss_one (msif (mtc (o_ne hu) (mcb (k_repr hg hu) rfl (f_repr c kin ns) (by decide +kernel) (mac (pe_cg ((ok_L_refused c kin ns).cal hr (by decide) hg) (g_L_refused c kin ns) (k_L_refused c kin ns) rfl tk_of (mac (mv 11) (mac (mv 10) (man)))) (man))) (mcb (k_repr hg hu) rfl (f_repr c kin ns) (by decide +kernel) (mac (mlst (mac (mv 10) (man))) (man)))) (pss_one (msr (mb))) (pss_nil)))))))))))))) (pss_one (msr (mb)))))))
theorem fnG_law (c : SaysM fa fn xa K) (kin : K.In base) (ns : base.Ns mainGlobals mg) {fd : FuncData} (F : FunD K "law" "law" (defArgs s_law) (defBody s_law) (defScope s_law) [] [] (He.ga K "law") fd) : FnG P w K mg base 11 (He.ga K "law") fd ["_law_script"] (sp_law K) := by
  refine FnG.of F sc_law (fun vs H Q E z => by unfold sp_law at z; exact z.1) ?_
  intro cdv A outer s H vs Q E hr hg z
  unfold sp_law at z
  have hu := hr.units
  exact ⟨t_law K (wE E), pss_cons (mset (i := 1) sc_law.nd rfl (by first | exact Or.inl rfl | exact Or.inr rfl) (pe_cg ((ok_L_worths c kin ns).cal hr (by decide) hg) (g_L_worths c kin ns) (k_L_worths c kin ns) rfl tk_of (mac (pe_cg ((ok_L_box c kin ns).cal hr (by decide) hg) (g_L_box c kin ns) (k_L_box c kin ns) rfl tk_of (mac (pe_cg ((ok_L_cell_at c kin ns).cal hr (by decide) hg) (g_L_cell_at c kin ns) (k_L_cell_at c kin ns) rfl tk_of (mac (mv 0) (mac (mi) (man)))) (man))) (man)))) (pss_cons (mset (i := 2) sc_law.nd rfl (by first | exact Or.inl rfl | exact Or.inr rfl) (mlst (mac (pe_mk (mki_ok (xa_mki_Boxed_Rows c)) ((ok_Boxed_Rows_init c kin ns).calM hr (by decide) hg) (g_Boxed c kin ns) rfl tk_of (mac (mct k_list rfl (f_list c kin ns) (by decide +kernel) (mac (mv 1) (man))) (man))) (mac (pe_mk (mki_ok (xa_mki_Boxed_Rows c)) ((ok_Boxed_Rows_init c kin ns).calM hr (by decide) hg) (g_Boxed c kin ns) rfl tk_of (mac (mct k_list rfl (f_list c kin ns) (by decide +kernel) (mac (mv 1) (man))) (man))) (man))))) (pss_cons (mset (i := 3) sc_law.nd rfl (by first | exact Or.inl rfl | exact Or.inr rfl) (mlst (mac (pe_cg ((ok_L_model c kin ns).cal hr (by decide) hg) (g_L_model c kin ns) (k_L_model c kin ns) rfl tk_of (mac (mv 1) (man))) (mac (pe_cg ((ok_L_model c kin ns).cal hr (by decide) hg) (g_L_model c kin ns) (k_L_model c kin ns) rfl tk_of (mac (mv 1) (man))) (man))))) (pss_cons (mset (i := 4) sc_law.nd rfl (by first | exact Or.inl rfl | exact Or.inr rfl) (mcb k_len rfl (f_len c kin ns) (by decide +kernel) (mac (mv 1) (man)))) (pss_cons (mfor hp_of rfl (mr2 rfl (f_range c kin ns) (mac (mi) (mac (mcb (k_max rfl) rfl (f_max c kin ns) (by decide +kernel) (mac (mi) (mac (mcb (k_min rfl) rfl (f_min c kin ns) (by decide +kernel) (mac (mi) (mac (mcb k_len rfl (f_len c kin ns) (by decide +kernel) (mac (mv 0) (man))) (man)))) (man)))) (man)))) (mgn sc_law.nd rfl (by first | exact Or.inl rfl | exact Or.inr rfl)) (pss_cons (mset (i := 6) sc_law.nd rfl (by first | exact Or.inl rfl | exact Or.inr rfl) (pe_cg ((ok_L_box c kin ns).cal hr (by decide) hg) (g_L_box c kin ns) (k_L_box c kin ns) rfl tk_of (mac (pe_cg ((ok_L_cell_at c kin ns).cal hr (by decide) hg) (g_L_cell_at c kin ns) (k_L_cell_at c kin ns) rfl tk_of (mac (mv 0) (mac (mv 5) (man)))) (man)))) (pss_cons (mset (i := 7) sc_law.nd rfl (by first | exact Or.inl rfl | exact Or.inr rfl) (mcmp (o_eq hu) (pe_cg ((ok_L_take c kin ns).cal hr (by decide) hg) (g_L_take c kin ns) (k_L_take c kin ns) rfl tk_of (mac (mv 6) (mac (mi) (man)))) (mi))) (pss_cons (mset (i := 8) sc_law.nd rfl (by first | exact Or.inl rfl | exact Or.inr rfl) (mcmp (o_eq hu) (pe_cg ((ok_L_take c kin ns).cal hr (by decide) hg) (g_L_take c kin ns) (k_L_take c kin ns) rfl tk_of (mac (mv 6) (mac (mi) (man)))) (mi))) (pss_cons (mset (i := 9) sc_law.nd rfl (by first | exact Or.inl rfl | exact Or.inr rfl) (pe_cg ((ok_L_take c kin ns).cal hr (by decide) hg) (g_L_take c kin ns) (k_L_take c kin ns) rfl tk_of (mac (mv 6) (mac (mi) (man))))) (pss_cons (mpar rfl sc_law.nd rfl rfl (by decide) rfl rfl (mac (mix hu (mv 2) (mv 9)) (mac (mix hu (mv 3) (mv 9)) (man)))) (pss_cons (masg (pe_cg ((ok_L_put c kin ns).cal hr (by decide) hg) (g_L_put c kin ns) (k_L_put c kin ns) rfl tk_of (mac (mv 6) (mac (mv 12) (mac (mv 4) (man))))) (mgu rfl (mg1 (mgn sc_law.nd rfl (by first | exact Or.inl rfl | exact Or.inr rfl)) (mg1 (mgn sc_law.nd rfl (by first | exact Or.inl rfl | exact Or.inr rfl)) (mg1 (mgn sc_law.nd rfl (by first | exact Or.inl rfl | exact Or.inr rfl)) (mg0)))))) (pss_cons (msif (PW.pt (ma2 (mtv (mv 7)) (ma1 (mtc o_gt (mcb k_len rfl (f_len c kin ns) (by decide +kernel) (mac (mix hu (mv 12) (ms)) (man))) (mi))))) (pss_cons (msx (pe_bm PySem.F.plainAttrs_list PySem.F.slot_list_remove PySem.F.type_list_remove t_rem (mix hu (mv 12) (ms)) (mac (mv 13) (man)))) (pss_one (msx (mmeth (mv 11) (dsp1 (He.cls_ok (fa_cls_Boxed c)) (He.meth_ok (fa_meth_Boxed_let_go c)) ((ok_Boxed_let_go c kin ns).cal hr (by decide) hg) (dsp0)) tk_of (mac (mv 13) (man)))))) (pss_one (msif (mtn (mtv (pe_cg ((ok_L_all_put c kin ns).cal hr (by decide) hg) (g_L_all_put c kin ns) (k_L_all_put c kin ns) rfl tk_of (mac (mv 6) (mac (mv 11) (mac (mv 12) (mac (mlst (mac (mv 13) (mac (mv 14) (mac (mv 15) (man))))) (man)))))))) (pss_one (msr (mb))) (pss_nil)))) (pss_cons (msif (mtv (mv 8)) (pss_cons (mseti hu (mmeth0 (mv 11) (dsp1 (He.cls_ok (fa_cls_Order c)) (He.meth_ok (fa_meth_Order_copied c)) ((ok_Order_copied c kin ns).cal hr (by decide) hg) (dsp1 (He.cls_ok (fa_cls_LeapTree c)) (He.meth_ok (fa_meth_LeapTree_copied c)) ((ok_LeapTree_copied c kin ns).cal hr (by decide) hg) (dsp1 (He.cls_ok (fa_cls_Boxed c)) (He.meth_ok (fa_meth_Boxed_copied c)) ((ok_Boxed_copied c kin ns).cal hr (by decide) hg) (dsp0)))) tk_of) (mv 2) (mbin o_sub (mi) (mv 9))) (pss_one (mseti hu (pe_cg ((ok_L_model_copy c kin ns).cal hr (by decide) hg) (g_L_model_copy c kin ns) (k_L_model_copy c kin ns) rfl tk_of (mac (mv 12) (man))) (mv 3) (mbin o_sub (mi) (mv 9))))) (pss_nil)) (pss_cons (msif (PW.pt (mo2 (mtn (mtv (pe_cg ((ok_L_tells c kin ns).cal hr (by decide) hg) (g_L_tells c kin ns) (k_L_tells c kin ns) rfl tk_of (mac (mix hu (mv 2) (mi)) (mac (mix hu (mv 3) (mi)) (man)))))) (mo1 (mtn (mtv (pe_cg ((ok_L_tells c kin ns).cal hr (by decide) hg) (g_L_tells c kin ns) (k_L_tells c kin ns) rfl tk_of (mac (mix hu (mv 2) (mi)) (mac (mix hu (mv 3) (mi)) (man))))))))) (pss_one (msr (mb))) (pss_nil)) (pss_cons (mset (i := 10) sc_law.nd rfl (by first | exact Or.inl rfl | exact Or.inr rfl) (mix hu (mlst (mac (mv 4) (mac (mun o_neg (mi)) (mac (mn) (mac (mb) (mac (ms) (mac (mlst (mac (mi) (man))) (mac (mbin o_sub (mi) (mbin o_pow (mi) (mi))) (man))))))))) (pe_cg ((ok_L_take c kin ns).cal hr (by decide) hg) (g_L_take c kin ns) (k_L_take c kin ns) rfl tk_of (mac (mv 6) (mac (mi) (man)))))) (pss_one (msif (mtc (o_ne hu) (mcb (k_repr hg hu) rfl (f_repr c kin ns) (by decide +kernel) (mac (pe_cg ((ok_L_refused c kin ns).cal hr (by decide) hg) (g_L_refused c kin ns) (k_L_refused c kin ns) rfl tk_of (mac (mv 11) (mac (mv 10) (man)))) (man))) (mcb (k_repr hg hu) rfl (f_repr c kin ns) (by decide +kernel) (mac (mlst (mac (mv 10) (man))) (man)))) (pss_one (msr (mb))) (pss_nil)))))))))))))) (pss_one (msr (mb))))))), by rw [st0_eq (n := 1) (m := 15) z.1 rfl]; exact z.2⟩
end
/-! the head: one run of the top -/
abbrev R : PySem.W.OpenRow := PySem.W.OpenLaw.row PySem.Challenge.rw_makeskept_k44_boxes_are_runs
abbrev hk : PySem.W.Hook := hookM 6 fa fn xa
def ob (s : PySem.W.SharedT) : AlM := obsM 6 fa fn xa (HandSHeadRun.getT s)
theorem ob_eq (s : PySem.W.SharedT) : ob s = hk.obs s.abs := obsM_eq (HandSHeadRun.getT_eq s)
def loose : List Str := "_wall" :: "MakesError" :: "NoRow" :: "NoWorth" :: "NoPlace" :: "NoStretch" :: "NoMake" :: "NoMark" :: "NoNumber" :: "NoChanges" :: "TooMany" :: "Alone" :: "MOST_PLACES" :: "MOST_CHANGES" :: "is_whole" :: "is_worth" :: "is_worths" :: "is_change" :: "is_changes" :: "MOST_MARKS" :: "TOP_LABEL" :: "Order" :: "MOST_MAKES" :: "MakeTree" :: "LeapTree" :: "Rows" :: "Boxed" :: "_law_cell_at" :: "_law_box" :: "_law_take" :: "_law_worth" :: "_law_worths" :: "_law_model" :: "_law_written" :: "_law_one_of" :: "_law_last" :: "_law_put" :: "_law_all_put" :: "_law_come" :: "_law_runs" :: "_law_refused" :: "_law_tells" :: "_law_model_copy" :: []
theorem run (w : World) : HandSHeadRun.RunEq R (PySem.W.view R.prog [51]) hk ob 8660 loose w := by
  intro os
  kernel_rfl

end Lawk44
open PySem PySem.W PySem.Calls PyProof.Rows
set_option maxRecDepth 100000 in
set_option maxHeartbeats 0 in
theorem PySem.Challenge.cw_makeskept_k44_boxes_are_runs_holds : PySem.Challenge.rw_makeskept_k44_boxes_are_runs.Holds := by
  w_on; o_law
  refine HandSHeadRun.head_any (r := OpenLaw.row PySem.Challenge.rw_makeskept_k44_boxes_are_runs) (q := view (OpenLaw.row PySem.Challenge.rw_makeskept_k44_boxes_are_runs).prog [51]) (H := Lawk44.hk) (ob := Lawk44.ob) (M := 8660) (loose := Lawk44.loose) (d := HandSHeadRun.topDef (OpenLaw.row PySem.Challenge.rw_makeskept_k44_boxes_are_runs).prog 51) (kwd := []) Lawk44.ob_eq
    (by kernel_rfl) (fun s => by kernel_rfl) Lawk44.run (by kernel_rfl) (by kernel_rfl) (by kernel_rfl) (by rfl) (by first | assumption | decide +kernel) (by decide +kernel) ⟨rfl, rfl, rfl, rfl, rfl, by decide +kernel⟩ ?hw ?hc
  case hw => w_witness2
  case hc =>
    refine MK.walk_end (l := PySem.Challenge.rw_makeskept_k44_boxes_are_runs) (n := 63) (k := 11) (x := "_law_script") rfl (by decide) (by kernel_rfl) ⟨rfl, by decide, by decide⟩ ?F
    intro w mg fa h Y G hmg0
    obtain ⟨K, KX, c⟩ := Y
    have hmg : mg ("law" : PySem.Str) = some (.ref fa) := by
      have e : (HandSHeadRun.topDef (OpenLaw.row PySem.Challenge.rw_makeskept_k44_boxes_are_runs).prog 51).name = ("law" : PySem.Str) := by kernel_rfl
      rw [← e]
      exact hmg0
    have e := hmg.symm.trans (Lawk44.g_law c KX G)
    cases e
    obtain ⟨fd, F⟩ := c.def_ 72 (d := Lawk44.dd_law) rfl
    refine ⟨K, fd, Lawk44.sp_law K, KX, fun s v => L2.FunD.bindsA (ps := ["_law_script"]) F (fun _ _ _ _ _ _ us hl => match us, hl with | [_], _ => rfl) s [v] rfl, fun H a ns hl S => Lawk44.law_ok S, fun base kin ns => ?_⟩
    exact Lawk44.fnG_law c kin ns F

