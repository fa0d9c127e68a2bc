import PyProof.Rows.All
import PySem.Challenge.RW_makeskept_k16_tours_by_coming_and_leavin
import Wide.All
import OpenK.AllK
import Wide.FinOn
import HandS.ForMost
import HandS.ForExc
import HandS.Defaults
import HandS.Wide
import HandS.Walk
import HandS.IsInst
import HandS.TupAny
import HandS.Style
import HandS.RaiseMore
import PyProof.ReprRoads
import HandS.WordsDict
import HandS.TupLen
import HandS.Small
import HandS.DictComp
import HandS.NoneIn
import HandS.Rev
import HandS.RevRange
import HandS.HeadEnd
import HandS.Head0
import HandS.Head1
import HandS.Head2
import HandS.HeadHook1
import HandS.HeadHook2
import HandS.HeadHook3
import HandS.HeadHook4
import HandS.Dict
import HandS.ExcInit
import HandS.ExcField
import HandS.ExcIs
import HandS.More
import HandS.SetFor
import HandS.Text
import HandS.TryOnly
import KE.BitLaws
import HandS.Zip
import HandS.SetKeys
import HandS.Deep
import HandS.TryMany
import HandS.SortInts
/-! By an AI agent: a layer of its own over the walk of the abstract heap, the readings of the text, what they keep, the head. -/
set_option Elab.async false
set_option linter.all false
set_option maxRecDepth 100000
set_option maxHeartbeats 4000000
namespace MK
open PySem PySem.Spec PyProof.Rows L2

/-! ### assertions about the abstract heap -/
def isFix : Option HO → Prop
  | some (.tup _) => True
  | some (.frz _ _) => True
  | _ => False
def Keep (H H' : Hp) : Prop := ∀ a, isFix (H a) → H' a = H a
theorem Keep.refl (H : Hp) : Keep H H := fun _ _ => rfl
theorem Keep.trans {H H1 H2 : Hp} (a : Keep H H1) (b : Keep H1 H2) : Keep H H2 := fun x h => (b x (by rw [a x h]; exact h)).trans (a x h)
structure SP where
  P : Hp → List Addr → Prop
  dom : ∀ H A, P H A → ∀ a ∈ A, H a ≠ none ∧ ¬ isFix (H a)
  st : ∀ H H' A, P H A → (∀ a ∈ A, H' a = H a) → Keep H H' → P H' A
def SL : Hp → List SP → List Addr → Prop
  | _, [], A => A = []
  | H, p :: ps, A => ∃ A1 A2, A = A1 ++ A2 ∧ p.P H A1 ∧ SL H ps A2
theorem SL.dom {H : Hp} : ∀ {ps : List SP} {A : List Addr}, SL H ps A → ∀ a ∈ A, H a ≠ none ∧ ¬ isFix (H a)
  | [], A, h, a, ha => by cases h; cases ha
  | p :: ps, A, h, a, ha => by
    obtain ⟨A1, A2, rfl, h1, h2⟩ := h
    rcases List.mem_append.mp ha with z | z
    · exact p.dom _ _ h1 a z
    · exact h2.dom a z
theorem SL.st {H H' : Hp} (k : Keep H H') : ∀ {ps : List SP} {A : List Addr}, SL H ps A → (∀ a ∈ A, H' a = H a) → SL H' ps A
  | [], A, h, _ => h
  | p :: ps, A, h, e => by
    obtain ⟨A1, A2, rfl, h1, h2⟩ := h
    exact ⟨A1, A2, rfl, p.st _ _ _ h1 (fun a ha => e a (List.mem_append_left _ ha)) k, h2.st k fun a ha => e a (List.mem_append_right _ ha)⟩
theorem SL.app {H : Hp} : ∀ {ps qs : List SP} {A : List Addr}, SL H (ps ++ qs) A ↔ ∃ A1 A2, A = A1 ++ A2 ∧ SL H ps A1 ∧ SL H qs A2
  | [], qs, A => ⟨fun h => ⟨[], A, rfl, rfl, h⟩, fun ⟨A1, A2, e, h1, h2⟩ => by cases h1; rw [e]; exact h2⟩
  | p :: ps, qs, A => by
    constructor
    · rintro ⟨A1, A2, rfl, h1, h2⟩
      obtain ⟨B1, B2, rfl, h3, h4⟩ := SL.app.mp h2
      exact ⟨A1 ++ B1, B2, by simp, ⟨A1, B1, rfl, h1, h3⟩, h4⟩
    · rintro ⟨A1, A2, rfl, ⟨B1, B2, rfl, h3, h4⟩, h5⟩
      exact ⟨B1, B2 ++ A2, by simp, h3, SL.app.mpr ⟨B2, A2, rfl, h4, h5⟩⟩
def Star (H : Hp) (ps : List SP) : Prop := ∃ A, A.Nodup ∧ SL H ps A
theorem Star.nil (H : Hp) : Star H [] := ⟨[], List.nodup_nil, rfl⟩

def pt (a : Addr) (o : HO) : SP where
  P := fun H A => A = [a] ∧ H a = some o ∧ ¬ isFix (some o)
  dom := fun H A ⟨e, h, n⟩ b hb => by
    subst e
    have e : b = a := by simpa using hb
    subst e
    rw [h]
    exact ⟨(fun z => by cases z), n⟩
  st := fun H H' A ⟨e, h, n⟩ k _ => ⟨e, by rw [k a (by simp [e]), h], n⟩
def fx (a : Addr) (o : HO) : SP where
  P := fun H A => A = [] ∧ H a = some o ∧ isFix (some o)
  dom := fun H A ⟨e, h, n⟩ b hb => by
    subst e
    cases hb
  st := fun H H' A ⟨e, h, n⟩ _ k => ⟨e, by rw [k a (by rw [h]; exact n), h], n⟩
def pr (φ : Prop) : SP where
  P := fun _ A => A = [] ∧ φ
  dom := fun H A h b hb => by
    rw [h.1] at hb
    cases hb
  st := fun H H' A h _ k => h
def ex {α : Type} (f : α → SP) : SP where
  P := fun H A => ∃ x, (f x).P H A
  dom := fun H A ⟨x, h⟩ => (f x).dom H A h
  st := fun H H' A ⟨x, h⟩ k q => ⟨x, (f x).st H H' A h k q⟩
def sep (ps : List SP) : SP where
  P := fun H A => SL H ps A
  dom := fun H A h => h.dom
  st := fun H H' A h k q => h.st q k

section
variable {H H' : Hp} {ps qs : List SP} {p q r : SP} {a : Addr} {o o' : HO} {φ : Prop}
theorem Star.split : Star H (p :: ps) ↔ ∃ A1 A2, (A1 ++ A2).Nodup ∧ p.P H A1 ∧ SL H ps A2 :=
  ⟨fun ⟨A, n, A1, A2, e, h1, h2⟩ => ⟨A1, A2, e ▸ n, h1, h2⟩, fun ⟨A1, A2, n, h1, h2⟩ => ⟨_, n, A1, A2, rfl, h1, h2⟩⟩
theorem SL.perm (h : ps.Perm qs) : ∀ {A : List Addr}, SL H ps A → ∃ B, A.Perm B ∧ SL H qs B := by
  induction h with
  | nil => exact fun {A} hA => ⟨A, .refl _, hA⟩
  | cons x _ ih =>
    intro A hA
    obtain ⟨A1, A2, rfl, h1, h2⟩ := hA
    obtain ⟨B, pb, hb⟩ := ih h2
    exact ⟨A1 ++ B, pb.append_left A1, A1, B, rfl, h1, hb⟩
  | swap x y l =>
    intro A hA
    obtain ⟨A1, A2, rfl, h1, B1, B2, rfl, h3, h4⟩ := hA
    refine ⟨B1 ++ (A1 ++ B2), ?_, B1, A1 ++ B2, rfl, h3, A1, B2, rfl, h1, h4⟩
    rw [← List.append_assoc, ← List.append_assoc]
    exact List.Perm.append_right B2 List.perm_append_comm
  | trans _ _ ih1 ih2 =>
    intro A hA
    obtain ⟨B, pb, hb⟩ := ih1 hA
    obtain ⟨C, pc, hc⟩ := ih2 hb
    exact ⟨C, pb.trans pc, hc⟩
theorem Star.perm (S : Star H ps) (h : ps.Perm qs) : Star H qs := by
  obtain ⟨A, n, hA⟩ := S
  obtain ⟨B, pb, hb⟩ := SL.perm h hA
  exact ⟨B, pb.nodup_iff.mp n, hb⟩
theorem Star.tail (S : Star H (p :: ps)) : Star H ps := by
  obtain ⟨A1, A2, n, _, h⟩ := Star.split.mp S
  exact ⟨A2, (List.nodup_append.mp n).2.1, h⟩
theorem Star.get (S : Star H (pt a o :: ps)) : H a = some o := by
  obtain ⟨A1, A2, _, ⟨_, h, _⟩, _⟩ := Star.split.mp S
  exact h
theorem Star.getF (S : Star H (fx a o :: ps)) : H a = some o := by
  obtain ⟨A1, A2, _, ⟨_, h, _⟩, _⟩ := Star.split.mp S
  exact h
theorem nofix_iff {o : HO} : isFix (some o) ↔ isFix (some o) := Iff.rfl
theorem Star.upd' (S : Star H (pt a o :: ps)) (n' : ¬ isFix (some o')) : Star (upd H a o') (pt a o' :: ps) := by
  obtain ⟨A1, A2, n, ⟨e, h, nf⟩, h2⟩ := Star.split.mp S
  subst e
  refine Star.split.mpr ⟨[a], A2, n, ⟨rfl, upd_same, n'⟩, h2.st (fun b hb => ?_) fun b hb => ?_⟩
  · refine upd_ne fun z => ?_
    subst z
    rw [h] at hb
    exact nf hb
  · refine upd_ne fun z => ?_
    subst z
    exact (List.nodup_cons.mp n).1 hb
theorem Star.new' (S : Star H ps) (hn : H a = none) (n' : ¬ isFix (some o)) : Star (upd H a o) (pt a o :: ps) := by
  obtain ⟨A, n, h⟩ := S
  have na : a ∉ A := fun z => (h.dom a z).1 hn
  refine Star.split.mpr ⟨[a], A, List.nodup_cons.mpr ⟨na, n⟩, ⟨rfl, upd_same, n'⟩, h.st (fun b hb => ?_) fun b hb => ?_⟩
  · refine upd_ne fun z => ?_
    subst z
    rw [hn] at hb
    exact hb
  · exact upd_ne fun z => na (z ▸ hb)
theorem Star.newF (S : Star H ps) (hn : H a = none) (n' : isFix (some o)) : Star (upd H a o) (fx a o :: ps) := by
  obtain ⟨A, n, h⟩ := S
  have na : a ∉ A := fun z => (h.dom a z).1 hn
  refine Star.split.mpr ⟨[], A, n, ⟨rfl, upd_same, n'⟩, h.st (fun b hb => ?_) fun b hb => ?_⟩
  · refine upd_ne fun z => ?_
    subst z
    rw [hn] at hb
    exact hb
  · exact upd_ne fun z => na (z ▸ hb)
/-- an object that no one holds any more is forgotten -/
theorem Star.del (S : Star H (pt a o :: ps)) (e : ∀ b, b ≠ a → H' b = H b) : Star H' ps := by
  obtain ⟨A1, A2, n, ⟨e1, h, nf⟩, h2⟩ := Star.split.mp S
  subst e1
  refine ⟨A2, (List.nodup_cons.mp n).2, h2.st (fun b hb => e b fun z => ?_) fun b hb => e b fun z => ?_⟩
  · subst z
    rw [h] at hb
    exact nf hb
  · subst z
    exact (List.nodup_cons.mp n).1 hb
theorem Star.updL {xs ys : List V} (S : Star H (pt a (.lst xs) :: ps)) : Star (upd H a (.lst ys)) (pt a (.lst ys) :: ps) := S.upd' id
theorem Star.newL {ys : List V} (S : Star H ps) (hn : H a = none) : Star (upd H a (.lst ys)) (pt a (.lst ys) :: ps) := S.new' hn id
theorem Star.newT {ys : List V} (S : Star H ps) (hn : H a = none) : Star (upd H a (.tup ys)) (fx a (.tup ys) :: ps) := S.newF hn True.intro
theorem Star.mono1 (S : Star H (p :: ps)) (h : ∀ A, p.P H A → q.P H A) : Star H (q :: ps) := by
  obtain ⟨A1, A2, n, h1, h2⟩ := Star.split.mp S
  exact Star.split.mpr ⟨A1, A2, n, h A1 h1, h2⟩
theorem Star.ex_iff {α : Type} {f : α → SP} : Star H (ex f :: ps) ↔ ∃ x, Star H (f x :: ps) :=
  ⟨fun S => by
    obtain ⟨A1, A2, n, ⟨x, h1⟩, h2⟩ := Star.split.mp S
    exact ⟨x, Star.split.mpr ⟨A1, A2, n, h1, h2⟩⟩, fun ⟨x, S⟩ => S.mono1 fun _ h => ⟨x, h⟩⟩
theorem Star.pr_iff : Star H (pr φ :: ps) ↔ φ ∧ Star H ps :=
  ⟨fun S => by
    obtain ⟨A1, A2, n, ⟨_, h1⟩, h2⟩ := Star.split.mp S
    exact ⟨h1, S.tail⟩, fun ⟨h, A, n, hA⟩ => Star.split.mpr ⟨[], A, n, ⟨rfl, h⟩, hA⟩⟩
theorem Star.sep_iff : Star H (sep qs :: ps) ↔ Star H (qs ++ ps) :=
  ⟨fun ⟨A, n, A1, A2, e, h1, h2⟩ => ⟨A, n, SL.app.mpr ⟨A1, A2, e, h1, h2⟩⟩, fun ⟨A, n, h⟩ => by
    obtain ⟨A1, A2, e, h1, h2⟩ := SL.app.mp h
    exact ⟨A, n, A1, A2, e, h1, h2⟩⟩
theorem Star.dupF (S : Star H (fx a o :: ps)) : Star H (fx a o :: fx a o :: ps) := by
  obtain ⟨A1, A2, n, ⟨e, h, f⟩, h2⟩ := Star.split.mp S
  subst e
  exact Star.split.mpr ⟨[], A2, n, ⟨rfl, h, f⟩, [], A2, rfl, ⟨rfl, h, f⟩, h2⟩
theorem Star.s1 (S : Star H (p :: q :: ps)) : Star H (q :: p :: ps) := S.perm (.swap _ _ _)
end
section
variable {H : Hp} {ps : List SP} {a b c d e f g h i j : SP}
theorem Star.p0 (S : Star H (a :: ps)) : Star H (a :: ps) := S
theorem Star.p1 (S : Star H (a :: b :: ps)) : Star H (b :: a :: ps) := S.perm (.swap _ _ _)
theorem Star.p2 (S : Star H (a :: b :: c :: ps)) : Star H (c :: a :: b :: ps) := S.perm (.trans (.cons _ (.swap _ _ _)) (.swap _ _ _))
theorem Star.up {n : List SP} (S : Star H (n ++ a :: ps)) : Star H (a :: (n ++ ps)) := S.perm List.perm_middle
theorem Star.p3 (S : Star H (a :: b :: c :: d :: ps)) : Star H (d :: a :: b :: c :: ps) := Star.up (n := [a, b, c]) S
theorem Star.p4 (S : Star H (a :: b :: c :: d :: e :: ps)) : Star H (e :: a :: b :: c :: d :: ps) := Star.up (n := [a, b, c, d]) S
theorem Star.p5 (S : Star H (a :: b :: c :: d :: e :: f :: ps)) : Star H (f :: a :: b :: c :: d :: e :: ps) := Star.up (n := [a, b, c, d, e]) S
theorem Star.p6 (S : Star H (a :: b :: c :: d :: e :: f :: g :: ps)) : Star H (g :: a :: b :: c :: d :: e :: f :: ps) := Star.up (n := [a, b, c, d, e, f]) S
theorem Star.p7 (S : Star H (a :: b :: c :: d :: e :: f :: g :: h :: ps)) : Star H (h :: a :: b :: c :: d :: e :: f :: g :: ps) := Star.up (n := [a, b, c, d, e, f, g]) S
theorem Star.p8 (S : Star H (a :: b :: c :: d :: e :: f :: g :: h :: i :: ps)) : Star H (i :: a :: b :: c :: d :: e :: f :: g :: h :: ps) := Star.up (n := [a, b, c, d, e, f, g, h]) S
theorem Star.p9 (S : Star H (a :: b :: c :: d :: e :: f :: g :: h :: i :: j :: ps)) : Star H (j :: a :: b :: c :: d :: e :: f :: g :: h :: i :: ps) := Star.up (n := [a, b, c, d, e, f, g, h, i]) S
end
end MK

namespace MK
open PySem PySem.Spec PyProof.Rows L2

/-! ### promises of defs that are called where no repr runs -/
structure FnG (P : Program) (w : World) (K : PySem.W.Frag) (mg : Str → Option Value) (base : Heap) (k : Nat) (f : Addr) (fd : FuncData) (ps : List Str) (sp : Sp) : Prop where
  len : ∀ vs H Q E, sp vs H Q E → vs.length = ps.length
  run : ∀ (A : Around) (outer : List Env) (s : Shared) (H : Hp) (args : Args) (us : List Value) (vs : List V) (Q : VK) (E : XK),
    Room k A → A.guards = some [] → Env0 P w K mg base A outer s H → BindsTo s fd args (ps.zip us) → Vals vs us → sp vs H Q E →
      codeAny (model P w) A (.call (.ref f) args) (CR (L2.CX P w) outer P w H s Q E) s
section
variable {P : Program} {w : World} {K : PySem.W.Frag} {mg : Str → Option Value} {base : Heap} {k : Nat} {f : Addr} {fd : FuncData} {ps : List Str} {sp sp' : Sp}
theorem FnG.mono {j : Nat} (F : FnG P w K mg base j f fd ps sp) (h : j ≤ k) : FnG P w K mg base k f fd ps sp :=
  ⟨F.len, fun A o s H a us vs Q E hr hg => F.run A o s H a us vs Q E (hr.mono h) hg⟩
theorem FnG.imp (F : FnG P w K mg base k f fd ps sp) (h : ∀ vs H Q E, sp' vs H Q E → sp vs H Q E) : FnG P w K mg base k f fd ps sp' :=
  ⟨fun vs H Q E q => F.len vs H Q E (h _ _ _ _ q), fun A o s H a us vs Q E hr hg he hb hv hs => F.run A o s H a us vs Q E hr hg he hb hv (h _ _ _ _ hs)⟩
/-- a def that nothing asks -/
theorem FnG.never (f : Addr) (fd : FuncData) (ps : List Str) : FnG P w K mg base k f fd ps (fun _ _ _ _ => False) :=
  ⟨fun _ _ _ _ h => h.elim, fun _ _ _ _ _ _ _ _ _ _ _ _ _ _ h => h.elim⟩
theorem FnG.of {x qual : Str} {params : Arguments} {body : List Stmt} {scope : Scope} {N : List Str} (F : FunD K x qual params body scope [] [] f fd) (S : FnScope N ps scope) (len : ∀ vs H Q E, sp vs H Q E → vs.length = ps.length)
    (hbody : ∀ (cdv : Value) (A : Around) (outer : List Env) (s : Shared) (H : Hp) (vs : List V) (Q : VK) (E : XK),
      Room k (A.deeper (envOfC qual scope s.heap.objs.size f cdv)) → A.guards = some [] → sp vs H Q E →
      ∃ t, PSs (cxOf (L2.CX P w) P w K mg base N qual scope f cdv A outer s H E) body t ∧ t { nx := fun _ H' => Q .non H', rt := Q } (start N vs) H) :
    FnG P w K mg base (k + 1) f fd ps sp := by
  obtain ⟨oc, od, dV, kV, doc, pm, an, cdv, ct, osl, e, lk, hcd, _, _⟩ := F.ex
  subst e
  constructor
  · exact len
  intro A outer s H args us vs Q E hr hg e0 hb r hsp
  have hl := len _ _ _ _ hsp
  have kin : K.In s.heap := e0.mod.kin.keeps (fun b o z => (e0.bs b o z).1)
  have kinds : ∀ y ∈ ps.zip us, scope.names.lookup y.1 = some .local ∨
      (scope.names.lookup y.1 = some .cell ∧ ((cellsFrom (s.heap.objs.size + 1) scope.names []).lookup y.1).isSome = true) := by
    intro y hy
    have hm : y.1 ∈ ps := (List.of_mem_zip (show (y.1, y.2) ∈ ps.zip us from hy)).1
    rcases S.par y.1 hm with q | q
    · exact Or.inl q
    · exact Or.inr ⟨q, PySem.W.cellsFrom_some _ _ _ (Or.inl q)⟩
  refine codeAny_call_function hr.depth (kin _ _ lk) rfl S.co S.gen rfl (PySem.W.codeRec_of kin hcd) (hb _ _ _ _ ?_)
  refine wpAny_newFunctionEnv_cells S.kind kinds ?_
  intro env he s1 x
  subst he
  have lim : s.heap.NoLimit := e0.mod.nolimit.keeps (fun b o z => (e0.bs b o z).1)
  refine ⟨lim.keeps x.toInCall.keep, codeAny_func ?_⟩
  obtain ⟨t, ht, hq⟩ := hbody cdv A outer s H vs Q E (hr.deeper _) hg hsp
  refine wpAny_mono (ht.run [] s1 (start N vs) H _ (inv_start S hr.hd e0 hl r x) hq) ?_ (fun _ _ z => z)
  intro fl s' hs
  cases fl with
  | next =>
    obtain ⟨σ', H', J, q⟩ := hs
    exact ⟨V.non, H', J.os, J.bare, J.base, J.hok, rfl, q⟩
  | ret u =>
    obtain ⟨v, σ', H', J, rv, q⟩ := hs
    exact ⟨v, H', J.os, J.bare, J.base, J.hok, rv, q⟩
  | brk =>
    obtain ⟨_, _, _, q⟩ := hs
    exact q.elim
  | cont =>
    obtain ⟨_, _, _, q⟩ := hs
    exact q.elim
end

/-! ### calls -/
section
variable {X : Cx} {k j : Nat} {f C : Addr} {fd : FuncData} {ps : List Str} {sp : Sp} {W : WX} {x m : Str} {p pos apos : Pos} {e o : Expr} {es : List Expr} {ta : TE} {t : TA}
/-- what is asked of a callee that runs within X -/
structure Cal (X : Cx) (f : Addr) (sp : Sp) : Prop where
  ex : ∃ (k : Nat) (fd : FuncData) (ps : List Str), Room k X.A ∧ X.A.guards = some [] ∧ Binds X.K fd ps [] ∧ FnG X.prog X.w X.K X.mg X.base k f fd ps sp
theorem Cal.run (c : Cal X f sp) (tk : Takes X W) {pins : List (Addr × Obj)} {σ : L2.St} {H : Hp} {s : Shared} {Q : VK} {us : List Value} {vs : List V} (I : Inv X pins σ H s) (r : Vals vs us)
    (h : sp vs H Q (fun cls d H' => W cls d σ H')) : wpAny (model X.prog X.w) X.A (call (.ref f) us) (EP X pins σ Q) X.xe s := by
  obtain ⟨k, fd, ps, hr, hg, hb, F⟩ := c.ex
  have hl : us.length = ps.length := by rw [← r.length]; exact F.len _ _ _ _ h
  have b := hb s us I.kIn (by rw [List.append_nil]; exact hl)
  rw [List.append_nil] at b
  refine wpAny_call (codeAny_mono (F.run X.A X.stack s H ⟨us, []⟩ us vs Q _ hr hg I.env0 b r h) ?_)
  intro r s' hq
  rcases r with e | (u | _ | _ | _)
  · exact tk e s' (XE.of_call I (fun _ _ _ z => z) hq)
  · exact hq.elim
  · exact hq.elim
  · exact hq.elim
  · exact I.after hq
/-- f(e, ..): what its promise asks -/
def eCall (sp : Sp) (W : WX) (t : TA) : TE := fun σ H Q => t σ H fun vs H1 => sp vs H1 Q (fun cls d H2 => W cls d σ H2)
theorem pe_cg (c : Cal X f sp) (hm : X.mg x = some (.ref f)) (hk : PySem.W.keepIn X.K (.ref f) = true) (gl : Gl X x) (tk : Takes X W) (ha : PA X (e :: es) t)
    (hdb : (x == ("__debug__" : Str)) = false := by decide +kernel) (he : starEach (e :: es) X.env = (false, eval e X.env) :: starEach es X.env := by rfl) (hpl : (backTo pos (starEach es X.env)).any (·.1) = false := by rfl) :
    PE X (.Call (.Name x p) (e :: es) [] pos) (eCall sp W t) := by
  constructor
  intro pins s σ H Q I h
  refine wpAny_Call_Name_kw (ld_glob I gl hm ?_ hdb)
  refine PySem.W.callWith_K (h₀ := X.base) I.ok.mod.kin hk (thn (ha.run pos pins s σ H _ I h) ?_) he hpl
  rintro us s1 ⟨vs, H1, I1, r, q⟩
  exact ⟨I1.kIn, c.run tk I1 r q⟩
theorem pe_cg0 (c : Cal X f sp) (hm : X.mg x = some (.ref f)) (hk : PySem.W.keepIn X.K (.ref f) = true) (gl : Gl X x) (tk : Takes X W)
    (hdb : (x == ("__debug__" : Str)) = false := by decide +kernel) : PE X (.Call (.Name x p) [] [] pos) (eCall sp W tNil) := by
  constructor
  intro pins s σ H Q I h
  refine wpAny_Call_Name_kw (ld_glob I gl hm ?_ hdb)
  exact PySem.W.callWith_K0 I.kIn hk (c.run (us := []) tk I .nil h)
/-- x is an instance of the class at C, m no attribute of its own -/
def isIns (C : Addr) (m : Str) (x : V) (H : Hp) : Prop := ∃ a dx fs, x = .ref a ∧ H a = some (.ins C dx fs) ∧ fs.lookup m = none
def eMeth (C : Addr) (m : Str) (sp : Sp) (W : WX) (to : TE) (t : TA) : TE := fun σ H Q => to σ H fun x H1 => isIns C m x H1 ∧ t σ H1 fun vs H2 => sp (x :: vs) H2 Q (fun cls d H3 => W cls d σ H3)
theorem pe_mg {pl : Sem Bool} (he : PE X o ta) (cl : Cls X.K C) (hm : Meth X.K C m f) (c : Cal X f sp) (tk : Takes X W) (ha : PA X (e :: es) t)
    (hst : starEach (e :: es) X.env = (false, eval e X.env) :: starEach es X.env := by rfl) (hpl : (backTo pos (starEach es X.env)).any (·.1) = false := by rfl)
    (ht : eval (.Call (.Attribute o m apos) (e :: es) [] pos) X.env = (do
      let ov ← eval o X.env
      standAt apos.atName
      let (f, first) ← holding [ov] (getMethod ov m pl)
      callWith pos f first (backTo pos (starEach (e :: es) X.env)) (backToKw pos (keywordEach [] X.env))) := by rfl) :
    PE X (.Call (.Attribute o m apos) (e :: es) [] pos) (eMeth C m sp W ta t) := by
  constructor
  intro pins s σ H Q I h
  refine PySem.W.methodCall_KW (pl := pl) (thn (he.run pins s σ H _ I h) ?_) ht
  rintro u s1 ⟨x, H1, I1, rx, ⟨a, dx, fs, ex, ea, l⟩, q⟩
  subst ex
  cases (show u = Value.ref a from rx)
  refine getmeth_ok I1 ea cl hm l (PySem.W.callWith_K (first := [.ref a]) (h₀ := X.base) I.ok.mod.kin hm.kp (thn (ha.run pos pins s1 σ H1 _ I1 q) ?_) hst hpl)
  rintro us s2 ⟨vs, H2, I2, r, q2⟩
  exact ⟨I2.kIn, c.run (us := .ref a :: us) (vs := .ref a :: vs) tk I2 (.cons rfl r) q2⟩
theorem pe_mg0 {pl : Sem Bool} (he : PE X o ta) (cl : Cls X.K C) (hm : Meth X.K C m f) (c : Cal X f sp) (tk : Takes X W)
    (ht : eval (.Call (.Attribute o m apos) [] [] pos) X.env = (do
      let ov ← eval o X.env
      standAt apos.atName
      let (f, first) ← holding [ov] (getMethod ov m pl)
      callWith pos f first (backTo pos (starEach [] X.env)) (backToKw pos (keywordEach [] X.env))) := by rfl) :
    PE X (.Call (.Attribute o m apos) [] [] pos) (eMeth C m sp W ta tNil) := by
  constructor
  intro pins s σ H Q I h
  refine PySem.W.methodCall_KW (pl := pl) (thn (he.run pins s σ H _ I h) ?_) ht
  rintro u s1 ⟨x, H1, I1, rx, ⟨a, dx, fs, ex, ea, l⟩, q⟩
  subst ex
  cases (show u = Value.ref a from rx)
  exact getmeth_ok I1 ea cl hm l (PySem.W.callWith_K0 (first := [.ref a]) I1.kIn hm.kp (c.run (us := [.ref a]) (vs := [.ref a]) tk I1 (.cons rfl .nil) q))

/-! ### making an instance -/
/-- a callee within the making of an instance -/
structure CalM (X : Cx) (f : Addr) (sp : Sp) : Prop where
  ex : ∃ (k : Nat) (fd : FuncData) (ps : List Str), Room (k + 1) X.A ∧ X.A.guards = some [] ∧ Binds X.K fd ps [] ∧ FnG X.prog X.w X.K X.mg X.base k f fd ps sp
theorem make_guards {A : Around} {us : List Value} : (A.under (.builtin "type.__call__" ⟨.ref C :: us, []⟩)).guards = A.guards := by
  first | rfl | simp [Around.under, Code.guards, Code.isGuard, guardIds, pushGuards]
/-- C(..): a new instance, then __init__ -/
def eMake (C : Addr) (sp : Sp) (W : WX) (t : TA) : TE := fun σ H Q => t σ H fun vs H1 => ∀ x dx, H1 x = none → H1 dx = none → dx ≠ x →
  sp (.ref x :: vs) (upd (upd H1 dx (.own x)) x (.ins C dx [])) (fun v H2 => v = .non ∧ Q (.ref x) H2) (fun cls d H2 => W cls d σ H2)
theorem CalM.run (M : Mk X.K C f) (c : CalM X f sp) (tk : Takes X W) {pins : List (Addr × Obj)} {σ : L2.St} {H : Hp} {s : Shared} {Q : VK} {us : List Value} {vs : List V} (I : Inv X pins σ H s) (r : Vals vs us)
    (h : ∀ x dx, H x = none → H dx = none → dx ≠ x → sp (.ref x :: vs) (upd (upd H dx (.own x)) x (.ins C dx [])) (fun v H2 => v = .non ∧ Q (.ref x) H2) (fun cls d H2 => W cls d σ H2)) :
    wpAny (model X.prog X.w) X.A (call (.ref C) us) (EP X pins σ Q) X.xe s := by
  obtain ⟨k, fd, ps, hr, hg, hb, F⟩ := c.ex
  have n0 : H s.heap.objs.size = none := I.hok.fresh (Nat.le_refl _)
  have n1 : H (s.heap.objs.size + 1) = none := I.hok.fresh (Nat.le_succ _)
  have hq := h _ _ n1 n0 (Nat.ne_of_lt (Nat.lt_succ_self _))
  have J := Inv.made (C := C) I
  have r2 : Vals (V.ref (s.heap.objs.size + 1) :: vs) (Value.ref (s.heap.objs.size + 1) :: us) := .cons rfl r
  have hl : (Value.ref (s.heap.objs.size + 1) :: us).length = ps.length := by
    rw [← r2.length]
    exact F.len _ _ _ _ hq
  have b := hb _ (Value.ref (s.heap.objs.size + 1) :: us) J.kIn (by rw [List.append_nil]; exact hl)
  rw [List.append_nil] at b
  have run := F.run (X.A.under (.builtin "type.__call__" ⟨.ref C :: us, []⟩)) X.stack _ _ ⟨Value.ref (s.heap.objs.size + 1) :: us, []⟩ (Value.ref (s.heap.objs.size + 1) :: us) _ _ _
    (hr.make C us []) (by rw [make_guards]; exact hg) (J.env0.make C us []) b r2 hq
  refine wpAny_call (make_map (f := f) I.kIn M.makes M.init (beq_iff_eq.mp M.fn) (codeAny_mono run ?_))
  intro r s' z
  rcases r with e | (u | _ | _ | _)
  · exact tk e s' (XE.of_call J (fun _ _ _ y => y) z)
  · exact z.elim
  · exact z.elim
  · exact z.elim
  · obtain ⟨v, H', I3, rv, ev, q3⟩ := J.after z
    subst ev
    exact ⟨rv, V.ref (s.heap.objs.size + 1), H', I3, rfl, q3⟩
theorem pe_mk (M : Mk X.K C f) (c : CalM X f sp) (hm : X.mg x = some (.ref C)) (gl : Gl X x) (tk : Takes X W) (ha : PA X (e :: es) t)
    (hdb : (x == ("__debug__" : Str)) = false := by decide +kernel) (he : starEach (e :: es) X.env = (false, eval e X.env) :: starEach es X.env := by rfl) (hpl : (backTo pos (starEach es X.env)).any (·.1) = false := by rfl) :
    PE X (.Call (.Name x p) (e :: es) [] pos) (eMake C sp W t) := by
  constructor
  intro pins s σ H Q I h
  refine wpAny_Call_Name_kw (ld_glob I gl hm ?_ hdb)
  refine PySem.W.callWith_K (h₀ := X.base) I.ok.mod.kin M.kp (thn (ha.run pos pins s σ H _ I h) ?_) he hpl
  rintro us s1 ⟨vs, H1, I1, r, q⟩
  exact ⟨I1.kIn, CalM.run M c tk I1 r q⟩
theorem pe_mk0 (M : Mk X.K C f) (c : CalM X f sp) (hm : X.mg x = some (.ref C)) (gl : Gl X x) (tk : Takes X W)
    (hdb : (x == ("__debug__" : Str)) = false := by decide +kernel) : PE X (.Call (.Name x p) [] [] pos) (eMake C sp W tNil) := by
  constructor
  intro pins s σ H Q I h
  refine wpAny_Call_Name_kw (ld_glob I gl hm ?_ hdb)
  exact PySem.W.callWith_K0 I.kIn M.kp (CalM.run (us := []) M c tk I .nil h)
end
end MK

namespace MK
open PySem PySem.Spec PyProof.Rows L2

/-! ### weakening a reading -/
section
variable {X : Cx} {e : Expr} {es : List Expr} {st : Stmt} {sts : List Stmt}
theorem pe_imp {t t' : TE} (h : PE X e t) (i : ∀ σ H Q, t' σ H Q → t σ H Q) : PE X e t' := ⟨fun pins s σ H Q I q => h.run pins s σ H Q I (i σ H Q q)⟩
theorem pt_imp {t t' : TT} (h : PT X e t) (i : ∀ σ H Q, t' σ H Q → t σ H Q) : PT X e t' := ⟨fun pins s σ H Q I q => h.run pins s σ H Q I (i σ H Q q)⟩
theorem pw_imp {t t' : TT} (h : PW X e t) (i : ∀ σ H Q, t' σ H Q → t σ H Q) : PW X e t' := ⟨fun wh pins s σ H Q I q => h.run wh pins s σ H Q I (i σ H Q q)⟩
theorem ps_imp {t t' : TS} (h : PS X st t) (i : ∀ D σ H, t' D σ H → t D σ H) : PS X st t' := ⟨fun pins s σ H D I q => h.run pins s σ H D I (i D σ H q)⟩
theorem pss_imp {t t' : TS} (h : PSs X sts t) (i : ∀ D σ H, t' D σ H → t D σ H) : PSs X sts t' := ⟨fun pins s σ H D I q => h.run pins s σ H D I (i D σ H q)⟩
theorem pe_or2 {t t' : TE} (h : PE X e t) (h' : PE X e t') : PE X e (fun σ H Q => t σ H Q ∨ t' σ H Q) :=
  ⟨fun pins s σ H Q I q => q.elim (h.run pins s σ H Q I) (h'.run pins s σ H Q I)⟩
end

/-! ### the slots -/
def look : L2.St → Nat → Option V
  | [], _ => none
  | x :: _, 0 => x
  | _ :: r, n + 1 => look r n
def sput : L2.St → Nat → V → L2.St
  | [], _, _ => []
  | _ :: r, 0, v => some v :: r
  | x :: r, n + 1, v => x :: sput r n v
theorem look_get : ∀ {σ : L2.St} {i : Nat} {v : V}, look σ i = some v → σ[i]? = some (some v)
  | [], _, _, h => by cases h
  | x :: _, 0, v, h => by
    have e : x = some v := h
    simp [e]
  | _ :: r, n + 1, v, h => by
    have e : look r n = some v := h
    simpa using look_get e
theorem sput_eq : ∀ (σ : L2.St) (i : Nat) (v : V), sput σ i v = σ.set i (some v)
  | [], _, _ => rfl
  | _ :: _, 0, _ => rfl
  | x :: r, n + 1, v => by
    show x :: sput r n v = x :: r.set n (some v)
    rw [sput_eq r n v]

/-! ### readings -/
def eV (i : Nat) : TE := fun σ H Q => match look σ i with
  | some v => Q v H
  | none => False
def eC (v : V) : TE := fun _ H Q => Q v H
/-- two values, an operation on them -/
def eB (r : R2) (ta tb : TE) : TE := fun σ H Q => ta σ H fun x H1 => tb σ H1 fun y H2 => r x y H2 Q
def eU (r : V → Hp → VK → Prop) (ta : TE) : TE := fun σ H Q => ta σ H fun x H1 => r x H1 Q
def eChain (r r' : R2) (ta tb tc : TE) : TE := fun σ H Q => ta σ H fun x H1 => tb σ H1 fun y H2 => r x y H2 fun z H3 => match z with
  | .bl k => cond k (tc σ H3 fun v H4 => r' y v H4 Q) (Q (.bl false) H3)
  | _ => False
/-- a value's truth, of a bool -/
def isB (x : V) (H : Hp) (Q : Bool → Hp → Prop) : Prop := match x with
  | .bl b => Q b H
  | _ => False
def kT (te : TE) : TT := fun σ H Q => te σ H fun x H1 => isB x H1 Q
def kAnd (t u : TT) : TT := fun σ H Q => t σ H fun c H1 => cond c (u σ H1 Q) (Q false H1)
def kOr (t u : TT) : TT := fun σ H Q => t σ H fun c H1 => cond c (Q true H1) (u σ H1 Q)
def kNot (t : TT) : TT := fun σ H Q => t σ H fun c H1 => Q (!c) H1
/-- the same as values -/
def eAnd (ta tb : TE) : TE := fun σ H Q => ta σ H fun x H1 => isB x H1 fun c H2 => cond c (tb σ H2 Q) (Q (.bl false) H2)
def eOr (ta tb : TE) : TE := fun σ H Q => ta σ H fun x H1 => isB x H1 fun c H2 => cond c (Q (.bl true) H2) (tb σ H2 Q)
def eNot (ta : TE) : TE := fun σ H Q => ta σ H fun x H1 => isB x H1 fun c H2 => Q (.bl (!c)) H2
def eIf (t : TT) (ta tb : TE) : TE := fun σ H Q => t σ H fun c H1 => cond c (ta σ H1 Q) (tb σ H1 Q)
/-- arguments -/
def aN : TA := fun _ H Q => Q [] H
def aC (te : TE) (t : TA) : TA := fun σ H Q => te σ H fun x H1 => t σ H1 fun xs H2 => Q (x :: xs) H2
/-- a call by values -/
def eF (r : List V → Hp → VK → Prop) (t : TA) : TE := fun σ H Q => t σ H fun vs H1 => r vs H1 Q
def szOk (n : Nat) : Prop := n ≤ 16777216
theorem szOk.w {n : Nat} (h : szOk n) : n ≤ sizeLine := by rw [sizeLine_eq]; exact h
/-- a new object, its address the continuation's -/
@[irreducible] def nwO (o : HO) (H : Hp) (Q : VK) : Prop := ∀ p, H p = none → Q (.ref p) (upd H p o)
theorem nwO_i {o : HO} {H : Hp} {Q : VK} (h : ∀ p, H p = none → Q (.ref p) (upd H p o)) : nwO o H Q := by unfold nwO; exact h
theorem nwO_e {o : HO} {H : Hp} {Q : VK} (h : nwO o H Q) : ∀ p, H p = none → Q (.ref p) (upd H p o) := by unfold nwO at h; exact h
def eL (t : TA) : TE := fun σ H Q => t σ H fun xs H1 => szOk xs.length ∧ nwO (.lst xs) H1 Q
def eT (t : TA) : TE := fun σ H Q => t σ H fun xs H1 => szOk xs.length ∧ nwO (.tup xs) H1 Q
theorem eL_eq (t : TA) : eL t = fun σ H Q => t σ H fun xs H1 => szOk xs.length ∧ ∀ p, H1 p = none → Q (.ref p) (upd H1 p (.lst xs)) := by
  unfold eL nwO
  rfl
theorem eT_eq (t : TA) : eT t = fun σ H Q => t σ H fun xs H1 => szOk xs.length ∧ ∀ p, H1 p = none → Q (.ref p) (upd H1 p (.tup xs)) := by
  unfold eT nwO
  rfl
/-- statements -/
def sSet (i : Nat) (te : TE) : TS := fun D σ H => te σ H fun v H1 => D.nx (sput σ i v) H1
def sIf (c : TT) (t u : TS) : TS := fun D σ H => c σ H fun b H1 => cond b (t D σ H1) (u D σ H1)
def sDrop (te : TE) : TS := fun D σ H => te σ H fun _ H1 => D.nx σ H1
def sRet (te : TE) : TS := fun D σ H => te σ H D.rt

section
variable {X : Cx} {a b c e : Expr} {es : List Expr} {ta tb tc te : TE} {t : TA} {tA tB : TT} {pos : Pos} {rest : List Expr}
theorem mv (i : Nat) {x : Str} (hN : X.N[i]? = some x := by rfl) (hv : Vis X.env.scope x := by first | exact Or.inl rfl | exact Or.inr (Or.inl rfl) | exact Or.inr (Or.inr rfl)) (hd : (x == ("__debug__" : Str)) = false := by decide +kernel)
    (hcd : (x == ("__classdict__" : Str)) = false := by decide +kernel) : PE X (.Name x pos) (eV i) := pe_imp (pe_var hN hv hd hcd) fun σ H Q q => by
  unfold eV at q
  cases h : look σ i with
  | none => rw [h] at q; exact q.elim
  | some v => rw [h] at q; exact ⟨v, look_get h, q⟩
theorem mc {v : V} (h : PE X e (tC v)) : PE X e (eC v) := h
theorem mi {i j} : PE X (.Constant (.int i) j pos) (eC (.int i)) := pe_int
theorem mb {i j} : PE X (.Constant (.bool i) j pos) (eC (.bl i)) := pe_bl
theorem mn {j} : PE X (.Constant .none j pos) (eC .non) := pe_non
theorem ms {x j} : PE X (.Constant (.str x) j pos) (eC (.str x)) := pe_str
/-- a module's constant -/
theorem mg_ {x : Str} {v : V} (hg : Gl X x) (h : ∃ u, X.mg x = some u ∧ RelV v u) (hd : (x == ("__debug__" : Str)) = false := by decide +kernel) : PE X (.Name x pos) (eC v) := by
  obtain ⟨u, h1, h2⟩ := h
  exact pe_glob hg h1 h2 hd
theorem mbin {op : Operator} {r : R2} (ho : OpR X (binaryOp op) r) (ha : PE X a ta) (hb : PE X b tb) : PE X (.BinOp a op b pos) (eB r ta tb) := pe_op ho ha hb
theorem mun {op : UnaryOp} {r : V → Hp → VK → Prop} (ho : UnR X (unaryOp op) r) (ha : PE X a ta) : PE X (.UnaryOp op a pos) (eU r ta) := pe_un ho ha
theorem mcmp {op : CmpOp} {r : R2} (ho : OpR X (compareOp op) r) (ha : PE X a ta) (hb : PE X b tb) (hm : behindInMarks op b = false := by first | exact nomark _ (by decide) (by decide) | rfl) : PE X (.Compare a [op] [b] pos) (eB r ta tb) := pe_cmpR ho ha hb hm
theorem isB_iff {x : V} {H : Hp} {Q : Bool → Hp → Prop} (h : isB x H Q) : ∃ k, x = .bl k ∧ Q k H := by
  cases x with
  | bl k => exact ⟨k, rfl, h⟩
  | _ => exact h.elim
/-- the value of a test -/
theorem truthB {M : Model} {A : Around} {E : Value → Shared → Prop} {x : V} {v : Value} {H : Hp} {s : Shared} {pins : List (Addr × Obj)} {σ : L2.St} {Q : Bool → Hp → Prop} (I : Inv X pins σ H s) (r : RelV x v) (q : isB x H Q) :
    wpAny M A (truthy v) (TP X pins σ Q) E s := by
  obtain ⟨k, e, q⟩ := isB_iff q
  subst e
  cases r
  exact wpAny_truthy_bool ⟨H, I, q⟩
theorem mtc {op : CmpOp} {r : R2} (ho : OpR X (compareOp op) r) (ha : PE X a ta) (hb : PE X b tb) (hm : behindInMarks op b = false := by first | exact nomark _ (by decide) (by decide) | rfl) :
    PT X (.Compare a [op] [b] pos) (kT (eB r ta tb)) := by
  constructor
  intro pins s σ H Q I h
  refine wpAny_isTrue_Compare1 (thn (ha.run pins s σ H _ I h) ?_) hm
  rintro v s1 ⟨x, H1, I1, r1, q1⟩
  refine thn (hb.run pins s1 σ H1 _ I1 q1) ?_
  rintro u s2 ⟨y, H2, I2, r2, q2⟩
  refine thn (ho pins s2 σ H2 x y v u _ I2 r1 r2 q2) ?_
  rintro z s3 ⟨zv, H3, I3, r3, q3⟩
  exact truthB I3 r3 q3
theorem mtv {t : TE} (h : PE X e t) (he : ∀ whole, isTrue e X.env whole = (do let v ← whole; standAt e.pos; holding [v] (truthy v)) := by intro _; rfl) : PT X e (kT t) := by
  constructor
  intro pins s σ H Q I hw
  refine isTrue_plain (thn (h.run pins s σ H _ I hw) ?_) (he _)
  rintro v s1 ⟨x, H1, I1, r1, q1⟩
  exact truthB I1 r1 q1
theorem mch {op op' : CmpOp} {r r' : R2} (ho : OpR X (compareOp op) r) (ho' : OpR X (compareOp op') r') (ha : PE X a ta) (hb : PE X b tb) (hc : PE X c tc)
    (hm : lastMarks [op, op'] [b, c] = false := by with_unfolding_all rfl) : PE X (.Compare a [op, op'] [b, c] pos) (eChain r r' ta tb tc) := by
  constructor
  intro pins s σ H Q I h
  refine Compare_chain (thn (ha.run pins s σ H _ I h) ?_) hm
  rintro v s1 ⟨x, H1, I1, r1, q1⟩
  refine chain_link (thn (hb.run pins s1 σ H1 _ I1 q1) ?_)
  rintro u s2 ⟨y, H2, I2, r2, q2⟩
  refine thn (ho pins s2 σ H2 x y v u _ I2 r1 r2 q2) ?_
  rintro d s3 ⟨z, H3, I3, r3, q3⟩
  cases z with
  | bl k =>
    cases r3
    refine wpAny_truthy_bool ?_
    cases k with
    | false => exact ite_ff ⟨.bl false, H3, I3, rfl, q3⟩
    | true =>
      refine ite_tt (chain_last (thn (hc.run pins s3 σ H3 _ I3 q3) ?_))
      rintro w4 s4 ⟨z4, H4, I4, r4, q4⟩
      exact ho' pins s4 σ H4 y z4 u w4 Q I4 r2 r4 q4
  | _ => exact q3.elim
theorem mtch {op op' : CmpOp} {r r' : R2} (ho : OpR X (compareOp op) r) (ho' : OpR X (compareOp op') r') (ha : PE X a ta) (hb : PE X b tb) (hc : PE X c tc)
    (hm : lastMarks [op, op'] [b, c] = false := by with_unfolding_all rfl) : PT X (.Compare a [op, op'] [b, c] pos) (kT (eChain r r' ta tb tc)) := by
  constructor
  intro pins s σ H Q I h
  refine isTrue_chain (thn (ha.run pins s σ H _ I h) ?_) hm
  rintro v s1 ⟨x, H1, I1, r1, q1⟩
  refine test_link (thn (hb.run pins s1 σ H1 _ I1 q1) ?_)
  rintro u s2 ⟨y, H2, I2, r2, q2⟩
  refine thn (ho pins s2 σ H2 x y v u _ I2 r1 r2 q2) ?_
  rintro d s3 ⟨z, H3, I3, r3, q3⟩
  cases z with
  | bl k =>
    cases r3
    refine wpAny_truthy_bool ?_
    cases k with
    | false => exact ite_ff ⟨H3, I3, q3⟩
    | true =>
      refine ite_tt (test_last (thn (hc.run pins s3 σ H3 _ I3 q3) ?_))
      rintro w4 s4 ⟨z4, H4, I4, r4, q4⟩
      refine thn (ho' pins s4 σ H4 y z4 u w4 _ I4 r2 r4 q4) ?_
      rintro d5 s5 ⟨z5, H5, I5, r5, q5⟩
      exact truthB I5 r5 q5
  | _ => exact q3.elim

/-! ### and, or, not -/
theorem ma1 (ha : PT X a tA) : PW X (.BoolOp .And [a] pos) tA := pw_and1 ha
theorem mo1 (ha : PT X a tA) : PW X (.BoolOp .Or [a] pos) tA := pw_or1 ha
theorem ma2 (ha : PT X a tA) (hb : PW X (.BoolOp .And (b :: rest) pos) tB) : PW X (.BoolOp .And (a :: b :: rest) pos) (kAnd tA tB) := by
  constructor
  intro wh pins s σ H Q I h
  refine isTrue_and (thn (ha.run pins s σ H _ I h) ?_)
  rintro k s1 ⟨H1, I1, q1⟩
  cases k with
  | false => exact ⟨H1, I1, q1⟩
  | true => exact hb.run wh pins s1 σ H1 Q I1 q1
theorem mo2 (ha : PT X a tA) (hb : PW X (.BoolOp .Or (b :: rest) pos) tB) : PW X (.BoolOp .Or (a :: b :: rest) pos) (kOr tA tB) := by
  constructor
  intro wh pins s σ H Q I h
  refine isTrue_or (thn (ha.run pins s σ H _ I h) ?_)
  rintro k s1 ⟨H1, I1, q1⟩
  cases k with
  | false => exact hb.run wh pins s1 σ H1 Q I1 q1
  | true => exact ⟨H1, I1, q1⟩
theorem mtn (ha : PT X a tA) : PT X (.UnaryOp .Not a pos) (kNot tA) := pt_not ha
theorem me1 {op} {t : TE} (h : PE X a t) : PE X (.BoolOp op [a] pos) t := pe_one h
theorem mea (ha : PE X a ta) (hb : PE X (.BoolOp .And (b :: rest) pos) tb) : PE X (.BoolOp .And (a :: b :: rest) pos) (eAnd ta tb) := by
  constructor
  intro pins s σ H Q I h
  refine BoolOp_and (thn (ha.run pins s σ H _ I h) ?_)
  rintro v s1 ⟨x, H1, I1, r1, q1⟩
  obtain ⟨k, e, q1⟩ := isB_iff q1
  subst e
  cases r1
  refine wpAny_truthy_bool ?_
  cases k with
  | false => exact ⟨.bl false, H1, I1, rfl, q1⟩
  | true => exact hb.run pins s1 σ H1 Q I1 q1
theorem meo (ha : PE X a ta) (hb : PE X (.BoolOp .Or (b :: rest) pos) tb) : PE X (.BoolOp .Or (a :: b :: rest) pos) (eOr ta tb) := by
  constructor
  intro pins s σ H Q I h
  refine BoolOp_or (thn (ha.run pins s σ H _ I h) ?_)
  rintro v s1 ⟨x, H1, I1, r1, q1⟩
  obtain ⟨k, e, q1⟩ := isB_iff q1
  subst e
  cases r1
  refine wpAny_truthy_bool ?_
  cases k with
  | false => exact hb.run pins s1 σ H1 Q I1 q1
  | true => exact ⟨.bl true, H1, I1, rfl, q1⟩
theorem men (ha : PE X a ta) : PE X (.UnaryOp .Not a pos) (eNot ta) := by
  constructor
  intro pins s σ H Q I h
  refine UnaryOp_ (thn (ha.run pins s σ H _ I h) ?_)
  rintro v s1 ⟨x, H1, I1, r1, q1⟩
  obtain ⟨k, e, q1⟩ := isB_iff q1
  subst e
  cases r1
  exact not_of (wpAny_truthy_bool ⟨.bl (!k), H1, I1, rfl, q1⟩)
theorem mif {c : Expr} (hc : PT X c tA) (ha : PE X a ta) (hb : PE X b tb) : PE X (.IfExp c a b pos) (eIf tA ta tb) := by
  constructor
  intro pins s σ H Q I h
  refine wpAny_IfExp (thn (hc.run pins s σ H _ I h) ?_)
  rintro k s1 ⟨H1, I1, q1⟩
  cases k with
  | false => exact hb.run pins s1 σ H1 Q I1 q1
  | true => exact ha.run pins s1 σ H1 Q I1 q1

/-! ### argument lists, displays, calls of built-ins -/
theorem man : PA X [] aN := pa_nil
theorem mac (ha : PE X e te) (hr : PA X es t) (hs : starEach (e :: es) X.env = (false, eval e X.env) :: starEach es X.env := by rfl) : PA X (e :: es) (aC te t) := pa_cons ha hr hs
theorem mlst (h : PA X es t) : PE X (.List es pos) (eL t) := by
  rw [eL_eq]
  exact pe_lst h
theorem mtup {x1} (h : PA X es t) : PE X (.Tuple es x1 pos) (eT t) := by
  rw [eT_eq]
  exact pe_tup h
theorem mcb {x : Str} {id : String} {r : List V → Hp → VK → Prop} {p : Pos} (hc : CallR X (.builtin id) r) (hg : Gl X x) (hm : X.mg x = none) (hv : bootBuiltins x = some (.builtin id)) (ha : PA X (e :: es) t)
    (hn : x ≠ "__name__" := by decide +kernel) (hdb : (x == ("__debug__" : Str)) = false := by decide +kernel)
    (he : starEach (e :: es) X.env = (false, eval e X.env) :: starEach es X.env := by rfl) (hpl : (backTo pos (starEach es X.env)).any (·.1) = false := by rfl) : PE X (.Call (.Name x p) (e :: es) [] pos) (eF r t) := pe_callB hc hg hm hv ha hn hdb he hpl
theorem mct {x : Str} {T : String} {r : List V → Hp → VK → Prop} {p : Pos} (hc : CallR X (.type T) r) (hg : Gl X x) (hm : X.mg x = none) (hv : bootBuiltins x = some (.type T)) (ha : PA X (e :: es) t)
    (hn : x ≠ "__name__" := by decide +kernel) (hdb : (x == ("__debug__" : Str)) = false := by decide +kernel)
    (he : starEach (e :: es) X.env = (false, eval e X.env) :: starEach es X.env := by rfl) (hpl : (backTo pos (starEach es X.env)).any (·.1) = false := by rfl) : PE X (.Call (.Name x p) (e :: es) [] pos) (eF r t) := pe_callTy hc hg hm hv ha hn hdb he hpl

/-! ### statements -/
theorem mset {i : Nat} {x : Str} {pos' : Pos} (hN : X.N.Nodup) (hi : X.N[i]? = some x) (hx : Loc X.env.scope x) (he : PE X e te) (hs : swapsWith e (some (.Name x pos')) pos.line X.env = pure false := by rfl)
    (hf : X.fn x = true ∨ X.env.scope.names.lookup x = some .local := by first | exact .inl rfl | exact .inr rfl | assumption) : PS X (.Assign [.Name x pos'] e pos) (sSet i te) := by
  constructor
  intro pins s σ H D I h
  refine wpAny_Assign_Name (thn (he.run pins s σ H _ I h) ?_) hs
  rintro v s1 ⟨y, H1, I1, r1, q1⟩
  refine store_ok I1 hN hi hx r1 ?_ hf
  intro s2 I2
  rw [sput_eq] at q1
  exact ⟨_, H1, I2, q1⟩
theorem msif {c : Expr} {u v : List Stmt} {t1 t2 : TS} (hc : PT X c tA) (ha : PSs X u t1) (hb : PSs X v t2) : PS X (.If c u v pos) (sIf tA t1 t2) := by
  constructor
  intro pins s σ H D I h
  refine wpAny_If (thn (hc.run pins s σ H _ I h) ?_)
  rintro k s1 ⟨H1, I1, q1⟩
  cases k with
  | false => exact hb.run pins s1 σ H1 D I1 q1
  | true => exact ha.run pins s1 σ H1 D I1 q1
theorem msx (he : PE X e te) (hs : swapsWith e none pos.line X.env = pure false := by rfl) : PS X (.Expr e pos) (sDrop te) := ps_expr he hs
theorem msr (he : PE X e te) : PS X (.Return (some e) pos) (sRet te) := ps_ret he
end
end MK

namespace MK
open PySem PySem.Spec PyProof.Rows L2

/-! ### repr of data that may hold dicts of ints and texts -/
def kD : Key → PyData
  | .inl i => .int i
  | .inr x => .str x
mutual
def Rp (K : PySem.W.Frag) (H : Hp) : V → PyData → Prop
  | v, .none => v = .non
  | v, .bool b => v = .bl b
  | v, .int i => v = .int i
  | v, .str x => v = .str x
  | v, .list ds => ∃ a xs, v = .ref a ∧ SqL K H a xs ∧ RpA K H xs ds
  | v, .tuple ds => ∃ a xs, v = .ref a ∧ SqT K H a xs ∧ RpA K H xs ds
  | v, .dict kvs => ∃ a ks, v = .ref a ∧ H a = some (.dK ks) ∧ RpK K H ks kvs
def RpA (K : PySem.W.Frag) (H : Hp) : List V → List PyData → Prop
  | vs, [] => vs = []
  | vs, d :: ds => ∃ v r, vs = v :: r ∧ Rp K H v d ∧ RpA K H r ds
def RpK (K : PySem.W.Frag) (H : Hp) : List (Key × V) → List (PyData × PyData) → Prop
  | ks, [] => ks = []
  | ks, p :: r => ∃ k v t, ks = (k, v) :: t ∧ p.1 = kD k ∧ Rp K H v p.2 ∧ RpK K H t r
end
/-- what a repr walks over: read, and shown -/
abbrev Sh (P : Program) (w : World) (h : Heap) (u : Value) (d : PyData) : Prop :=
  (∃ as, Reads h u d as) ∧ ∃ bs, ReadAtMost h d.depth bs ∧ ReprK P w bs h d.depth u d.shown
abbrev ShA (P : Program) (w : World) (h : Heap) (us : List Value) (ds : List PyData) : Prop :=
  (∃ as, ReadsAll h us ds as) ∧ ∃ bs, ReadAtMost h (PyData.depthAll ds) bs ∧ ReprAllK P w bs h (PyData.depthAll ds) us (PyData.shownAll ds)
theorem ShA.nil {P : Program} {w : World} {h : Heap} : ShA P w h [] [] := ⟨⟨[], .nil⟩, [], (fun b hb => absurd hb List.not_mem_nil), by simp only [PyData.shownAll]; exact .nil⟩
theorem ShA.cons {P : Program} {w : World} {h : Heap} {u : Value} {us : List Value} {d : PyData} {ds : List PyData} (x : Sh P w h u d) (y : ShA P w h us ds) : ShA P w h (u :: us) (d :: ds) := by
  obtain ⟨⟨as, r⟩, bs, m, k⟩ := x
  obtain ⟨⟨as', r'⟩, bs', m', k'⟩ := y
  refine ⟨⟨_, .cons r r'⟩, bs ++ bs', ?_, ?_⟩
  · have e : PyData.depthAll (d :: ds) = max d.depth (PyData.depthAll ds) := by simp only [PyData.depthAll]
    rw [e]
    exact (m.mono (Nat.le_max_left _ _)).append (m'.mono (Nat.le_max_right _ _))
  · have e : PyData.depthAll (d :: ds) = max d.depth (PyData.depthAll ds) := by simp only [PyData.depthAll]
    have e2 : PyData.shownAll (d :: ds) = d.shown :: PyData.shownAll ds := by simp only [PyData.shownAll]
    rw [e, e2]
    exact .cons ((k.more fun b hb => List.mem_append_left _ hb).level_le (Nat.le_max_left _ _)) (k'.more_le (fun b hb => List.mem_append_right _ hb) (Nat.le_max_right _ _))
theorem dep_l (ds : List PyData) : PyData.depth (.list ds) = PyData.depthAll ds + 1 := by simp only [PyData.depth]
theorem dep_t (ds : List PyData) : PyData.depth (.tuple ds) = PyData.depthAll ds + 1 := by simp only [PyData.depth]
theorem dep_k (ds : List (PyData × PyData)) : PyData.depth (.dict ds) = PyData.depthKv ds + 1 := by simp only [PyData.depth]
theorem sho_l (ds : List PyData) : PyData.shown (.list ds) = listText (PyData.shownAll ds) := by simp only [PyData.shown]
theorem sho_t (ds : List PyData) : PyData.shown (.tuple ds) = tupleText (PyData.shownAll ds) := by simp only [PyData.shown]
theorem sho_k (ds : List (PyData × PyData)) : PyData.shown (.dict ds) = dictText (PyData.shownKv ds) := by simp only [PyData.shown]
theorem kD_sh {P : Program} {w : World} {h : Heap} {k : Key} {u : Value} (e : keyIs k u = true) (s : (kD k).showable = true) (z : (kD k).shown.length ≤ sizeLine) : Sh P w h u (kD k) := by
  rcases keyIs_shape e with ⟨i, t, rfl, rfl⟩ | ⟨x, t, rfl, rfl⟩
  · have r : Reads h (.int i t) (.int i) [] := .int i t
    exact ⟨⟨_, r⟩, ReprK.of_reads r s (fun y => by cases y) z⟩
  · have r : Reads h (.str x t) (.str x) [] := .str x t
    exact ⟨⟨_, r⟩, ReprK.of_reads r s (fun y => by cases y) z⟩
section
variable {X : Cx} {pins : List (Addr × Obj)} {σ : L2.St} {H : Hp} {s : Shared}
mutual
theorem Rp.go (I : Inv X pins σ H s) : ∀ (d : PyData) {v : V} {u : Value}, Rp X.K H v d → RelV v u → d.showable = true → d.shown.length ≤ sizeLine → Sh X.prog X.w s.heap u d
  | .none, _, u, e, r, sh, z => by
    cases (show _ = V.non from e)
    cases (show u = Value.none from r)
    have q : Reads s.heap .none .none [] := .none
    exact ⟨⟨_, q⟩, ReprK.of_reads q sh (fun y => by cases y) z⟩
  | .bool b, _, u, e, r, sh, z => by
    cases (show _ = V.bl b from e)
    cases (show u = Value.bool b from r)
    have q : Reads s.heap (.bool b) (.bool b) [] := .bool b
    exact ⟨⟨_, q⟩, ReprK.of_reads q sh (fun y => by cases y) z⟩
  | .int i, _, u, e, r, sh, z => by
    cases (show _ = V.int i from e)
    obtain ⟨t, e2⟩ := r
    subst e2
    have q : Reads s.heap (.int i t) (.int i) [] := .int i t
    exact ⟨⟨_, q⟩, ReprK.of_reads q sh (fun y => by cases y) z⟩
  | .str x, _, u, e, r, sh, z => by
    cases (show _ = V.str x from e)
    obtain ⟨t, e2⟩ := r
    subst e2
    have q : Reads s.heap (.str x t) (.str x) [] := .str x t
    exact ⟨⟨_, q⟩, ReprK.of_reads q sh (fun y => by cases y) z⟩
  | .list ds, _, u, e, r, sh, z => by
    unfold Rp at e
    obtain ⟨a, xs, ev, hs, ha⟩ := e
    subst ev
    cases (show u = Value.ref a from r)
    obtain ⟨its, rv, ⟨o, n, ho, hc, _, hd⟩, _⟩ := I.list hs
    have z' : (listText (PyData.shownAll ds)).length ≤ sizeLine := by rw [← sho_l]; exact z
    obtain ⟨⟨as, rr⟩, bs, m, k⟩ := RpA.go I ds ha rv (by simpa only [PyData.showable] using sh) fun t ht => Nat.le_trans (listText_mem_le ht) z'
    have rd : Reads s.heap (.ref a) (.list ds) _ := .list ho hc hd rr
    have hna : a ∉ bs := not_mem_of_deeper rd (by rw [dep_l]; omega) m
    refine ⟨⟨_, rd⟩, a :: bs, ReadAtMost.cons rd (by rw [dep_l]; omega) m, ?_⟩
    rw [dep_l, sho_l]
    cases its with
    | nil =>
      cases rr
      have e0 : listText (PyData.shownAll []) = "[]" := by simp only [PyData.shownAll, listText_nil]
      rw [e0]
      exact ReprK.listEmpty ho hc hd
    | cons x l => exact ReprK.list ho hc hd hna (by simpa using k.length_eq) fun i y hy => k.item i y (by simpa using hy)
  | .tuple ds, _, u, e, r, sh, z => by
    unfold Rp at e
    obtain ⟨a, xs, ev, hs, ha⟩ := e
    subst ev
    cases (show u = Value.ref a from r)
    obtain ⟨its, rv, ⟨o, ho, hc, n, hd⟩, _⟩ := I.tuple hs
    have z' : (tupleText (PyData.shownAll ds)).length ≤ sizeLine := by rw [← sho_t]; exact z
    obtain ⟨⟨as, rr⟩, bs, m, k⟩ := RpA.go I ds ha rv (by simpa only [PyData.showable] using sh) fun t ht => Nat.le_trans (tupleText_mem_le ht) z'
    have rd : Reads s.heap (.ref a) (.tuple ds) _ := .tuple ho hc hd rr
    have hna : a ∉ bs := not_mem_of_deeper rd (by rw [dep_t]; omega) m
    refine ⟨⟨_, rd⟩, a :: bs, ReadAtMost.cons rd (by rw [dep_t]; omega) m, ?_⟩
    rw [dep_t, sho_t]
    exact ReprK.tuple ho hc hd hna k
  | .dict kvs, _, u, e, r, sh, z => by
    unfold Rp at e
    obtain ⟨a, ks, ev, hs, ha⟩ := e
    subst ev
    cases (show u = Value.ref a from r)
    obtain ⟨_, hsys, vs, kv, o, es, ep, h1, h2, h3, h4, h5, h6⟩ := (show ObjOk X.prog X.w H s.heap a (.dK ks) from I.hok a _ hs)
    have z' : (dictText (PyData.shownKv kvs)).length ≤ sizeLine := by rw [← sho_k]; exact z
    obtain ⟨s1, s2⟩ := PyData.showableKv_split kvs (by simpa only [PyData.showable] using sh)
    obtain ⟨⟨⟨as, rr⟩, bs, m, k⟩, ⟨as', rr'⟩, bs', m', k'⟩ := RpK.go I kvs ha kv h5 s1 s2
      (fun t ht => by
        obtain ⟨p, hp, hl⟩ := PyData.shownKv_key_le kvs t ht
        exact Nat.le_trans hl (Nat.le_trans (dictText_mem_le hp) z'))
      (fun t ht => by
        obtain ⟨p, hp, hl⟩ := PyData.shownKv_val_le kvs t ht
        exact Nat.le_trans hl (Nat.le_trans (dictText_mem_le hp) z'))
    have rd : Reads s.heap (.ref a) (.dict kvs) _ := .dict h1 h2.1 h3 rr rr'
    have mm : ReadAtMost s.heap (PyData.depthKv kvs) (bs ++ bs') := (m.mono (PyData.depthAll_keys_le kvs)).append (m'.mono (PyData.depthAll_vals_le kvs))
    have hna : a ∉ bs ++ bs' := not_mem_of_deeper rd (by rw [dep_k]; omega) mm
    refine ⟨⟨_, rd⟩, a :: (bs ++ bs'), ReadAtMost.cons rd (by rw [dep_k]; omega) mm, ?_⟩
    rw [dep_k, sho_k, PyData.shownKv_eq]
    exact ReprK.dict h1 h2.1 h3 hsys hna (ReprEntriesK.of_two es.toList _ _ (k.more_le (fun b hb => List.mem_append_left _ hb) (PyData.depthAll_keys_le kvs)) (k'.more_le (fun b hb => List.mem_append_right _ hb) (PyData.depthAll_vals_le kvs)))
theorem RpA.go (I : Inv X pins σ H s) : ∀ (ds : List PyData) {vs : List V} {us : List Value}, RpA X.K H vs ds → Vals vs us → PyData.showableAll ds = true → (∀ t ∈ PyData.shownAll ds, t.length ≤ sizeLine) → ShA X.prog X.w s.heap us ds
  | [], vs, us, e, r, sh, z => by
    cases (show vs = [] from e)
    cases r
    exact .nil
  | d :: ds, vs, us, e, r, sh, z => by
    unfold RpA at e
    obtain ⟨v, t, ev, h1, h2⟩ := e
    subst ev
    cases r with
    | cons r1 r2 =>
      have sh' : d.showable = true ∧ PyData.showableAll ds = true := by simpa [PyData.showableAll] using sh
      exact .cons (Rp.go I d h1 r1 sh'.1 (z _ (by simp only [PyData.shownAll]; exact List.mem_cons_self))) (RpA.go I ds h2 r2 sh'.2 fun t ht => z t (by simp only [PyData.shownAll]; exact List.mem_cons_of_mem _ ht))
theorem RpK.go (I : Inv X pins σ H s) : ∀ (kvs : List (PyData × PyData)) {ks : List (Key × V)} {vs : List (Key × Value)} {es : List DictEntry}, RpK X.K H ks kvs → KV ks vs → Pairs (mixKind X.prog X.w) es vs →
    PyData.showableAll (kvs.map (·.1)) = true → PyData.showableAll (kvs.map (·.2)) = true → (∀ t ∈ PyData.shownAll (kvs.map (·.1)), t.length ≤ sizeLine) → (∀ t ∈ PyData.shownAll (kvs.map (·.2)), t.length ≤ sizeLine) →
    ShA X.prog X.w s.heap (es.map (·.key)) (kvs.map (·.1)) ∧ ShA X.prog X.w s.heap (es.map (·.val)) (kvs.map (·.2))
  | [], ks, vs, es, e, r, p, _, _, _, _ => by
    cases (show ks = [] from e)
    cases r
    cases p
    exact ⟨.nil, .nil⟩
  | q :: kvs, ks, vs, es, e, r, p, s1, s2, z1, z2 => by
    unfold RpK at e
    obtain ⟨k, v, t, ev, e1, h1, h2⟩ := e
    subst ev
    cases r with
    | cons r1 r2 =>
      cases p with
      | cons p1 p2 p3 =>
        simp only [List.map_cons, PyData.showableAll, Bool.and_eq_true] at s1 s2
        simp only [List.map_cons, PyData.shownAll] at z1 z2
        obtain ⟨y1, y2⟩ := RpK.go I kvs h2 r2 p3 s1.2 s2.2 (fun t ht => z1 t (List.mem_cons_of_mem _ ht)) fun t ht => z2 t (List.mem_cons_of_mem _ ht)
        refine ⟨.cons ?_ y1, .cons ?_ y2⟩
        · show Sh X.prog X.w s.heap _ q.1
          rw [e1] at s1 z1 ⊢
          refine kD_sh ?_ s1.1 (z1 _ List.mem_cons_self)
          have e2 : k = _ := r1.1
          rw [e2]
          exact p1
        · refine Rp.go I q.2 h1 ?_ s2.1 (z2 _ List.mem_cons_self)
          show RelV v (DictEntry.val _)
          rw [p2]
          exact r1.2
end
/-- repr(x), as the builtin is called -/
theorem Rp.repr {Q : Value → Shared → Prop} {E : Value → Shared → Prop} (I : Inv X pins σ H s) {d : PyData} {v : V} {u : Value} (e : Rp X.K H v d) (r : RelV v u) (sh : d.showable = true) (z : d.shown.length ≤ sizeLine)
    (hg : X.A.guards = some []) (hu : X.A.units + (d.depth + 1) < cLine)
    (q : ∀ h' u' tk, (∀ b o, s.heap.get? b = some o → h'.get? b = some o) → Q (.str d.shown u') { s with heap := h', toks := tk }) : wpAny (model X.prog X.w) X.A (call (.builtin "repr") [u]) Q E s := by
  cases d with
  | none =>
    cases (show v = V.non from e)
    cases (show u = Value.none from r)
    exact PySem.P.repr_of_none (q s.heap _ _ fun _ _ z => z)
  | bool b =>
    cases (show v = V.bl b from e)
    cases (show u = Value.bool b from r)
    exact PySem.P.repr_of_bool (q s.heap _ _ fun _ _ z => z)
  | int i =>
    cases (show v = V.int i from e)
    obtain ⟨t, e2⟩ := r
    subst e2
    exact PySem.P.repr_of_int (by simpa only [PyData.showable, decide_eq_true_eq] using sh) (q s.heap _ _ fun _ _ z => z)
  | str x =>
    cases (show v = V.str x from e)
    obtain ⟨t, e2⟩ := r
    subst e2
    exact PySem.P.repr_of_str (q s.heap _ _ fun _ _ z => z) z
  | list ds =>
    unfold Rp at e
    obtain ⟨a, xs, ev, hs, ha⟩ := e
    subst ev
    cases (show u = Value.ref a from r)
    obtain ⟨its, rv, ⟨o, n, ho, hc, _, hd⟩, _⟩ := I.list hs
    rw [sho_l] at z q
    rw [dep_l] at hu
    obtain ⟨⟨as, rr⟩, bs, m, k⟩ := RpA.go I ds ha rv (by simpa only [PyData.showable] using sh) fun t ht => Nat.le_trans (listText_mem_le ht) z
    have rd : Reads s.heap (.ref a) (.list ds) _ := .list ho hc hd rr
    have hna : a ∉ bs := not_mem_of_deeper rd (by rw [dep_l]; omega) m
    refine call_repr_slot (by omega) ⟨o, ho, hc⟩ F.slot_list_repr.toG ?_
    cases its with
    | nil =>
      cases rr
      simp only [PyData.shownAll, listText_nil] at q
      exact call_list_repr_empty ⟨o, ho, hc⟩ ho hd ⟨_, _, rfl, q s.heap _ _ fun _ _ e => e⟩
    | cons x l =>
      exact call_list_reprK ho hc hd hna (by simpa using k.length_eq) (fun i y hy => k.item i y (by simpa using hy)) hg (fun b _ => Clear.nil b) (by show X.A.units + 1 + _ < cLine; omega) (fun _ _ e => e) (fun h' u' tk hk => ⟨_, _, rfl, q h' u' tk hk⟩) z
  | tuple ds =>
    unfold Rp at e
    obtain ⟨a, xs, ev, hs, ha⟩ := e
    subst ev
    cases (show u = Value.ref a from r)
    obtain ⟨its, rv, ⟨o, ho, hc, n, hd⟩, _⟩ := I.tuple hs
    rw [sho_t] at z q
    rw [dep_t] at hu
    obtain ⟨⟨as, rr⟩, bs, m, k⟩ := RpA.go I ds ha rv (by simpa only [PyData.showable] using sh) fun t ht => Nat.le_trans (tupleText_mem_le ht) z
    have rd : Reads s.heap (.ref a) (.tuple ds) _ := .tuple ho hc hd rr
    have hna : a ∉ bs := not_mem_of_deeper rd (by rw [dep_t]; omega) m
    refine call_repr_slot (by omega) ⟨o, ho, hc⟩ F.slot_tuple_repr ?_
    exact call_tuple_reprK ho hc hd hna k hg (fun b _ => Clear.nil b) (by show X.A.units + 1 + _ < cLine; omega) (fun _ _ e => e) (fun h' u' tk hk => ⟨_, _, rfl, q h' u' tk hk⟩) z
  | dict kvs =>
    unfold Rp at e
    obtain ⟨a, ks, ev, hs, ha⟩ := e
    subst ev
    cases (show u = Value.ref a from r)
    obtain ⟨_, hsys, vs, kv, o, es, ep, h1, h2, h3, h4, h5, h6⟩ := (show ObjOk X.prog X.w H s.heap a (.dK ks) from I.hok a _ hs)
    rw [sho_k] at z q
    rw [dep_k] at hu
    obtain ⟨s1, s2⟩ := PyData.showableKv_split kvs (by simpa only [PyData.showable] using sh)
    obtain ⟨⟨⟨as, rr⟩, bs, m, k⟩, ⟨as', rr'⟩, bs', m', k'⟩ := RpK.go I kvs ha kv h5 s1 s2
      (fun t ht => by
        obtain ⟨p, hp, hl⟩ := PyData.shownKv_key_le kvs t ht
        exact Nat.le_trans hl (Nat.le_trans (dictText_mem_le hp) z))
      (fun t ht => by
        obtain ⟨p, hp, hl⟩ := PyData.shownKv_val_le kvs t ht
        exact Nat.le_trans hl (Nat.le_trans (dictText_mem_le hp) z))
    have rd : Reads s.heap (.ref a) (.dict kvs) _ := .dict h1 h2.1 h3 rr rr'
    have mm : ReadAtMost s.heap (PyData.depthKv kvs) (bs ++ bs') := (m.mono (PyData.depthAll_keys_le kvs)).append (m'.mono (PyData.depthAll_vals_le kvs))
    have hna : a ∉ bs ++ bs' := not_mem_of_deeper rd (by rw [dep_k]; omega) mm
    refine call_repr_slot (by omega) ⟨o, h1, h2.1⟩ F.slot_dict_repr ?_
    rw [PyData.shownKv_eq] at z q
    exact call_dict_reprK h1 h2.1 h3 hsys hna (ReprEntriesK.of_two es.toList _ _ (k.more_le (fun b hb => List.mem_append_left _ hb) (PyData.depthAll_keys_le kvs)) (k'.more_le (fun b hb => List.mem_append_right _ hb) (PyData.depthAll_vals_le kvs))) hg (fun b _ => Clear.nil b) (by show X.A.units + 1 + _ < cLine; omega) (fun _ _ e => e) (fun h' u' tk hk => ⟨_, _, rfl, q h' u' tk hk⟩) z
end
end MK

namespace MK
open PySem PySem.Spec PyProof.Rows L2

section
variable {X : Cx}
theorem op_imp {f : Value → Value → Sem Value} {r r' : R2} (h : OpR X f r) (i : ∀ x y H Q, r' x y H Q → r x y H Q) : OpR X f r' :=
  fun pins s σ H x y v u Q I rx ry q => h pins s σ H x y v u Q I rx ry (i _ _ _ _ q)
theorem call_imp {f : Value} {r r' : List V → Hp → VK → Prop} (h : CallR X f r) (i : ∀ xs H Q, r' xs H Q → r xs H Q) : CallR X f r' :=
  fun pins s σ H xs us Q I rx q => h pins s σ H xs us Q I rx (i _ _ _ q)
end

/-! ### lists and tuples that are read -/
/-- at a a list is read; at a a tuple is read -/
abbrev LsAt (H : Hp) (a : Addr) (xs : List V) : Prop := Rd H a (.lst xs)
abbrev TpAt (H : Hp) (a : Addr) (xs : List V) : Prop := Rd H a (.tup xs)
theorem rd {H : Hp} {a : Addr} {o : HO} (h : H a = some o) : Rd H a o := .inl h

/-! ### arithmetic -/
@[irreducible] def addX (K : PySem.W.Frag) : R2 := fun x y H Q =>
  (∃ i j, x = .str i ∧ y = .str j ∧ i.length + j.length ≤ sizeLine ∧ Q (.str (i ++ j)) H) ∨
  (∃ l b xs zs, x = .ref l ∧ y = .ref b ∧ H l = some (.lst xs) ∧ H b = some (.lst zs) ∧ xs.length + zs.length ≤ sizeLine ∧ ∀ p, H p = none → Q (.ref p) (upd H p (.lst (xs ++ zs)))) ∨ rCatA K x y H Q
def opAdd (K : PySem.W.Frag) : R2 := fun x y H Q => match x, y with
  | .int i, .int j => Q (.int (i + j)) H
  | x, y => addX K x y H Q
def opSub : R2 := fun x y H Q => match x, y with
  | .int i, .int j => Q (.int (i - j)) H
  | _, _ => False
/-- what * asks of two ints, what // asks, what ** asks -/
def mulOk (i j : Int) : Prop := (-18446744073709551616 < i ∧ i < 18446744073709551616) ∨ (-18446744073709551616 < j ∧ j < 18446744073709551616) ∨ CMulW i j
def divOk (j : Int) : Prop := 0 < j ∧ j < 18446744073709551616
def powOk (i j : Int) : Prop := (0 ≤ j ∧ j ≤ 1000000) ∧ -18446744073709551616 < i ∧ i < 18446744073709551616
theorem divOk.w {j : Int} (h : divOk j) : j.natAbs.log2 < 9000 := by
  have h1 : j.natAbs < 2 ^ 64 := by
    have h2 := h.1
    have h3 := h.2
    have e : (2 : Nat) ^ 64 = 18446744073709551616 := by decide
    rw [e]
    omega
  exact Nat.lt_of_lt_of_le (PySem.Flt.log2_lt_of (by decide) h1) (by decide)
@[irreducible] def mulX : R2 := fun x y H Q => ∃ l k xs, x = .ref l ∧ y = .int k ∧ H l = some (.lst xs) ∧ -(2 ^ 63) ≤ k ∧ k < 2 ^ 63 ∧ xs.length * k.toNat ≤ sizeLine ∧ ∀ p, H p = none → Q (.ref p) (upd H p (.lst (List.replicate k.toNat xs).flatten))
def opMul : R2 := fun x y H Q => match x, y with
  | .int i, .int j => mulOk i j ∧ Q (.int (i * j)) H
  | x, y => mulX x y H Q
def opDiv : R2 := fun x y H Q => match x, y with
  | .int i, .int j => divOk j ∧ Q (.int (i / j)) H
  | _, _ => False
def opMod : R2 := fun x y H Q => match x, y with
  | .int i, .int j => 0 < j ∧ Q (.int (i % j)) H
  | _, _ => False
def opPow : R2 := fun x y H Q => match x, y with
  | .int i, .int j => powOk i j ∧ Q (.int (i ^ j.toNat)) H
  | _, _ => False
def opShr : R2 := fun x y H Q => match x, y with
  | .int i, .int j => 0 ≤ j ∧ Q (.int (i / 2 ^ j.toNat)) H
  | _, _ => False
def opBand : R2 := fun x y H Q => match x, y with
  | .int i, .int j => Q (.int (Builtin.bitAnd i j)) H
  | _, _ => False
def opNeg : V → Hp → VK → Prop := fun x H Q => match x with
  | .int i => Q (.int (-i)) H
  | _ => False
section
variable {X : Cx}
theorem ii {f : Value → Value → Sem Value} {C : Int → Int → Prop} {g : Int → Int → V} (h : OpR X f (rI C g)) : OpR X f (fun x y H Q => match x, y with
  | .int i, .int j => C i j ∧ Q (g i j) H
  | _, _ => False) := op_imp h fun x y H Q q => by
  split at q
  · exact ⟨_, _, rfl, rfl, q⟩
  · exact q.elim
theorem ii0 {f : Value → Value → Sem Value} {g : Int → Int → V} (h : OpR X f (rI0 g)) : OpR X f (fun x y H Q => match x, y with
  | .int i, .int j => Q (g i j) H
  | _, _ => False) := op_imp h fun x y H Q q => by
  split at q
  · exact ⟨_, _, rfl, rfl, q⟩
  · exact q.elim
theorem o_add : OpR X (binaryOp .Add) (opAdd X.K) := op_imp (op_add.or (op_add_str.or (op_cat.or op_catA))) fun x y H Q q => by
  unfold opAdd at q
  split at q
  · exact .inl ⟨_, _, rfl, rfl, q⟩
  · unfold addX at q
    rcases q with q | q | q
    · exact .inr (.inl q)
    · exact .inr (.inr (.inl q))
    · exact .inr (.inr (.inr q))
theorem o_sub : OpR X (binaryOp .Sub) opSub := ii0 op_sub
theorem o_mul : OpR X (binaryOp .Mult) opMul := op_imp (op_mul.or (op_mulW.or op_rep)) fun x y H Q q => by
  unfold opMul at q
  split at q
  · have e : (2 : Int) ^ 64 = 18446744073709551616 := by decide
    obtain ⟨c | c | c, q⟩ := q
    · exact .inl ⟨_, _, rfl, rfl, .inl (by rw [e]; exact c), q⟩
    · exact .inl ⟨_, _, rfl, rfl, .inr (by rw [e]; exact c), q⟩
    · exact .inr (.inl ⟨_, _, rfl, rfl, c, q⟩)
  · unfold mulX at q
    exact .inr (.inr q)
theorem o_div : OpR X (binaryOp .FloorDiv) opDiv := op_imp (ii op_fdivW) fun x y H Q q => by
  unfold opDiv at q
  split at q
  · exact ⟨⟨q.1.1, q.1.w⟩, q.2⟩
  · exact q.elim
theorem o_mod : OpR X (binaryOp .Mod) opMod := ii op_mod
theorem o_pow : OpR X (binaryOp .Pow) opPow := op_imp (ii op_pow) fun x y H Q q => by
  unfold opPow at q
  split at q
  · have e : (2 : Nat) ^ 64 = 18446744073709551616 := by decide
    exact ⟨⟨q.1.1.1, q.1.1.2, by rw [e]; have h1 := q.1.2.1; have h2 := q.1.2.2; omega⟩, q.2⟩
  · exact q.elim
theorem o_shr : OpR X (binaryOp .RShift) opShr := ii op_shr
theorem o_band : OpR X (binaryOp .BitAnd) opBand := ii0 op_and
theorem o_neg : UnR X (unaryOp .USub) opNeg := fun pins s σ H x v Q I rx q => by
  cases x with
  | int i => exact un_neg pins s σ H (.int i) v Q I rx ⟨i, rfl, q⟩
  | _ => exact q.elim
end

/-! ### comparisons -/
@[irreducible] def eqX (K : PySem.W.Frag) : R2 := fun x y H Q => (scal x y = true ∧ Q (.bl (decide (x = y))) H) ∨ rEqD K x y H Q ∨ rEqDA x y H Q
@[irreducible] def neX (K : PySem.W.Frag) : R2 := fun x y H Q => (scal x y = true ∧ Q (.bl (!decide (x = y))) H) ∨ rNeD K x y H Q ∨ rNeDA x y H Q
def opEq (K : PySem.W.Frag) : R2 := fun x y H Q => match x, y with
  | .int i, .int j => Q (.bl (decide (i = j))) H
  | .str i, .str j => Q (.bl (decide (i = j))) H
  | .bl i, .bl j => Q (.bl (decide (i = j))) H
  | x, y => eqX K x y H Q
def opNe (K : PySem.W.Frag) : R2 := fun x y H Q => match x, y with
  | .int i, .int j => Q (.bl (!decide (i = j))) H
  | .str i, .str j => Q (.bl (!decide (i = j))) H
  | .bl i, .bl j => Q (.bl (!decide (i = j))) H
  | x, y => neX K x y H Q
def opLt : R2 := fun x y H Q => match x, y with
  | .int i, .int j => Q (.bl (decide (i < j))) H
  | .str i, .str j => Q (.bl (decide (i.cps.toList < j.cps.toList))) H
  | _, _ => False
def opLe : R2 := fun x y H Q => match x, y with
  | .int i, .int j => Q (.bl (decide (i ≤ j))) H
  | .str i, .str j => Q (.bl (!decide (j.cps.toList < i.cps.toList))) H
  | _, _ => False
def opGt : R2 := fun x y H Q => match x, y with
  | .int i, .int j => Q (.bl (decide (j < i))) H
  | _, _ => False
def opGe : R2 := fun x y H Q => match x, y with
  | .int i, .int j => Q (.bl (decide (j ≤ i))) H
  | _, _ => False
/-- is: of None, True, False -/
def isV (x y : V) : Option Bool := match x, y with
  | .ty _, _ => none
  | _, .ty _ => none
  | x, .non => some (decide (x = .non))
  | x, .bl b => some (decide (x = .bl b))
  | _, _ => none
def opIs : R2 := fun x y H Q => match isV x y with
  | some b => Q (.bl b) H
  | none => False
def opIsNot : R2 := fun x y H Q => match isV x y with
  | some b => Q (.bl (!b)) H
  | none => False
section
variable {X : Cx}
theorem dI {i j : Int} : decide (V.int i = V.int j) = decide (i = j) := by simp
theorem dS {i j : Str} : decide (V.str i = V.str j) = decide (i = j) := by simp
theorem dB {i j : Bool} : decide (V.bl i = V.bl j) = decide (i = j) := by simp
theorem o_eq (hu : X.A.units + 64 < cLine) : OpR X (compareOp .Eq) (opEq X.K) := op_imp (op_eq.or ((op_eqD hu).or (op_eq_dictA (by omega)))) fun x y H Q q => by
  unfold opEq at q
  split at q
  · exact .inl ⟨rfl, by rw [dI]; exact q⟩
  · exact .inl ⟨rfl, by rw [dS]; exact q⟩
  · exact .inl ⟨rfl, by rw [dB]; exact q⟩
  · unfold eqX at q
    exact q
theorem o_ne (hu : X.A.units + 64 < cLine) : OpR X (compareOp .NotEq) (opNe X.K) := op_imp (op_ne.or ((op_neD hu).or (op_ne_dictA (by omega)))) fun x y H Q q => by
  unfold opNe at q
  split at q
  · exact .inl ⟨rfl, by rw [dI]; exact q⟩
  · exact .inl ⟨rfl, by rw [dS]; exact q⟩
  · exact .inl ⟨rfl, by rw [dB]; exact q⟩
  · unfold neX at q
    exact q
theorem o_lt : OpR X (compareOp .Lt) opLt := op_imp (op_lt.or op_lt_str) fun x y H Q q => by
  unfold opLt at q
  split at q
  · exact .inl ⟨_, _, rfl, rfl, q⟩
  · exact .inr ⟨_, _, rfl, rfl, q⟩
  · exact q.elim
theorem o_le : OpR X (compareOp .LtE) opLe := op_imp (op_le.or op_le_str) fun x y H Q q => by
  unfold opLe at q
  split at q
  · exact .inl ⟨_, _, rfl, rfl, q⟩
  · exact .inr ⟨_, _, rfl, rfl, q⟩
  · exact q.elim
theorem o_gt : OpR X (compareOp .Gt) opGt := ii0 op_gt
theorem o_ge : OpR X (compareOp .GtE) opGe := ii0 op_ge
theorem isV_rel {x y : V} {v u : Value} {b : Bool} (rx : RelV x v) (ry : RelV y u) (h : isV x y = some b) : plainIs v u = true ∧ (v == u) = b := by
  unfold isV at h
  split at h
  · cases h
  · cases h
  · cases h
    cases (show u = Value.none from ry)
    cases x with
    | non => cases (show v = Value.none from rx); exact ⟨rfl, rfl⟩
    | bl c => cases (show v = Value.bool c from rx); exact ⟨rfl, rfl⟩
    | int i => obtain ⟨t, rfl⟩ := rx; exact ⟨rfl, rfl⟩
    | str i => obtain ⟨t, rfl⟩ := rx; exact ⟨rfl, rfl⟩
    | byt i => obtain ⟨t, rfl⟩ := rx; exact ⟨rfl, rfl⟩
    | flt i => obtain ⟨t, rfl⟩ := rx; exact ⟨rfl, rfl⟩
    | ref a => cases (show v = Value.ref a from rx); exact ⟨rfl, rfl⟩
    | ty n => exact (‹∀ (k : String), V.ty n = V.ty k → False› n rfl).elim
  · rename_i c _
    cases h
    cases (show u = Value.bool c from ry)
    cases x with
    | non => cases (show v = Value.none from rx); exact ⟨rfl, rfl⟩
    | bl d =>
      cases (show v = Value.bool d from rx)
      refine ⟨rfl, ?_⟩
      rw [dB]
      cases c <;> cases d <;> rfl
    | int i => obtain ⟨t, rfl⟩ := rx; exact ⟨rfl, rfl⟩
    | str i => obtain ⟨t, rfl⟩ := rx; exact ⟨rfl, rfl⟩
    | byt i => obtain ⟨t, rfl⟩ := rx; exact ⟨rfl, rfl⟩
    | flt i => obtain ⟨t, rfl⟩ := rx; exact ⟨rfl, rfl⟩
    | ref a => cases (show v = Value.ref a from rx); exact ⟨rfl, rfl⟩
    | ty n => exact (‹∀ (k : String), V.ty n = V.ty k → False› n rfl).elim
  · cases h
theorem o_is : OpR X (compareOp .Is) opIs := fun pins s σ H x y v u Q I rx ry q => by
  unfold opIs at q
  split at q
  · rename_i b e
    obtain ⟨h1, h2⟩ := isV_rel rx ry e
    exact wpAny_is_plain h1 (by rw [h2]; exact ⟨.bl b, H, I, rfl, q⟩)
  · exact q.elim
theorem o_isnot : OpR X (compareOp .IsNot) opIsNot := fun pins s σ H x y v u Q I rx ry q => by
  unfold opIsNot at q
  split at q
  · rename_i b e
    obtain ⟨h1, h2⟩ := isV_rel rx ry e
    refine wpAny_isNot_plain h1 ?_
    have e2 : (v != u) = !b := by
      show (!(v == u)) = !b
      rw [h2]
    first
      | (rw [e2]; exact ⟨.bl (!b), H, I, rfl, q⟩)
      | (rw [h2]; exact ⟨.bl (!b), H, I, rfl, q⟩)
  · exact q.elim
end

/-! ### built-in calls by values -/
@[irreducible] def lenX (K : PySem.W.Frag) (x : V) (H : Hp) (Q : VK) : Prop :=
  (∃ n, LenV K x H n ∧ Q (.int n) H) ∨ (∃ a kvs, x = .ref a ∧ H a = some (.dK kvs) ∧ Q (.int kvs.length) H) ∨ ∃ a kvs, x = .ref a ∧ H a = some (.dT kvs) ∧ Q (.int ((kvs.length : Nat) : Int)) H
def cLen (K : PySem.W.Frag) : List V → Hp → VK → Prop := fun xs H Q => match xs with
  | [x] => lenX K x H Q
  | _ => False
@[irreducible] def maxX (K : PySem.W.Frag) (x : V) (H : Hp) (Q : VK) : Prop := ∃ (a : Addr) (ns : List Int), x = V.ref a ∧ SqL K H a (ns.map V.int) ∧ 0 < ns.length ∧ ∀ m, m ∈ ns → (∀ y, y ∈ ns → y ≤ m) → Q (.int m) H
@[irreducible] def minX (K : PySem.W.Frag) (x : V) (H : Hp) (Q : VK) : Prop := ∃ (a : Addr) (ns : List Int), x = V.ref a ∧ SqL K H a (ns.map V.int) ∧ 0 < ns.length ∧ ∀ m, m ∈ ns → (∀ y, y ∈ ns → m ≤ y) → Q (.int m) H
def cMax (K : PySem.W.Frag) : List V → Hp → VK → Prop := fun xs H Q => match xs with
  | [.int i, .int j] => Q (.int (max i j)) H
  | [x] => maxX K x H Q
  | _ => False
def cMin (K : PySem.W.Frag) : List V → Hp → VK → Prop := fun xs H Q => match xs with
  | [.int i, .int j] => Q (.int (min i j)) H
  | [x] => minX K x H Q
  | _ => False
/-- a text, plainly written -/
def okI (i : Int) : Prop := i.natAbs.log2 < 1920
structure RepOk (d : PyData) : Prop where
  sh : d.showable = true
  dp : d.depth ≤ 60
  sm : d.leavesShort 64 = true
  bk : d.bulk ≤ 200000
theorem RepOk.len {d : PyData} (h : RepOk d) : d.shown.length ≤ sizeLine := by
  have a := PyData.shown_le_bulk 64 (by decide) d h.sm
  have b := h.bk
  rw [sizeLine_eq]
  omega
@[irreducible] def reprX (K : PySem.W.Frag) (x : V) (H : Hp) (Q : VK) : Prop :=
  ∃ d, Rp K H x d ∧ RepOk d ∧ Q (.str d.shown) H
def cRepr (K : PySem.W.Frag) : List V → Hp → VK → Prop := fun xs H Q => match xs with
  | [x] => reprX K x H Q
  | _ => False
@[irreducible] def tupX (K : PySem.W.Frag) (x : V) (H : Hp) (Q : VK) : Prop :=
  ∃ p ys, x = .ref p ∧ ((SqL K H p ys ∧ ∀ l, H l = none → Q (.ref l) (upd H l (.tup ys))) ∨ (SqT K H p ys ∧ Q (.ref p) H))
def cTuple (K : PySem.W.Frag) : List V → Hp → VK → Prop := fun xs H Q => match xs with
  | [x] => tupX K x H Q
  | _ => False
@[irreducible] def listX (K : PySem.W.Frag) (x : V) (H : Hp) (Q : VK) : Prop :=
  ∃ p ys, x = .ref p ∧ (SqL K H p ys ∨ SqT K H p ys) ∧ ∀ l, H l = none → Q (.ref l) (upd H l (.lst ys))
def cList (K : PySem.W.Frag) : List V → Hp → VK → Prop := fun xs H Q => match xs with
  | [x] => listX K x H Q
  | _ => False
@[irreducible] def allX (K : PySem.W.Frag) (x : V) (H : Hp) (Q : VK) : Prop := ∃ (a : Addr) (bs : List Bool), x = V.ref a ∧ SqL K H a (bs.map V.bl) ∧ Q (.bl (bs.all id)) H
def cAll (K : PySem.W.Frag) : List V → Hp → VK → Prop := fun xs H Q => match xs with
  | [x] => allX K x H Q
  | _ => False
section
variable {X : Cx}
theorem call_or {f : Value} {r r' : List V → Hp → VK → Prop} (h : CallR X f r) (h' : CallR X f r') : CallR X f (fun xs H Q => r xs H Q ∨ r' xs H Q) :=
  fun pins s σ H xs us Q I rx q => q.elim (h pins s σ H xs us Q I rx) (h' pins s σ H xs us Q I rx)
theorem k_len : CallR X (.builtin "len") (cLen X.K) := call_imp (call_or call_len (call_or call_lenD call_len_dT)) fun xs H Q q => by
  unfold cLen at q
  split at q
  · unfold lenX at q
    rcases q with ⟨n, h, q⟩ | ⟨a, kvs, e, h, q⟩ | ⟨a, kvs, e, h, q⟩
    · exact .inl ⟨_, n, rfl, h, q⟩
    · exact .inr (.inl ⟨a, kvs, by rw [e], h, q⟩)
    · exact .inr (.inr ⟨a, kvs, by rw [e], h, q⟩)
  · exact q.elim
theorem k_max (hc : X.calm = true) : CallR X (.builtin "max") (cMax X.K) := call_imp (call_or (call_max2 hc) (cr_max hc)) fun xs H Q q => by
  unfold cMax at q
  split at q
  · rename_i i j
    refine .inl ⟨i, j, rfl, ?_⟩
    have e : (if j > i then j else i) = max i j := by
      rw [Int.max_def]
      split <;> split <;> omega
    rw [e]
    exact q
  · unfold maxX at q
    obtain ⟨a, ns, e, q⟩ := q
    subst e
    exact .inr ⟨a, ns, rfl, q⟩
  · exact q.elim
theorem k_min (hc : X.calm = true) : CallR X (.builtin "min") (cMin X.K) := call_imp (call_or (call_min2 hc) (cr_min hc)) fun xs H Q q => by
  unfold cMin at q
  split at q
  · rename_i i j
    refine .inl ⟨i, j, rfl, ?_⟩
    have e : (if j < i then j else i) = min i j := by
      rw [Int.min_def]
      split <;> split <;> omega
    rw [e]
    exact q
  · unfold minX at q
    obtain ⟨a, ns, e, q⟩ := q
    subst e
    exact .inr ⟨a, ns, rfl, q⟩
  · exact q.elim
theorem max_l {H : Hp} {Q : VK} {K : PySem.W.Frag} {a : Addr} {ns : List Int} (h : H a = some (.lst (ns.map V.int))) (h0 : 0 < ns.length) (q : ∀ m, m ∈ ns → (∀ y, y ∈ ns → y ≤ m) → Q (.int m) H) : maxX K (.ref a) H Q := by
  unfold maxX
  exact ⟨a, ns, rfl, SqL.of h, h0, q⟩
theorem min_l {H : Hp} {Q : VK} {K : PySem.W.Frag} {a : Addr} {ns : List Int} (h : H a = some (.lst (ns.map V.int))) (h0 : 0 < ns.length) (q : ∀ m, m ∈ ns → (∀ y, y ∈ ns → m ≤ y) → Q (.int m) H) : minX K (.ref a) H Q := by
  unfold minX
  exact ⟨a, ns, rfl, SqL.of h, h0, q⟩
theorem k_tuple : CallR X (.type "tuple") (cTuple X.K) := call_imp call_tuple_of fun xs H Q q => by
  unfold cTuple at q
  split at q
  · unfold tupX at q
    obtain ⟨p, ys, e, q⟩ := q
    subst e
    exact ⟨p, ys, rfl, q⟩
  · exact q.elim
theorem k_list : CallR X (.type "list") (cList X.K) := call_imp call_list_of fun xs H Q q => by
  unfold cList at q
  split at q
  · unfold listX at q
    obtain ⟨p, ys, e, q⟩ := q
    subst e
    exact ⟨p, ys, rfl, q⟩
  · exact q.elim
theorem k_all (hc : X.calm = true) : CallR X (.builtin "all") (cAll X.K) := call_imp (cr_all hc) fun xs H Q q => by
  unfold cAll at q
  split at q
  · unfold allX at q
    obtain ⟨a, bs, e, q⟩ := q
    subst e
    exact ⟨a, bs, rfl, q⟩
  · exact q.elim
theorem k_repr (hg : X.A.guards = some []) (hu : X.A.units + 64 < cLine) : CallR X (.builtin "repr") (cRepr X.K) := fun pins s σ H xs us Q I r q => by
  unfold cRepr at q
  split at q
  · rename_i x
    obtain ⟨u, e, rx⟩ := vals1 r
    subst e
    unfold reprX at q
    obtain ⟨d, hd, ok, q⟩ := q
    have fin : ∀ h' u' tk, (∀ b o, s.heap.get? b = some o → h'.get? b = some o) → EP X pins σ Q (.str d.shown u') { s with heap := h', toks := tk } :=
      fun h' u' tk k => ⟨.str d.shown, H, I.kept (t' := tk) k, ⟨u', rfl⟩, q⟩
    exact Rp.repr I hd rx ok.sh ok.len hg (by have := ok.dp; omega) fin
  · exact q.elim
end
end MK

namespace MK
open PySem PySem.Spec PyProof.Rows L2

/-! ### items -/
@[irreducible] def ixX (K : PySem.W.Frag) : R2 := fun x y H Q => rIx K x y H Q ∨ ∃ a v, x = .ref a ∧ DGet H a y (some v) ∧ Q v H
section
variable {X : Cx} {a b o i e tg : Expr} {ta tb te to ti : TE} {pos : Pos}
theorem ix_dct (hu : X.A.units + 1 < cLine) : IxR X (fun x y H Q => ∃ a v, x = .ref a ∧ DGet H a y (some v) ∧ Q v H) := by
  intro vl sl pins s σ H x y v u Q I rx ry q hs
  obtain ⟨a, z, ex, g, q⟩ := q
  subst ex
  cases (show v = Value.ref a from rx)
  have hT := dict_typeIs I g
  unfold subscriptTail
  refine wpAny_bind ?_
  rw [getitemInPython_of_ne hT.not_modules]
  refine wpAny_bind (wpAny_specialOf hT PySem.F.slot_dict_getitem.lookup ?_)
  have h₂ : wpAny (model X.prog X.w) X.A (getItem (.ref a) u) (EP X pins σ Q) X.xe s := d_getItem hu I g ry fun w' s3 I3 rw' => ⟨z, H, I3, rw', q⟩
  have fin : wpAny (model X.prog X.w) X.A (subscripted sl false (.ref a) u) (fun r s₃ => wpAny (model X.prog X.w) X.A (letTemporaryGo vl (.ref a) r >>= fun _ => pure r) (EP X pins σ Q) X.xe s₃) X.xe s := by
    rw [hs]
    exact wpAny_operating (wpAny_mono h₂ (fun r s₃ h₃ => wpAny_bind (wpAny_letTemporaryGo (wpAny_pure h₃))) fun _ _ x => x)
  first
    | exact wpAny_pure (wpAny_bind fin)
    | exact wpAny_bind (wpAny_pure (wpAny_bind fin))
    | exact wpAny_bind fin
theorem o_ix (hu : X.A.units + 64 < cLine) : IxR X (ixX X.K) := by
  intro vl sl pins s σ H x y v u Q I rx ry q
  unfold ixX at q
  exact IxR.or ix_seq (ix_dct (by omega)) vl sl pins s σ H x y v u Q I rx ry q
theorem mix (hu : X.A.units + 64 < cLine) (ha : PE X a ta) (hb : PE X b tb) (hs : PlainIx b := by intro _ _; rfl) : PE X (.Subscript a b pos) (eB (ixX X.K) ta tb) := pe_ix (o_ix hu) ha hb hs
end
section
variable {K : PySem.W.Frag} {H : Hp} {Q : VK} {a p : Addr} {xs ys : List V} {x y v : V} {i : Int}
theorem ix_l (h : H a = some (.lst xs)) (e : atI xs i = some v) (q : Q v H) : ixX K (.ref a) (.int i) H Q := by
  unfold ixX
  exact .inl (.inl ⟨a, xs, i, v, rfl, rfl, SqL.of h, e, q⟩)
theorem ix_f {o : Obj} (h : H a = some (.frz o (.lst xs))) (e : atI xs i = some v) (q : Q v H) : ixX K (.ref a) (.int i) H Q := by
  unfold ixX
  exact .inl (.inl ⟨a, xs, i, v, rfl, rfl, .inl (.inr ⟨o, h⟩), e, q⟩)
theorem ix_t (h : H a = some (.tup xs)) (e : atI xs i = some v) (q : Q v H) : ixX K (.ref a) (.int i) H Q := by
  unfold ixX
  exact .inl (.inr (.inl ⟨a, xs, i, v, rfl, rfl, SqT.of h, e, q⟩))
theorem ix_s {z : Str} {c : Nat} (h : z.length ≤ sizeLine) (e : atI z.cps.toList i = some c) (q : Q (.str ⟨#[c]⟩) H) : ixX K (.str z) (.int i) H Q := by
  unfold ixX
  exact .inl (.inr (.inr ⟨z, i, c, rfl, rfl, h, e, q⟩))
theorem ixd_k {kvs : List (Key × V)} {k : Key} (h : H a = some (.dK kvs)) (e : valV kvs k = some v) (q : Q v H) : ixX K (.ref a) (kV k) H Q := by
  unfold ixX
  exact .inr ⟨a, v, rfl, e ▸ DGet.k h, q⟩
theorem ixd_i {kvs : List (Key × V)} {n : Int} (h : H a = some (.dK kvs)) (e : valV kvs (.inl n) = some v) (q : Q v H) : ixX K (.ref a) (.int n) H Q := ixd_k (k := .inl n) h e q
theorem ixd_s {kvs : List (Key × V)} {z : Str} (h : H a = some (.dK kvs)) (e : valV kvs (.inr z) = some v) (q : Q v H) : ixX K (.ref a) (.str z) H Q := ixd_k (k := .inr z) h e q
theorem ixd_t {kvs : List (List Key × V)} {k : List Key} (h : H a = some (.dT kvs)) (hb : H p = some (.tup (k.map kV))) (e : valV kvs k = some v) (q : Q v H) : ixX K (.ref a) (.ref p) H Q := by
  unfold ixX
  exact .inr ⟨a, v, rfl, e ▸ DGet.t h hb, q⟩
/-! intro lemmas of the operations of MkVal -/
theorem len_l (h : H a = some (.lst xs)) (q : Q (.int (xs.length : Int)) H) : lenX K (.ref a) H Q := by
  unfold lenX
  exact .inl ⟨xs.length, .inl ⟨xs, SqL.of h, rfl⟩, q⟩
theorem len_f {o : Obj} (h : H a = some (.frz o (.lst xs))) (q : Q (.int (xs.length : Int)) H) : lenX K (.ref a) H Q := by
  unfold lenX
  exact .inl ⟨xs.length, .inl ⟨xs, .inl (.inr ⟨o, h⟩), rfl⟩, q⟩
theorem len_t (h : H a = some (.tup xs)) (q : Q (.int (xs.length : Int)) H) : lenX K (.ref a) H Q := by
  unfold lenX
  exact .inl ⟨xs.length, .inr ⟨xs, SqT.of h, rfl⟩, q⟩
theorem len_s {z : Str} (h : z.length ≤ sizeLine) (q : Q (.int (z.length : Int)) H) : lenX K (.str z) H Q := by
  unfold lenX
  exact .inl ⟨z.length, ⟨h, rfl⟩, q⟩
theorem len_d {kvs : List (Key × V)} (h : H a = some (.dK kvs)) (q : Q (.int (kvs.length : Int)) H) : lenX K (.ref a) H Q := by
  unfold lenX
  exact .inr (.inl ⟨a, kvs, rfl, h, q⟩)
theorem len_dt {kvs : List (List Key × V)} (h : H a = some (.dT kvs)) (q : Q (.int (kvs.length : Int)) H) : lenX K (.ref a) H Q := by
  unfold lenX
  exact .inr (.inr ⟨a, kvs, rfl, h, q⟩)
theorem add_l {b : Addr} (h : H a = some (.lst xs)) (h2 : H b = some (.lst ys)) (z : xs.length + ys.length ≤ sizeLine) (q : ∀ p, H p = none → Q (.ref p) (upd H p (.lst (xs ++ ys)))) : addX K (.ref a) (.ref b) H Q := by
  unfold addX
  exact .inr (.inl ⟨a, b, xs, ys, rfl, rfl, h, h2, z, q⟩)
theorem add_s {z w : Str} (h : z.length + w.length ≤ sizeLine) (q : Q (.str (z ++ w)) H) : addX K (.str z) (.str w) H Q := by
  unfold addX
  exact .inl ⟨z, w, rfl, rfl, h, q⟩
theorem mul_l {k : Int} (h : H a = some (.lst xs)) (h1 : -(2 ^ 63) ≤ k) (h2 : k < 2 ^ 63) (z : xs.length * k.toNat ≤ sizeLine) (q : ∀ p, H p = none → Q (.ref p) (upd H p (.lst (List.replicate k.toNat xs).flatten))) : mulX (.ref a) (.int k) H Q := by
  unfold mulX
  exact ⟨a, k, xs, rfl, rfl, h, h1, h2, z, q⟩
theorem tup_l (h : H a = some (.lst xs)) (q : ∀ l, H l = none → Q (.ref l) (upd H l (.tup xs))) : tupX K (.ref a) H Q := by
  unfold tupX
  exact ⟨a, xs, rfl, .inl ⟨SqL.of h, q⟩⟩
theorem list_l (h : H a = some (.lst xs)) (q : ∀ l, H l = none → Q (.ref l) (upd H l (.lst xs))) : listX K (.ref a) H Q := by
  unfold listX
  exact ⟨a, xs, rfl, .inl (SqL.of h), q⟩
theorem list_t (h : H a = some (.tup xs)) (q : ∀ l, H l = none → Q (.ref l) (upd H l (.lst xs))) : listX K (.ref a) H Q := by
  unfold listX
  exact ⟨a, xs, rfl, .inr (SqT.of h), q⟩
theorem all_l {bs : List Bool} (h : H a = some (.lst (bs.map V.bl))) (q : Q (.bl (bs.all id)) H) : allX K (.ref a) H Q := by
  unfold allX
  exact ⟨a, bs, rfl, SqL.of h, q⟩
theorem eq_d {d e : PyData} (hd : Dp K H x d) (he : Dp K H y e) (s1 : SeqAt.shaped d = true) (s2 : SeqAt.shaped e = true) (q : Q (.bl (PyData.eqv d e)) H) : eqX K x y H Q := by
  unfold eqX
  exact .inr (.inl ⟨d, e, hd, he, s1, s2, q⟩)
theorem ne_d {d e : PyData} (hd : Dp K H x d) (he : Dp K H y e) (s1 : SeqAt.shaped d = true) (s2 : SeqAt.shaped e = true) (q : Q (.bl (!PyData.eqv d e)) H) : neX K x y H Q := by
  unfold neX
  exact .inr (.inl ⟨d, e, hd, he, s1, s2, q⟩)
theorem eq_dk {b : Addr} {ks ls : List (Key × V)} (h : H a = some (.dK ks)) (h2 : H b = some (.dK ls)) (hl : ks.length = ls.length) (hv : ∀ p ∈ ks, valV ls p.1 = some p.2 ∧ flatB p.2 = true) (q : Q (.bl true) H) : eqX K (.ref a) (.ref b) H Q := by
  unfold eqX
  exact .inr (.inr ⟨a, b, ks, ls, rfl, rfl, h, h2, hl, hv, q⟩)
theorem ne_dk {b : Addr} {ks ls : List (Key × V)} (h : H a = some (.dK ks)) (h2 : H b = some (.dK ls)) (hl : ks.length = ls.length) (hv : ∀ p ∈ ks, valV ls p.1 = some p.2 ∧ flatB p.2 = true) (q : Q (.bl false) H) : neX K (.ref a) (.ref b) H Q := by
  unfold neX
  exact .inr (.inr ⟨a, b, ks, ls, rfl, rfl, h, h2, hl, hv, q⟩)
theorem eq_v (h : scal x y = true) (q : Q (.bl (decide (x = y))) H) : eqX K x y H Q := by
  unfold eqX
  exact .inl ⟨h, q⟩
theorem ne_v (h : scal x y = true) (q : Q (.bl (!decide (x = y))) H) : neX K x y H Q := by
  unfold neX
  exact .inl ⟨h, q⟩
theorem repr_d {d : PyData} (h : Rp K H x d) (ok : RepOk d) (q : Q (.str d.shown) H) : reprX K x H Q := by
  unfold reprX
  exact ⟨d, h, ok, q⟩
theorem okBl (b : Bool) : RepOk (.bool b) := ⟨rfl, Nat.zero_le _, rfl, Nat.zero_le _⟩
theorem repr_b {b : Bool} (q : Q (.str (PyData.shown (.bool b))) H) : reprX K (.bl b) H Q := repr_d (d := .bool b) rfl (okBl b) q
end

/-! ### o[i] = v -/
@[irreducible] def setX (o i v : V) (H : Hp) (Q : Hp → Prop) : Prop := rSetL o i v H Q ∨ rSetD o i v H Q
def sSetI (te to ti : TE) : TS := fun D σ H => te σ H fun v H1 => to σ H1 fun o H2 => ti σ H2 fun i H3 => setX o i v H3 fun H4 => D.nx σ H4
theorem set_l {H : Hp} {Q : Hp → Prop} {a : Addr} {xs : List V} {i : Int} {j : Nat} {v : V} (h : H a = some (.lst xs)) (e : ixN xs.length i = some j) (q : Q (upd H a (.lst (xs.set j v)))) : setX (.ref a) (.int i) v H Q := by
  unfold setX
  exact .inl ⟨a, xs, i, j, rfl, rfl, h, e, q⟩
theorem set_dk {H : Hp} {Q : Hp → Prop} {a : Addr} {kvs : List (Key × V)} {k : Key} {v : V} (h : H a = some (.dK kvs)) (z : kvs.length < 16777216) (q : Q (upd H a (.dK (putK kvs k v)))) : setX (.ref a) (kV k) v H Q := by
  unfold setX
  exact .inr ⟨a, _, rfl, DPut.k h (by rw [sizeLine_eq]; exact z), q⟩
theorem set_dt {H : Hp} {Q : Hp → Prop} {a b : Addr} {kvs : List (List Key × V)} {k : List Key} {v : V} (h : H a = some (.dT kvs)) (hb : H b = some (.tup (k.map kV))) (z : kvs.length < 16777216) (q : Q (upd H a (.dT (putK kvs k v)))) : setX (.ref a) (.ref b) v H Q := by
  unfold setX
  exact .inr ⟨a, _, rfl, DPut.t h hb (by rw [sizeLine_eq]; exact z), q⟩
section
variable {X : Cx} {o i e : Expr} {te to ti : TE} {pos p2 : Pos}
theorem mseti (hu : X.A.units + 64 < cLine) (he : PE X e te) (ho : PE X o to) (hi : PE X i ti)
    (ha : ∀ v, assign (.Subscript o i p2) X.env v = (do
      let ov ← holding [v] (eval o X.env)
      let iv ← holding [v, ov] (eval i X.env)
      standAt p2
      holding [v, ov, iv] (setItem ov iv v)
      release [v, ov, iv] []) := by intro _; rfl)
    (hs : swapsWithSole [.Subscript o i p2] e pos.line X.env = pure false := by rfl) (hw : swappedStores [.Subscript o i p2] e X.env = pure none := by rfl)
    (h1 : (assignEach [.Subscript o i p2] X.env).map (·.2) = [assign (.Subscript o i p2) X.env] := by rfl) : PS X (.Assign [.Subscript o i p2] e pos) (sSetI te to ti) := by
  have hp : PSet X setX := fun pins s σ H o i v ov iv u Q I r1 r2 r3 q => by
    unfold setX at q
    rcases q with q | q
    · exact set_list pins s σ H o i v ov iv u Q I r1 r2 r3 q
    · exact set_dict (by omega) pins s σ H o i v ov iv u Q I r1 r2 r3 q
  exact ps_asg he (pg_sub ho hi hp ha) hs hw h1
end

/-! ### targets -/
def gN (i : Nat) : TG := fun v σ H Q => Q (sput σ i v) H
theorem gN_eq (i : Nat) : gN i = gName i := by
  funext v σ H Q
  unfold gN gName
  rw [sput_eq]
def sputs : L2.St → List Nat → List V → L2.St
  | σ, i :: is, v :: vs => sputs (sput σ i v) is vs
  | σ, _, _ => σ
def gNs : List Nat → TGs
  | [] => gNil
  | i :: is => gCons (gN i) (gNs is)
theorem gNs_ok {Q : L2.St → Hp → Prop} {H : Hp} : ∀ {is : List Nat} {vs : List V} {σ : L2.St}, is.length = vs.length → Q (sputs σ is vs) H → gNs is vs σ H Q
  | [], [], _, _, q => ⟨rfl, q⟩
  | i :: is, v :: vs, σ, h, q => ⟨v, vs, rfl, gNs_ok (is := is) (Nat.succ.inj h) q⟩
/-- a, b, .. = a tuple or a list of that length -/
@[irreducible] def unpX (K : PySem.W.Frag) (is : List Nat) (v : V) (σ : L2.St) (H : Hp) (Q : L2.St → Hp → Prop) : Prop :=
  ∃ a xs, v = .ref a ∧ (SqT K H a xs ∨ SqL K H a xs) ∧ is.length = xs.length ∧ Q (sputs σ is xs) H
def gU (K : PySem.W.Frag) (is : List Nat) : TG := fun v σ H Q => unpX K is v σ H Q
section
variable {X : Cx} {e tg : Expr} {es : List Expr} {te : TE} {pos : Pos}
theorem mgn {i : Nat} {x : Str} (hN : X.N.Nodup) (hi : X.N[i]? = some x) (hx : Loc X.env.scope x) (hf : X.fn x = true ∨ X.env.scope.names.lookup x = some .local := by first | exact .inl rfl | exact .inr rfl | assumption) : PG X (.Name x pos) (gN i) := by
  rw [gN_eq]
  exact pg_name hN hi hx hf
theorem mg0 : PGs X [] (gNs []) := pgs_nil
theorem mg1 {i : Nat} {is : List Nat} (h1 : PG X e (gN i)) (h2 : PGs X es (gNs is)) (hs : (assignEach (e :: es) X.env).map (·.2) = assign e X.env :: (assignEach es X.env).map (·.2) := by rfl) : PGs X (e :: es) (gNs (i :: is)) := pgs_cons h1 h2 hs
theorem mgu {is : List Nat} {k : Nat} (hc : X.calm = true) (h : PGs X es (gNs is)) (hn : (assignEach es X.env).length = is.length := by rfl) (hst : (assignEach es X.env).findIdx? (·.1) = none := by rfl) :
    PG X (.Tuple es k pos) (gU X.K is) := by
  constructor
  intro pins s σ H v u Q I r hw
  unfold gU unpX at hw
  obtain ⟨a, xs, e1, hq, hl, q⟩ := hw
  rcases hq with hq | hq
  · exact (pg_tup hc h hn hst).run pins s σ H v u Q I r ⟨a, xs, e1, hq, hl.symm, gNs_ok hl q⟩
  · exact (pg_unl hc h hn hst).run pins s σ H v u Q I r ⟨a, xs, e1, hq, hl.symm, gNs_ok hl q⟩
def sAsg (te : TE) (g : TG) : TS := fun D σ H => te σ H fun x H1 => g x σ H1 D.nx
theorem masg {g : TG} (he : PE X e te) (hg : PG X tg g) (hs : swapsWithSole [tg] e pos.line X.env = pure false := by rfl) (hw : swappedStores [tg] e X.env = pure none := by rfl)
    (h1 : (assignEach [tg] X.env).map (·.2) = [assign tg X.env] := by rfl) : PS X (.Assign [tg] e pos) (sAsg te g) := ps_asg he hg hs hw h1
end
theorem unp_t {K : PySem.W.Frag} {is : List Nat} {a : Addr} {σ : L2.St} {H : Hp} {Q : L2.St → Hp → Prop} {xs : List V} (h : H a = some (.tup xs)) (hl : is.length = xs.length) (q : Q (sputs σ is xs) H) : unpX K is (.ref a) σ H Q := by
  unfold unpX
  exact ⟨a, xs, rfl, .inl (SqT.of h), hl, q⟩
theorem unp_l {K : PySem.W.Frag} {is : List Nat} {a : Addr} {σ : L2.St} {H : Hp} {Q : L2.St → Hp → Prop} {xs : List V} (h : H a = some (.lst xs)) (hl : is.length = xs.length) (q : Q (sputs σ is xs) H) : unpX K is (.ref a) σ H Q := by
  unfold unpX
  exact ⟨a, xs, rfl, .inr (SqL.of h), hl, q⟩

/-! ### what is walked -/
@[irreducible] def iterX (K : PySem.W.Frag) (x : V) (H : Hp) (R : It → Hp → Prop) : Prop :=
  (∃ a, x = .ref a ∧ (∃ xs, SqL K H a xs) ∧ R (Itl K a) H) ∨ (∃ a, x = .ref a ∧ (∃ xs, SqT K H a xs) ∧ R (Itt K a) H) ∨ ∃ z, x = .str z ∧ R (Its z) H
def iV (K : PySem.W.Frag) (tl : TE) : TI := fun σ H R => tl σ H fun x H1 => iterX K x H1 R
def rngOk (i : Int) : Prop := -4611686018427387904 ≤ i ∧ i < 4611686018427387904
theorem e62 : (2 : Int) ^ 62 = 4611686018427387904 := by decide
def iR1 (ta : TA) : TI := fun σ H R => ta σ H fun vs H1 => match vs with
  | [.int j] => rngOk j ∧ R (Itr 0 j.toNat) H1
  | _ => False
def iR2 (ta : TA) : TI := fun σ H R => ta σ H fun vs H1 => match vs with
  | [.int i, .int j] => rngOk i ∧ rngOk j ∧ R (Itr i (j - i).toNat) H1
  | _ => False
section
variable {X : Cx} {tg : Expr}
theorem miv {l : Expr} {tl : TE} (hl : PE X l tl) : PI X tg l (iV X.K tl) := by
  constructor
  intro pins s σ H R I h
  refine thn (hl.run pins s σ H _ I h) ?_
  rintro v s1 ⟨x, H1, I1, r1, q1⟩
  unfold iterX at q1
  rcases q1 with ⟨a, ex, ⟨xs, hq⟩, q⟩ | ⟨a, ex, ⟨xs, hq⟩, q⟩ | ⟨z, ex, q⟩
  · subst ex
    cases (show v = Value.ref a from r1)
    obtain ⟨its, rv, p, hz⟩ := I1.list hq
    exact wpAny_pyIter_list p.isList (pi_one (tk := s1.toks) I1 _ (turn_list a _) ⟨_, Heap.get?_push_size _ rfl, rfl, rfl⟩ q)
  · subst ex
    cases (show v = Value.ref a from r1)
    obtain ⟨its, rv, p, hz⟩ := I1.tuple hq
    exact wpAny_pyIter_tuple (show s1.heap.IsTuple a its.toArray from p) (pi_one (tk := s1.toks) I1 _ (turn_tuple a _) ⟨_, Heap.get?_push_size _ rfl, rfl, rfl⟩ q)
  · subst ex
    obtain ⟨t, rfl⟩ := r1
    cases ha : z.cps.all (· < 128)
    · exact wpAny_pyIter_wide ha (pi_one (tk := s1.toks) I1 _ (turn_str _ z t "str_iterator" (.inr rfl)) ⟨_, Heap.get?_push_size _ rfl, rfl, rfl⟩ q)
    · exact wpAny_pyIter_ascii ha (pi_one (tk := s1.toks) I1 _ (turn_str _ z t "str_ascii_iterator" (.inl rfl)) ⟨_, Heap.get?_push_size _ rfl, rfl, rfl⟩ q)
theorem pi_rng {iter : Expr} {ta : TA} {wi wi' : (List V → Hp → (It → Hp → Prop) → Prop)} (h : PI X tg iter (fun σ H R => ta σ H fun vs H1 => wi vs H1 R)) (e : wi' = wi) : PI X tg iter (fun σ H R => ta σ H fun vs H1 => wi' vs H1 R) := e ▸ h
theorem mr1 {a : Expr} {ta : TA} {p pos : Pos} (hg : Gl X "range") (hm : X.mg "range" = none) (ha : PA X [a] ta) (hs : starEach [a] X.env = [(false, eval a X.env)] := by rfl) : PI X tg (.Call (.Name "range" p) [a] [] pos) (iR1 ta) := by
  refine pi_rng (pi_range1 hg hm ha hs) ?_
  funext vs H1 R
  apply propext
  constructor
  · intro q
    split at q
    · exact ⟨_, rfl, by rw [e62]; exact q.1.1, by rw [e62]; exact q.1.2, q.2⟩
    · exact q.elim
  · rintro ⟨j, e, a, b, q⟩
    subst e
    rw [e62] at a b
    exact ⟨⟨a, b⟩, q⟩
theorem mr2 {a b : Expr} {ta : TA} {p pos : Pos} (hg : Gl X "range") (hm : X.mg "range" = none) (ha : PA X [a, b] ta) (hs : starEach [a, b] X.env = [(false, eval a X.env), (false, eval b X.env)] := by rfl) (hs2 : starEach [b] X.env = [(false, eval b X.env)] := by rfl) :
    PI X tg (.Call (.Name "range" p) [a, b] [] pos) (iR2 ta) := by
  refine pi_rng (pi_range2 hg hm ha hs hs2) ?_
  funext vs H1 R
  apply propext
  constructor
  · intro q
    split at q
    · exact ⟨_, _, rfl, by rw [e62]; exact ⟨q.1.1, q.1.2, q.2.1.1, q.2.1.2⟩, q.2.2⟩
    · exact q.elim
  · rintro ⟨i, j, e, ⟨a, b, c, d⟩, q⟩
    subst e
    rw [e62] at a b c d
    exact ⟨⟨a, b⟩, ⟨c, d⟩, q⟩
end

/-! ### loops -/
@[irreducible] def Loop (J : It) (g : TG) (tb : TS) (D : Ends) (σ : L2.St) (H1 : Hp) : Prop := ∃ W : Nat → Nat → L2.St → Hp → Prop, (∃ m, W 0 m σ H1) ∧ ∀ i m σ H, W i m σ H →
  (J.stop i H ∧ D.nx σ H) ∨ (J.go i H ∧ ∃ N : L2.St → Hp → Prop, (∀ σ' H', N σ' H' → ∃ m', m' < m ∧ W (i + 1) m' σ' H') ∧ ∀ x H', J.yld i H x H' → g x σ H' fun σ2 H2 => tb { D with nx := N, ct := N, bk := D.nx } σ2 H2)
def sFor (wi : TI) (g : TG) (tb : TS) : TS := fun D σ H => wi σ H fun J H1 => Loop J g tb D σ H1
theorem sFor_eq (wi : TI) (g : TG) (tb : TS) : sFor wi g tb = tFor wi g tb := by
  funext D σ H
  unfold sFor Loop tFor
  rfl
@[irreducible] def LoopC (J : It) (g : TG) (tt : TT) (te : TE) (vs : List Nat) (σ : L2.St) (D : Addr) (H1 : Hp) (Q : VK) : Prop := ∃ W : Nat → Nat → Hp → Prop, (∃ m, W 0 m (upd H1 D (.lst []))) ∧ ∀ i m H, W i m H →
  (J.stop i H ∧ Q (.ref D) H) ∨ (J.go i H ∧ ∃ Nx : Hp → Prop, (∀ H', Nx H' → ∃ m', m' < m ∧ W (i + 1) m' H') ∧ ∀ x H', J.yld i H x H' → g x (wipe σ vs) H' fun σ2 H2 => wipe σ2 vs = wipe σ vs ∧ tt σ2 H2 fun b H3 =>
    if b = true then te σ2 H3 fun y H4 => ∃ acc, H4 D = some (.lst acc) ∧ acc.length < sizeLine ∧ Nx (upd H4 D (.lst (acc ++ [y]))) else Nx H3)
def eLc (wi : TI) (g : TG) (tt : TT) (te : TE) (vs : List Nat) : TE := fun σ H Q => wi σ H fun J H1 => ∀ D, H1 D = none → LoopC J g tt te vs σ D H1 Q
theorem eLc_eq (wi : TI) (g : TG) (tt : TT) (te : TE) (vs : List Nat) : eLc wi g tt te vs = tLc wi g tt te vs := by
  funext σ H Q
  unfold eLc LoopC tLc
  rfl
theorem sSet_eq (i : Nat) (te : TE) : sSet i te = tAsg te (gName i) := by
  funext D σ H
  unfold sSet tAsg gName
  simp only [sput_eq]
section
variable {X : Cx} {iter tg elt : Expr} {body : List Stmt} {ifs : List Expr} {wi : TI} {g : TG} {tb : TS} {tt : TT} {te : TE} {pos : Pos} {scope : Scope} {own : List (Str × Nat)}
theorem mfor (hp : PassesOwn (model X.prog X.w) X.A X.env X.xe) (hc : X.calm = true) (hi : PI X tg iter wi) (hg : PG X tg g) (hb : PSs X body tb) (hs : ∀ x, foldedSetIterable iter X.env x = pure x := by intro _; rfl) :
    PS X (.For tg iter body [] pos) (sFor wi g tb) := by
  rw [sFor_eq]
  exact ps_for hp hc hi hg hb hs
theorem mlc (hc : X.calm = true) (hN : X.N.Nodup) (hi : PI X tg iter wi) (ok : BlkOk X.N X.env.scope scope own)
    (hg : ∀ (s : Shared) (H : Hp) (C : Addr) (cl : List (Str × Addr)) (fp : List Addr), PG (X.blk s H scope (compEnvC scope cl C X.env) fp) tg g) (ht : ∀ (s : Shared) (H : Hp) (C : Addr) (cl : List (Str × Addr)) (fp : List Addr), PTs (X.blk s H scope (compEnvC scope cl C X.env) fp) ifs tt)
    (he : ∀ (s : Shared) (H : Hp) (C : Addr) (cl : List (Str × Addr)) (fp : List Addr), PE (X.blk s H scope (compEnvC scope cl C X.env) fp) elt te) (hs : ∀ x, foldedSetIterable iter X.env x = pure x := by intro _; rfl) :
    PE X (.ListComp elt [⟨tg, iter, ifs, 0⟩] scope pos) (eLc wi g tt te (own.map (·.2))) := by
  rw [eLc_eq]
  exact pe_lc hc hN hi ok hg ht he hs
theorem mlcs {i : Nat} {y : Str} {py spos : Pos} (hc : X.calm = true) (hN : X.N.Nodup) (hy : X.N[i]? = some y) (hyl : X.env.scope.names.lookup y = some .local)
    (hsw : swapsWith (.ListComp elt [⟨tg, iter, ifs, 0⟩] scope pos) (some (.Name y py)) spos.line X.env = pure true) (hi : PI X tg iter wi) (ok : BlkOk X.N X.env.scope scope own)
    (hg : ∀ (s : Shared) (H : Hp) (C : Addr) (cl : List (Str × Addr)) (fp : List Addr), PG (X.blk s H scope (compEnvC scope cl C X.env) fp) tg g) (ht : ∀ (s : Shared) (H : Hp) (C : Addr) (cl : List (Str × Addr)) (fp : List Addr), PTs (X.blk s H scope (compEnvC scope cl C X.env) fp) ifs tt)
    (he : ∀ (s : Shared) (H : Hp) (C : Addr) (cl : List (Str × Addr)) (fp : List Addr), PE (X.blk s H scope (compEnvC scope cl C X.env) fp) elt te) (hs : ∀ x, foldedSetIterable iter X.env x = pure x := by intro _; rfl) :
    PS X (.Assign [.Name y py] (.ListComp elt [⟨tg, iter, ifs, 0⟩] scope pos) spos) (sSet i (eLc wi g tt te (own.map (·.2)))) := by
  rw [sSet_eq, eLc_eq]
  exact ps_setLc hc hN hy hyl hsw hi ok hg ht he hs
end

/-! ### while -/
@[irreducible] def sWhile (c : TT) (tb : TS) : TS := fun D σ H => ∃ W : Nat → L2.St → Hp → Prop, (∃ m, W m σ H) ∧ ∀ m σ H, W m σ H →
  c σ H fun b H1 => cond b (tb { D with nx := fun σ' H' => ∃ m', m' < m ∧ W m' σ' H', ct := fun σ' H' => ∃ m', m' < m ∧ W m' σ' H', bk := D.nx } σ H1) (D.nx σ H1)
theorem mwhile {X : Cx} {pos : Pos} {c : Expr} {body : List Stmt} {tc : TT} {tb : TS} (hp : PassesOwn (model X.prog X.w) X.A X.env X.xe) (hc : PT X c tc) (hb : PSs X body tb) : PS X (.While c body [] pos) (sWhile tc tb) := by
  constructor
  intro pins s σ H D I h
  unfold sWhile at h
  obtain ⟨W, ⟨m0, w0⟩, turn⟩ := h
  refine wpAny_While (codeAny_whileLoop (fun n s' => ∃ σ' H', Inv X pins σ' H' s' ∧ W n σ' H') ?_ m0 ⟨σ, H, I, w0⟩)
  rintro n s1 ⟨σ1, H1, I1, w1⟩
  refine wpAny_passesOwn hp (thn (hc.run pins s1 σ1 H1 _ I1 (turn n σ1 H1 w1)) ?_)
  rintro k s2 ⟨H2, I2, q2⟩
  cases k with
  | false =>
    rw [if_neg Bool.false_ne_true]
    exact wpAny_execs_nil ⟨σ1, H2, I2, q2⟩
  | true =>
    rw [if_pos rfl]
    refine wpAny_passesOwn hp (thn (hb.run pins s2 σ1 H2 _ I2 q2) ?_)
    intro f s3 q3
    cases f with
    | ret v => exact q3
    | brk => exact q3
    | next =>
      obtain ⟨σ3, H3, I3, m', hm, w3⟩ := q3
      exact ⟨m', hm, σ3, H3, I3, w3⟩
    | cont =>
      obtain ⟨σ3, H3, I3, m', hm, w3⟩ := q3
      exact ⟨m', hm, σ3, H3, I3, w3⟩
/-- a while by what holds and what falls -/
theorem while_i {c : TT} {tb : TS} {D : Ends} {σ : L2.St} {H : Hp} (Pv : Nat → L2.St → Hp → Prop) (m : Nat) (h0 : Pv m σ H)
    (hs : ∀ m σ H, Pv m σ H → c σ H fun b H1 => cond b (tb { D with nx := fun σ' H' => ∃ m', m' < m ∧ Pv m' σ' H', ct := fun σ' H' => ∃ m', m' < m ∧ Pv m' σ' H', bk := D.nx } σ H1) (D.nx σ H1)) : sWhile c tb D σ H := by
  unfold sWhile
  exact ⟨Pv, ⟨m, h0⟩, hs⟩

/-! ### loops by their invariants -/
section
variable {K : PySem.W.Frag} {g : TG} {tb : TS} {D : Ends} {σ : L2.St} {H : Hp} {J : It} {n : Nat} {G : Hp → Prop} {Y : Nat → Hp → V → Hp → Prop} {tt : TT} {te : TE} {vs : List Nat} {Da : Addr} {Q : VK}
theorem Loop.it (w : Walk J n G Y) (Pv : Nat → L2.St → Hp → Prop) (h0 : Pv 0 σ H) (hG : ∀ i σ H, i ≤ n → Pv i σ H → G H)
    (hs : ∀ i x σ H H', i < n → Pv i σ H → Y i H x H' → g x σ H' fun σ2 H2 => tb { D with nx := Pv (i + 1), ct := Pv (i + 1), bk := D.nx } σ2 H2) (hd : ∀ σ H, Pv n σ H → D.nx σ H) : Loop J g tb D σ H := by
  unfold Loop
  exact for_it w Pv h0 hG hs hd
theorem Loop.range {lo : Int} {n : Nat} (Pv : Nat → L2.St → Hp → Prop) (h0 : Pv 0 σ H)
    (hs : ∀ i σ H, i < n → Pv i σ H → g (.int (lo + i)) σ H fun σ2 H2 => tb { D with nx := Pv (i + 1), ct := Pv (i + 1), bk := D.nx } σ2 H2) (hd : ∀ σ H, Pv n σ H → D.nx σ H) : Loop (Itr lo n) g tb D σ H := by
  unfold Loop
  exact for_range Pv h0 hs hd
theorem Loop.list {a : Addr} {xs : List V} (Pv : Nat → L2.St → Hp → Prop) (h0 : Pv 0 σ H) (hl : ∀ i σ H, i ≤ xs.length → Pv i σ H → SqL K H a xs)
    (hs : ∀ i x σ H, xs[i]? = some x → Pv i σ H → g x σ H fun σ2 H2 => tb { D with nx := Pv (i + 1), ct := Pv (i + 1), bk := D.nx } σ2 H2) (hd : ∀ σ H, Pv xs.length σ H → D.nx σ H) : Loop (Itl K a) g tb D σ H := by
  unfold Loop
  exact for_list Pv h0 hl hs hd
theorem Loop.tup {a : Addr} {xs : List V} (Pv : Nat → L2.St → Hp → Prop) (h0 : Pv 0 σ H) (hl : ∀ i σ H, i ≤ xs.length → Pv i σ H → SqT K H a xs)
    (hs : ∀ i x σ H, xs[i]? = some x → Pv i σ H → g x σ H fun σ2 H2 => tb { D with nx := Pv (i + 1), ct := Pv (i + 1), bk := D.nx } σ2 H2) (hd : ∀ σ H, Pv xs.length σ H → D.nx σ H) : Loop (Itt K a) g tb D σ H := by
  unfold Loop
  exact for_tup Pv h0 hl hs hd
theorem LoopC.it (w : Walk J n G Y) (Pv : Nat → Hp → Prop) (h0 : Pv 0 (upd H Da (.lst []))) (hG : ∀ i H, i ≤ n → Pv i H → G H)
    (hs : ∀ i x H H', i < n → Pv i H → Y i H x H' → g x (wipe σ vs) H' fun σ2 H2 => wipe σ2 vs = wipe σ vs ∧ tt σ2 H2 fun b H3 =>
      if b = true then te σ2 H3 fun y H4 => ∃ acc, H4 Da = some (.lst acc) ∧ acc.length < sizeLine ∧ Pv (i + 1) (upd H4 Da (.lst (acc ++ [y]))) else Pv (i + 1) H3) (hd : ∀ H, Pv n H → Q (.ref Da) H) : LoopC J g tt te vs σ Da H Q := by
  unfold LoopC
  exact lc_it (Qd := fun H => Q (.ref Da) H) w Pv h0 hG hs hd
end
section
variable {K : PySem.W.Frag} {H : Hp} {R : It → Hp → Prop} {a : Addr} {xs : List V} {z : Str}
theorem it_l (h : H a = some (.lst xs)) (q : R (Itl K a) H) : iterX K (.ref a) H R := by
  unfold iterX
  exact .inl ⟨a, rfl, ⟨xs, SqL.of h⟩, q⟩
theorem it_f {o : Obj} (h : H a = some (.frz o (.lst xs))) (q : R (Itl K a) H) : iterX K (.ref a) H R := by
  unfold iterX
  exact .inl ⟨a, rfl, ⟨xs, .inl (.inr ⟨o, h⟩)⟩, q⟩
theorem it_t (h : H a = some (.tup xs)) (q : R (Itt K a) H) : iterX K (.ref a) H R := by
  unfold iterX
  exact .inr (.inl ⟨a, rfl, ⟨xs, SqT.of h⟩, q⟩)
theorem it_s (q : R (Its z) H) : iterX K (.str z) H R := by
  unfold iterX
  exact .inr (.inr ⟨z, rfl, q⟩)
end

/-! ### isinstance of built-in types -/
inductive Ty where
  | none | bool | int | str | list | tuple | dict
  deriving DecidableEq
def Ty.nm : Ty → String
  | .none => "NoneType" | .bool => "bool" | .int => "int" | .str => "str" | .list => "list" | .tuple => "tuple" | .dict => "dict"
def Ty.is : Ty → Ty → Bool
  | .none, .none => true | .bool, .bool => true | .bool, .int => true | .int, .int => true | .str, .str => true | .list, .list => true | .tuple, .tuple => true | .dict, .dict => true
  | _, _ => false
theorem Ty.kit (K : PySem.W.Frag) (t : Ty) (T : Ty) (h : T ≠ .none) : PySem.W.kitOne K (.type t.nm) (.type T.nm) = some (t.is T) := by
  cases T with
  | none => exact absurd rfl h
  | bool => cases t <;> exact kit_ty (by decide +kernel)
  | int => cases t <;> exact kit_ty (by decide +kernel)
  | str => cases t <;> exact kit_ty (by decide +kernel)
  | list => cases t <;> exact kit_ty (by decide +kernel)
  | tuple => cases t <;> exact kit_ty (by decide +kernel)
  | dict => cases t <;> exact kit_ty (by decide +kernel)
@[irreducible] def isiX (K : PySem.W.Frag) (T : List Ty) (x : V) (H : Hp) (Q : VK) : Prop := ∃ t : Ty, TyX K H x (.type t.nm) ∧ Q (.bl (T.any fun u => t.is u)) H
def isiV (K : PySem.W.Frag) (T : List Ty) : V → Hp → VK → Prop := fun x H Q => match x with
  | .non => Q (.bl (T.any fun u => Ty.none.is u)) H
  | .bl _ => Q (.bl (T.any fun u => Ty.bool.is u)) H
  | .int _ => Q (.bl (T.any fun u => Ty.int.is u)) H
  | .str _ => Q (.bl (T.any fun u => Ty.str.is u)) H
  | x => isiX K T x H Q
section
variable {K : PySem.W.Frag} {T : List Ty} {H : Hp} {Q : VK} {a : Addr} {xs : List V}
theorem isiV_x {x : V} (q : isiV K T x H Q) : isiX K T x H Q := by
  unfold isiV at q
  unfold isiX
  split at q
  · exact ⟨.none, .base .non, q⟩
  · exact ⟨.bool, .base (.bl _), q⟩
  · exact ⟨.int, .base (.int _), q⟩
  · exact ⟨.str, .base (.str _), q⟩
  · unfold isiX at q
    exact q
theorem isi_l (h : H a = some (.lst xs)) (q : Q (.bl (T.any fun u => Ty.list.is u)) H) : isiX K T (.ref a) H Q := by
  unfold isiX
  exact ⟨.list, .base (.lst h), q⟩
theorem isi_t (h : H a = some (.tup xs)) (q : Q (.bl (T.any fun u => Ty.tuple.is u)) H) : isiX K T (.ref a) H Q := by
  unfold isiX
  exact ⟨.tuple, .base (.tup h), q⟩
theorem isi_d {kvs : List (Key × V)} (h : H a = some (.dK kvs)) (q : Q (.bl (T.any fun u => Ty.dict.is u)) H) : isiX K T (.ref a) H Q := by
  unfold isiX
  exact ⟨.dict, .base (.dK h), q⟩
end
section
variable {X : Cx} {e c : Expr} {te : TE} {pos p p2 p3 p4 : Pos} {tn tn2 : Str}
/-- isinstance(x, T) -/
def cIsi (K : PySem.W.Frag) (T : Ty) : List V → Hp → VK → Prop := fun xs H Q => match xs with
  | [x, c] => c = .ty T.nm ∧ isiV K [T] x H Q
  | _ => False
theorem k_isi {T : Ty} (hT : T ≠ .none) : CallR X (.builtin "isinstance") (cIsi X.K T) := call_imp call_isi fun xs H Q q => by
  unfold cIsi at q
  split at q
  · rename_i x c
    obtain ⟨e, q⟩ := q
    subst e
    have q := isiV_x q
    unfold isiX at q
    obtain ⟨t, h, q⟩ := q
    refine ⟨x, .ty T.nm, .type t.nm, .type T.nm, t.is T, rfl, .ty _, h, Ty.kit X.K t T hT, ?_⟩
    simpa using q
  · exact q.elim
/-- isinstance(x, (T1, T2)), the tuple just laid at p -/
def cIsiT (K : PySem.W.Frag) (T : List Ty) : List V → Hp → VK → Prop := fun xs H Q => match xs with
  | [x, .ref p] => H p = some (.tup (T.map fun t => .ty t.nm)) ∧ isiV K T x H Q
  | _ => False
theorem kits (K : PySem.W.Frag) (t : Ty) : ∀ {T : List Ty}, (∀ u ∈ T, u ≠ .none) → PySem.W.kitAny K (.type t.nm) (T.map fun u => Value.type u.nm) = some (T.any fun u => t.is u)
  | [], _ => kitAny_nil
  | u :: T, h => by
    refine kitAny_cons (Ty.kit K t u (h u List.mem_cons_self)) (fun e => ?_) fun e => ?_
    · rw [List.any_cons, e, Bool.false_or]
      exact kits K t fun v hv => h v (List.mem_cons_of_mem _ hv)
    · rw [List.any_cons, e, Bool.true_or]
theorem tyVs : ∀ T : List Ty, Paired ClsV (T.map fun t => V.ty t.nm) (T.map fun t => Value.type t.nm)
  | [] => .nil
  | t :: T => .cons (.ty _) (tyVs T)
theorem k_isiT {T : List Ty} (hT : ∀ u ∈ T, u ≠ .none) : CallR X (.builtin "isinstance") (cIsiT X.K T) := call_imp call_isiT fun xs H Q q => by
  unfold cIsiT at q
  split at q
  · rename_i x p
    obtain ⟨hp, q⟩ := q
    have q := isiV_x q
    unfold isiX at q
    obtain ⟨t, h, q⟩ := q
    exact ⟨x, p, _, .type t.nm, _, _, rfl, hp, tyVs T, h, kits X.K t hT, q⟩
  · exact q.elim
end
end MK

namespace MK
open PySem PySem.Spec PyProof.Rows L2
/-- the script: a list of ints that no one changes -/
def KL (K : PySem.W.Frag) (a : Addr) (xs : List V) : Prop := ∃ (o : Obj) (its : Array Value) (n : Nat), K.lookup a = some o ∧ o.cls = .type "list" ∧ o.dict = none ∧ o.data = .seq its n ∧ its.size ≤ sizeLine ∧ Vals xs its.toList
def scr (K : PySem.W.Frag) (a : Addr) (xs : List V) : SP where
  P := fun H A => A = [] ∧ ((∃ o, H a = some (.frz o (.lst xs))) ∨ KL K a xs)
  dom := fun H A h b hb => by
    rw [h.1] at hb
    cases hb
  st := fun H H' A h _ k => ⟨h.1, h.2.imp (fun ⟨o, z⟩ => ⟨o, by rw [k a (by rw [z]; exact True.intro), z]⟩) fun z => z⟩
theorem Star.getS {K : PySem.W.Frag} {H : Hp} {a : Addr} {xs : List V} {ps : List SP} (S : Star H (scr K a xs :: ps)) : SqL K H a xs := by
  obtain ⟨A1, A2, _, ⟨_, h⟩, _⟩ := Star.split.mp S
  rcases h with ⟨o, z⟩ | z
  · exact .inl (.inr ⟨o, z⟩)
  · exact .inr z
theorem ix_q {K : PySem.W.Frag} {H : Hp} {Q : VK} {a : Addr} {xs : List V} {v : V} {i : Int} (h : SqL K H a xs) (e : atI xs i = some v) (q : Q v H) : ixX K (.ref a) (.int i) H Q := by
  unfold ixX
  exact .inl (.inl ⟨a, xs, i, v, rfl, rfl, h, e, q⟩)
theorem len_q {K : PySem.W.Frag} {H : Hp} {Q : VK} {a : Addr} {xs : List V} (h : SqL K H a xs) (q : Q (.int (xs.length : Int)) H) : lenX K (.ref a) H Q := by
  unfold lenX
  exact .inl ⟨xs.length, .inl ⟨xs, h, rfl⟩, q⟩
section
variable {P : Program} {w : World} {K : PySem.W.Frag} {mg mb : Str → Option Value} {k : Nat} {fa a : Addr} {fd : FuncData} {x : Str} {sp : Sp} {s1 : Shared} {vs : List Value} {ns : List Int}
/-- the law's def is called, the script told by H -/
theorem law_core {H : Hp} (KX : K.In s1.heap) (hns : s1.heap.Ns mainGlobals mg) (hb : s1.heap.Ns builtinsNs mb) (hbb : ∀ x : Str, x ≠ "__name__" → mb x = bootBuiltins x) (hlim : s1.heap.NoLimit) (hg : s1.gens = #[]) (hr : Room k callerA)
    (F : ∀ base : Heap, K.In base → base.Ns mainGlobals mg → FnG P w K mg base k fa fd [x] sp) (hbind : ∀ (s : Shared) (u : Value), BindsTo s fd ⟨[u], []⟩ [(x, u)])
    (hsp : sp [.ref a] H (fun v _ => v = .bl true) (fun _ _ _ => False)) (hok : HOk P w H s1.heap) (only : ∀ b, H b ≠ none → b = a ∧ K.lookup a = none ∧ ∃ o xs, H a = some (.frz o (.lst xs))) :
    codeAny (model P w) callerA (.call (.ref fa) ⟨[.ref a], []⟩) (fun r s' => r = .ok (.ret (.bool true)) ∧ OldK s1.heap s'.heap ∧ s'.os = s1.os ∧ AllBare s'.gens) s1 := by
  have free : ∀ {b : Addr} {o : Obj}, s1.heap.get? b = some o → (∀ xs n, o.data ≠ .seq xs n) → H b = none := by
    intro b o e d
    cases q : H b with
    | none => rfl
    | some u =>
      obtain ⟨eb, _, ob, xs, z⟩ := only b (by rw [q]; simp)
      subst eb
      obtain ⟨h1, h2⟩ := hok _ _ z
      obtain ⟨_, its, n, _, h3⟩ := h2
      rw [e] at h3
      cases h3
      exact absurd rfl (d _ _)
  have inB : ∀ {b : Addr} {o : Obj}, s1.heap.get? b = some o → H b = none → (hidT s1.heap H).get? b = some o := fun e n => hidT_get e n
  have nsB : ∀ {b : Addr} {m : Str → Option Value}, s1.heap.Ns b m → (hidT s1.heap H).Ns b m := by
    rintro b m ⟨o, es, ep, e, d, r⟩
    exact ⟨o, es, ep, inB e (free e fun xs n z => by rw [d] at z; cases z), d, r⟩
  have kB : K.In (hidT s1.heap H) := fun b o e => inB (KX b o e) (by
    cases q : H b with
    | none => rfl
    | some u =>
      obtain ⟨eb, hk, _⟩ := only b (by rw [q]; simp)
      subst eb
      rw [hk] at e
      cases e)
  have M : Mod K mg (hidT s1.heap H) := by
    obtain ⟨mc, h1, h2⟩ := hlim
    exact ⟨kB, nsB hns, ⟨mb, nsB hb, hbb⟩, ⟨mc, nsB h1, h2⟩⟩
  have e0 : Env0 P w K mg (hidT s1.heap H) callerA [] s1 H :=
    ⟨rfl, M, fun b o e => of_hidT e, Nat.le_of_eq (hidT_size _ _), trivial, fun b z => absurd (show b ∈ ([] : List Addr) from z) (by simp), hok, .of_eq hg⟩
  have run := (F _ kB (nsB hns)).run callerA [] s1 H ⟨[.ref a], []⟩ [.ref a] [.ref a] _ _ hr rfl e0 (hbind s1 (.ref a)) (.cons rfl .nil) hsp
  refine codeAny_mono run ?_
  intro r s' h
  rcases r with e | (_ | _ | _ | u)
  · obtain ⟨_, _, _, _, _, _, _, _, _, _, _, _, z⟩ := h
    exact z.elim
  · exact h.elim
  · exact h.elim
  · exact h.elim
  · obtain ⟨v, H', os, bare, un, hok', r', q⟩ := h
    have q' : v = .bl true := q
    subst q'
    cases (show u = Value.bool true from r')
    refine ⟨rfl, OldK.of_keep ?_, os, bare⟩
    intro b o e
    cases q : H b with
    | none => exact un.keep b o e q (fun z => absurd (show b ∈ ([] : List Addr) from z) (by simp)) (by simp)
    | some u =>
      obtain ⟨eb, _, ob, xs, z⟩ := only b (by rw [q]; simp)
      subst eb
      obtain ⟨e1, _⟩ := hok _ _ z
      obtain ⟨e2, _⟩ := hok' _ _ (un.frzs _ ob _ z)
      rw [e] at e1
      cases e1
      exact e2
theorem law_end (KX : K.In s1.heap) (hns : s1.heap.Ns mainGlobals mg) (hb : s1.heap.Ns builtinsNs mb) (hbb : ∀ x : Str, x ≠ "__name__" → mb x = bootBuiltins x) (hlim : s1.heap.NoLimit) (hg : s1.gens = #[])
    (ha : s1.heap.get? a = some { cls := .type "list", data := .seq vs.toArray }) (hi : IntsAre vs ns) (hl : ns.length ≤ sizeLine) (hr : Room k callerA)
    (F : ∀ base : Heap, K.In base → base.Ns mainGlobals mg → FnG P w K mg base k fa fd [x] sp) (hbind : ∀ (s : Shared) (u : Value), BindsTo s fd ⟨[u], []⟩ [(x, u)])
    (hsp : ∀ H : Hp, Star H [scr K a (ns.map V.int)] → sp [.ref a] H (fun v _ => v = .bl true) (fun _ _ _ => False)) :
    codeAny (model P w) callerA (.call (.ref fa) ⟨[.ref a], []⟩) (fun r s' => r = .ok (.ret (.bool true)) ∧ OldK s1.heap s'.heap ∧ s'.os = s1.os ∧ AllBare s'.gens) s1 := by
  have rv := vals_ints hi
  have lenV := hi.length
  cases hk : K.lookup a with
  | some o =>
    have e := KX a o hk
    rw [ha] at e
    cases e
    have kl : KL K a (ns.map V.int) := ⟨_, vs.toArray, _, hk, rfl, rfl, rfl, by rw [List.size_toArray, lenV]; exact hl, by simpa using rv⟩
    refine law_core (H := fun _ => none) KX hns hb hbb hlim hg hr F hbind (hsp _ ⟨[], List.nodup_nil, [], [], rfl, ⟨rfl, .inr kl⟩, rfl⟩) ?_ ?_
    · intro b u z
      have z' : (none : Option HO) = some u := z
      cases z'
    · intro b z
      exact absurd rfl z
  | none =>
    obtain ⟨H, eH⟩ : ∃ H : Hp, H = fun b => if b = a then some (.frz { cls := .type "list", data := .seq vs.toArray } (.lst (ns.map V.int))) else none := ⟨_, rfl⟩
    have Ha : H a = some (.frz { cls := .type "list", data := .seq vs.toArray } (.lst (ns.map V.int))) := by rw [eH]; exact if_pos rfl
    have Hn : ∀ b, b ≠ a → H b = none := fun b z => by rw [eH]; exact if_neg z
    refine law_core (H := H) KX hns hb hbb hlim hg hr F hbind (hsp _ ⟨[], List.nodup_nil, [], [], rfl, ⟨rfl, .inl ⟨_, Ha⟩⟩, rfl⟩) ?_ ?_
    · intro b u z
      by_cases e : b = a
      · subst e
        rw [Ha] at z
        cases z
        have hz : (ns.map V.int).length ≤ sizeLine := by rw [List.length_map]; exact hl
        exact ⟨ha, hz, vs, _, rv, ha⟩
      · rw [Hn b e] at z
        cases z
    · intro b z
      by_cases e : b = a
      · exact ⟨e, hk, _, _, Ha⟩
      · exact absurd (Hn b e) z
end
/-- the goal that the head leaves, from the law's promise -/
theorem walk_end {l : PySem.W.OpenLaw} {n k : Nat} {q : Program} {loose : List Str} {XP : (Str → Option Value) → Heap → Prop} {YP : World → Heap → Prop} {d : DefRec} {x : Str}
    (hn : l.most = some n) (hn2 : n ≤ sizeLine) (hdf : d.params.defaults = []) (hr : Room k callerA)
    (F : ∀ (w : World) (mg : Str → Option Value) (fa : Addr) (h : Heap), YP w h → h.Ns mainGlobals mg → mg d.name = some (.ref fa) →
      ∃ (K : PySem.W.Frag) (fd : FuncData) (sp : Sp), K.In h ∧ (∀ (s : Shared) (u : Value), BindsTo s fd ⟨[u], []⟩ [(x, u)]) ∧
        (∀ (H : Hp) (a : Addr) (ns : List Int), ns.length ≤ n → Star H [scr K a (ns.map V.int)] → sp [.ref a] H (fun v _ => v = .bl true) fun _ _ _ => False) ∧
        ∀ base : Heap, K.In base → base.Ns mainGlobals mg → FnG l.prog w K mg base k fa fd [x] sp) :
    PySem.W.WalkO q loose XP YP l.row.toRowW d [] (fun f vs => PySem.call f vs) := by
  refine Att.attach_call hn hdf fun w s₀ s₁ mg mb fa o pm cd doc a vs ns G Y ho hd hcd hmg hobj hints hlen hg => ?_
  obtain ⟨K, fd, sp, KX, hb, hsp, hF⟩ := F w mg fa _ Y G.T.g hmg
  exact law_end KX G.T.g G.T.b G.T.builtins G.T.nolimit hg hobj hints (Nat.le_trans hlen hn2) hr hF hb fun H S => hsp H a ns hlen S
end MK

namespace MK
open PySem PySem.Spec PyProof.Rows L2
abbrev noW : WX := fun _ _ _ _ => False
abbrev wE (E : XK) : WX := fun c d _ H => E c d H
abbrev endOf (Q : VK) : Ends := ⟨fun _ H' => Q .non H', Q, fun _ _ => False, fun _ _ => False⟩
def st0 (vs : List V) (m : Nat) : L2.St := vs.map some ++ List.replicate m none
theorem st0_eq {N : List Str} {vs : List V} {n m : Nat} (h : vs.length = n) (hN : N.length = n + m) : L2.start N vs = st0 vs m := by
  unfold L2.start st0
  rw [h, hN, Nat.add_sub_cancel_left]
section
variable {P : Program} {w : World} {K : PySem.W.Frag} {mg : Str → Option Value} {base : Heap} {N ps : List Str} {qual x : Str} {scope : Scope} {f : Addr} {cd : Value} {A : Around} {outer : List Env} {s : Shared} {H : Hp} {E : XK}
theorem tk_of : Takes (cxOf (L2.CX P w) P w K mg base N qual scope f cd A outer s H E) (wE E) := takes_of rfl rfl rfl rfl
theorem hp_of : PassesOwn (model P w) (A.deeper (envOfC qual scope s.heap.objs.size f cd)) (envOfC qual scope s.heap.objs.size f cd) (cxOf (L2.CX P w) P w K mg base N qual scope f cd A outer s H E).xe := passes_of (X := cxOf (L2.CX P w) P w K mg base N qual scope f cd A outer s H E) rfl
theorem tk0 {X : Cx} : Takes X noW := fun _ _ ⟨_, _, _, _, _, _, _, _, _, _, _, _, _, _, _, _, z⟩ => z.elim
/-- a def of the text keeps its promise -/
structure OkG (P : Program) (w : World) (K : PySem.W.Frag) (mg : Str → Option Value) (base : Heap) (k : Nat) (f : Addr) (ps : List Str) (sp : Sp) : Prop where
  ex : ∃ fd, FnG P w K mg base k f fd ps sp ∧ L2.Binds K fd ps []
theorem OkG.cal {X : Cx} {j k : Nat} {f : Addr} {ps : List Str} {sp : Sp} (o : OkG X.prog X.w X.K X.mg X.base j f ps sp) (hr : Room k X.A) (hk : j ≤ k) (hg : X.A.guards = some []) : Cal X f sp := by
  obtain ⟨fd, F, b⟩ := o.ex
  exact ⟨j, fd, ps, hr.mono hk, hg, b, F⟩
theorem OkG.calM {X : Cx} {j k : Nat} {f : Addr} {ps : List Str} {sp : Sp} (o : OkG X.prog X.w X.K X.mg X.base j f ps sp) (hr : Room k X.A) (hk : j + 1 ≤ k) (hg : X.A.guards = some []) : CalM X f sp := by
  obtain ⟨fd, F, b⟩ := o.ex
  exact ⟨j, fd, ps, hr.mono hk, hg, b, F⟩
theorem OkG.of {k : Nat} {sp : Sp} {params : Arguments} {body : List Stmt} {t : WX → TS} {n m : Nat} (F : ∃ fd, FunD K x qual params body scope [] [] f fd) (S : FnScope N ps scope)
    (b : ∀ (kV doc pm : Value) (an : Option Addr) (cdv ct : Value) (us : List Value), us.length = ps.length → bindArgs (PySem.W.fnOf x qual params body scope .none kV doc pm an cdv ct) ⟨us, []⟩ = pure (ps.zip us))
    (hn : ps.length = n) (hN : N.length = n + m) (hs : ∀ vs H Q E, sp vs H Q E → vs.length = n ∧ t (wE E) (endOf Q) (st0 vs m) H)
    (hb : ∀ (cdv : Value) (A : Around) (outer : List Env) (s : Shared) (H : Hp) (E : XK), Room k (A.deeper (envOfC qual scope s.heap.objs.size f cdv)) → A.guards = some [] →
      PSs (cxOf (L2.CX P w) P w K mg base N qual scope f cdv A outer s H E) body (t (wE E))) : OkG P w K mg base (k + 1) f ps sp := by
  obtain ⟨fd, F⟩ := F
  refine ⟨fd, FnG.of F S (fun vs H Q E z => by rw [(hs vs H Q E z).1, hn]) ?_, F.bindsN b⟩
  intro cdv A outer s H vs Q E hr hg z
  obtain ⟨z1, z2⟩ := hs vs H Q E z
  exact ⟨t (wE E), hb cdv A outer s H E hr hg, by rw [st0_eq z1 hN]; exact z2⟩
end
/-- {} -/
def eD0 : TE := fun _ H Q => nwO (.dK []) H Q
theorem md0 {X : Cx} {pos : Pos} : PE X (.Dict [] [] pos) eD0 := by
  have e : eD0 = fun _ H Q => ∀ d, H d = none → Q (.ref d) (upd H d (.dK [])) := by
    unfold eD0 nwO
    rfl
  rw [e]
  exact pe_dnewK
end MK

namespace MK
open PySem PySem.Spec PyProof.Rows L2

/-! ### side conditions -/
theorem mul1 {i j : Int} (h : -18446744073709551616 < i ∧ i < 18446744073709551616) : mulOk i j := .inl h
theorem mul2 {i j : Int} (h : -18446744073709551616 < j ∧ j < 18446744073709551616) : mulOk i j := .inr (.inl h)
theorem div1 {j : Int} (h : 0 < j ∧ j < 18446744073709551616) : divOk j := h
theorem pow1 {i j : Int} (h : (0 ≤ j ∧ j ≤ 1000000) ∧ -18446744073709551616 < i ∧ i < 18446744073709551616) : powOk i j := h
theorem rng1 {i : Int} (h : -4611686018427387904 ≤ i ∧ i < 4611686018427387904) : rngOk i := h
theorem sz1 {n : Nat} (h : n ≤ 16777216) : szOk n := h

/-! ### steps that change the heap, by the assertions -/
section
variable {K : PySem.W.Frag} {H : Hp} {ps : List SP} {Q : VK} {a b : Addr} {xs ys : List V} {v : V} {i : Int} {j : Nat}
theorem al_l (S : Star H ps) (q : ∀ p H', Star H' (pt p (.lst xs) :: ps) → Q (.ref p) H') : nwO (.lst xs) H Q := nwO_i fun p hp => q p _ (S.newL hp)
theorem al_t (S : Star H ps) (q : ∀ p H', Star H' (fx p (.tup xs) :: ps) → Q (.ref p) H') : nwO (.tup xs) H Q := nwO_i fun p hp => q p _ (S.newT hp)
theorem al_d (S : Star H ps) (q : ∀ p H', Star H' (pt p (.dK []) :: ps) → Q (.ref p) H') : nwO (.dK []) H Q := nwO_i fun p hp => q p _ (S.new' hp id)
theorem set_S {Q : Hp → Prop} (S : Star H (pt a (.lst xs) :: ps)) (e : ixN xs.length i = some j) (q : ∀ H', Star H' (pt a (.lst (xs.set j v)) :: ps) → Q H') : setX (.ref a) (.int i) v H Q := set_l S.get e (q _ S.updL)
theorem add_S (S : Star H ps) (h : H a = some (.lst xs)) (h2 : H b = some (.lst ys)) (z : xs.length + ys.length ≤ 16777216) (q : ∀ p H', Star H' (pt p (.lst (xs ++ ys)) :: ps) → Q (.ref p) H') : addX K (.ref a) (.ref b) H Q :=
  add_l h h2 (szOk.w z) (nwO_e (al_l S q))
theorem tup_S (S : Star H ps) (h : H a = some (.lst xs)) (q : ∀ p H', Star H' (fx p (.tup xs) :: ps) → Q (.ref p) H') : tupX K (.ref a) H Q := tup_l h (nwO_e (al_t S q))
theorem list_S (S : Star H ps) (h : H a = some (.lst xs)) (q : ∀ p H', Star H' (pt p (.lst xs) :: ps) → Q (.ref p) H') : listX K (.ref a) H Q := list_l h (nwO_e (al_l S q))
theorem br {c : Bool} {A B : Prop} (h1 : c = true → A) (h2 : c = false → B) : cond c A B := by
  cases c with
  | true => exact h1 rfl
  | false => exact h2 rfl
end
end MK

namespace MK
open PySem PySem.Spec PyProof.Rows L2

theorem brd {p A B : Prop} [Decidable p] (h1 : p → A) (h2 : ¬ p → B) : cond (decide p) A B := br (fun h => h1 (of_decide_eq_true h)) (fun h => h2 (of_decide_eq_false h))
theorem brn {p A B : Prop} [Decidable p] (h1 : ¬ p → A) (h2 : p → B) : cond (!decide p) A B := br (fun h => h1 (fun z => by simp [z] at h)) (fun h => h2 (by simpa using h))

theorem brn' {A B : Prop} {b : Bool} (h1 : b = false → A) (h2 : b = true → B) : cond (!b) A B := by
  cases b with
  | true => exact h2 rfl
  | false => exact h1 rfl

/-! ### data: lists are held, tuples are known -/
mutual
def datP (H : Hp) : V → PyData → List Addr → Prop
  | v, .none, A => A = [] ∧ v = .non
  | v, .bool c, A => A = [] ∧ v = .bl c
  | v, .int i, A => A = [] ∧ v = .int i
  | v, .str x, A => A = [] ∧ v = .str x
  | v, .list ds, A => ∃ a xs A', v = .ref a ∧ A = a :: A' ∧ H a = some (.lst xs) ∧ datA H xs ds A'
  | v, .tuple ds, A => ∃ a xs, v = .ref a ∧ H a = some (.tup xs) ∧ datA H xs ds A
  | v, .dict kvs, A => ∃ a ks A', v = .ref a ∧ A = a :: A' ∧ H a = some (.dK ks) ∧ datK H ks kvs A'
def datA (H : Hp) : List V → List PyData → List Addr → Prop
  | vs, [], A => A = [] ∧ vs = []
  | vs, d :: ds, A => ∃ v r A1 A2, vs = v :: r ∧ A = A1 ++ A2 ∧ datP H v d A1 ∧ datA H r ds A2
def datK (H : Hp) : List (Key × V) → List (PyData × PyData) → List Addr → Prop
  | ks, [], A => A = [] ∧ ks = []
  | ks, p :: r, A => ∃ k v t A1 A2, ks = (k, v) :: t ∧ p.1 = kD k ∧ A = A1 ++ A2 ∧ datP H v p.2 A1 ∧ datK H t r A2
end
mutual
theorem datP_dom {H : Hp} : ∀ (d : PyData) {v : V} {A : List Addr}, datP H v d A → ∀ a ∈ A, H a ≠ none ∧ ¬ isFix (H a)
  | .none, _, _, h, a, ha => by rw [h.1] at ha; cases ha
  | .bool _, _, _, h, a, ha => by rw [h.1] at ha; cases ha
  | .int _, _, _, h, a, ha => by rw [h.1] at ha; cases ha
  | .str _, _, _, h, a, ha => by rw [h.1] at ha; cases ha
  | .list ds, _, _, ⟨b, xs, A', _, e, hb, hs⟩, a, ha => by
    rw [e] at ha
    rcases List.mem_cons.mp ha with z | z
    · rw [z, hb]
      exact ⟨(fun y => by cases y), fun y => y⟩
    · exact datA_dom ds hs a z
  | .tuple ds, _, _, ⟨b, xs, _, hb, hs⟩, a, ha => datA_dom ds hs a ha
  | .dict kvs, _, _, ⟨b, ks, A', _, e, hb, hs⟩, a, ha => by
    rw [e] at ha
    rcases List.mem_cons.mp ha with z | z
    · rw [z, hb]
      exact ⟨(fun y => by cases y), fun y => y⟩
    · exact datK_dom kvs hs a z
theorem datA_dom {H : Hp} : ∀ (ds : List PyData) {vs : List V} {A : List Addr}, datA H vs ds A → ∀ a ∈ A, H a ≠ none ∧ ¬ isFix (H a)
  | [], _, _, h, a, ha => by rw [h.1] at ha; cases ha
  | d :: ds, _, _, ⟨v, r, A1, A2, _, e, h1, h2⟩, a, ha => by
    rw [e] at ha
    rcases List.mem_append.mp ha with z | z
    · exact datP_dom d h1 a z
    · exact datA_dom ds h2 a z
theorem datK_dom {H : Hp} : ∀ (kvs : List (PyData × PyData)) {ks : List (Key × V)} {A : List Addr}, datK H ks kvs A → ∀ a ∈ A, H a ≠ none ∧ ¬ isFix (H a)
  | [], _, _, h, a, ha => by rw [h.1] at ha; cases ha
  | p :: r, _, _, ⟨k, v, t, A1, A2, _, _, e, h1, h2⟩, a, ha => by
    rw [e] at ha
    rcases List.mem_append.mp ha with z | z
    · exact datP_dom p.2 h1 a z
    · exact datK_dom r h2 a z
end
mutual
theorem datP_st {H H' : Hp} (k : Keep H H') : ∀ (d : PyData) {v : V} {A : List Addr}, datP H v d A → (∀ a ∈ A, H' a = H a) → datP H' v d A
  | .none, _, _, h, _ => h
  | .bool _, _, _, h, _ => h
  | .int _, _, _, h, _ => h
  | .str _, _, _, h, _ => h
  | .list ds, _, _, ⟨b, xs, A', e1, e, hb, hs⟩, ha => ⟨b, xs, A', e1, e, by rw [ha b (by simp [e]), hb], datA_st k ds hs fun a z => ha a (by simp [e, z])⟩
  | .tuple ds, _, _, ⟨b, xs, e1, hb, hs⟩, ha => ⟨b, xs, e1, by rw [k b (by rw [hb]; exact True.intro), hb], datA_st k ds hs ha⟩
  | .dict kvs, _, _, ⟨b, ks, A', e1, e, hb, hs⟩, ha => ⟨b, ks, A', e1, e, by rw [ha b (by simp [e]), hb], datK_st k kvs hs fun a z => ha a (by simp [e, z])⟩
theorem datA_st {H H' : Hp} (k : Keep H H') : ∀ (ds : List PyData) {vs : List V} {A : List Addr}, datA H vs ds A → (∀ a ∈ A, H' a = H a) → datA H' vs ds A
  | [], _, _, h, _ => h
  | d :: ds, _, _, ⟨v, r, A1, A2, e1, e, h1, h2⟩, ha => ⟨v, r, A1, A2, e1, e, datP_st k d h1 fun a z => ha a (by simp [e, z]), datA_st k ds h2 fun a z => ha a (by simp [e, z])⟩
theorem datK_st {H H' : Hp} (k : Keep H H') : ∀ (kvs : List (PyData × PyData)) {ks : List (Key × V)} {A : List Addr}, datK H ks kvs A → (∀ a ∈ A, H' a = H a) → datK H' ks kvs A
  | [], _, _, h, _ => h
  | p :: r, _, _, ⟨x, v, t, A1, A2, e1, e2, e, h1, h2⟩, ha => ⟨x, v, t, A1, A2, e1, e2, e, datP_st k p.2 h1 fun a z => ha a (by simp [e, z]), datK_st k r h2 fun a z => ha a (by simp [e, z])⟩
end
def dat (v : V) (d : PyData) : SP where
  P := fun H A => datP H v d A
  dom := fun H A h => datP_dom d h
  st := fun H H' A h e k => datP_st k d h e
def dats (vs : List V) (ds : List PyData) : SP where
  P := fun H A => datA H vs ds A
  dom := fun H A h => datA_dom ds h
  st := fun H H' A h e k => datA_st k ds h e
def datk (ks : List (Key × V)) (kvs : List (PyData × PyData)) : SP where
  P := fun H A => datK H ks kvs A
  dom := fun H A h => datK_dom kvs h
  st := fun H H' A h e k => datK_st k kvs h e

section
variable {H : Hp} {F : List SP} {v : V} {vs : List V} {d : PyData} {ds : List PyData} {a : Addr}
theorem dat_of {φ : Prop} {p : SP} (h : ∀ A, p.P H A ↔ A = [] ∧ φ) : Star H (p :: F) ↔ φ ∧ Star H F :=
  ⟨fun S => by
    obtain ⟨A1, A2, n, h1, h2⟩ := Star.split.mp S
    exact ⟨((h A1).mp h1).2, S.tail⟩, fun ⟨hp, A, n, hA⟩ => Star.split.mpr ⟨[], A, n, (h []).mpr ⟨rfl, hp⟩, hA⟩⟩
theorem dat_n : Star H (dat v .none :: F) ↔ v = .non ∧ Star H F := dat_of fun A => by show datP H v .none A ↔ _; unfold datP; exact Iff.rfl
theorem dat_b {b : Bool} : Star H (dat v (.bool b) :: F) ↔ v = .bl b ∧ Star H F := dat_of fun A => by show datP H v (.bool b) A ↔ _; unfold datP; exact Iff.rfl
theorem dat_i {i : Int} : Star H (dat v (.int i) :: F) ↔ v = .int i ∧ Star H F := dat_of fun A => by show datP H v (.int i) A ↔ _; unfold datP; exact Iff.rfl
theorem dat_s {x : Str} : Star H (dat v (.str x) :: F) ↔ v = .str x ∧ Star H F := dat_of fun A => by show datP H v (.str x) A ↔ _; unfold datP; exact Iff.rfl
theorem dat_l : Star H (dat v (.list ds) :: F) ↔ ∃ a xs, v = .ref a ∧ Star H (pt a (.lst xs) :: dats xs ds :: F) := by
  constructor
  · intro S
    obtain ⟨A1, A2, n, h1, h2⟩ := Star.split.mp S
    have h1 : datP H v (.list ds) A1 := h1
    unfold datP at h1
    obtain ⟨a, xs, A', e1, e, ha, hs⟩ := h1
    subst e
    exact ⟨a, xs, e1, _, n, [a], A' ++ A2, rfl, ⟨rfl, ha, id⟩, A', A2, rfl, hs, h2⟩
  · rintro ⟨a, xs, e1, _, n, _, _, rfl, ⟨rfl, ha, _⟩, A', A2, rfl, hs, h2⟩
    refine Star.split.mpr ⟨a :: A', A2, n, ?_, h2⟩
    show datP H v (.list ds) (a :: A')
    unfold datP
    exact ⟨a, xs, A', e1, rfl, ha, hs⟩
theorem dat_t : Star H (dat v (.tuple ds) :: F) ↔ ∃ a xs, v = .ref a ∧ Star H (fx a (.tup xs) :: dats xs ds :: F) := by
  constructor
  · intro S
    obtain ⟨A1, A2, n, h1, h2⟩ := Star.split.mp S
    have h1 : datP H v (.tuple ds) A1 := h1
    unfold datP at h1
    obtain ⟨a, xs, e1, ha, hs⟩ := h1
    exact ⟨a, xs, e1, _, n, [], A1 ++ A2, rfl, ⟨rfl, ha, True.intro⟩, A1, A2, rfl, hs, h2⟩
  · rintro ⟨a, xs, e1, _, n, _, _, rfl, ⟨rfl, ha, _⟩, A', A2, rfl, hs, h2⟩
    refine Star.split.mpr ⟨A', A2, n, ?_, h2⟩
    show datP H v (.tuple ds) A'
    unfold datP
    exact ⟨a, xs, e1, ha, hs⟩
theorem dat_k {kvs : List (PyData × PyData)} : Star H (dat v (.dict kvs) :: F) ↔ ∃ a ks, v = .ref a ∧ Star H (pt a (.dK ks) :: datk ks kvs :: F) := by
  constructor
  · intro S
    obtain ⟨A1, A2, n, h1, h2⟩ := Star.split.mp S
    have h1 : datP H v (.dict kvs) A1 := h1
    unfold datP at h1
    obtain ⟨a, ks, A', e1, e, ha, hs⟩ := h1
    subst e
    exact ⟨a, ks, e1, _, n, [a], A' ++ A2, rfl, ⟨rfl, ha, id⟩, A', A2, rfl, hs, h2⟩
  · rintro ⟨a, ks, e1, _, n, _, _, rfl, ⟨rfl, ha, _⟩, A', A2, rfl, hs, h2⟩
    refine Star.split.mpr ⟨a :: A', A2, n, ?_, h2⟩
    show datP H v (.dict kvs) (a :: A')
    unfold datP
    exact ⟨a, ks, A', e1, rfl, ha, hs⟩
theorem datk_n {ks : List (Key × V)} : Star H (datk ks [] :: F) ↔ ks = [] ∧ Star H F := dat_of fun A => by show datK H ks [] A ↔ _; unfold datK; exact Iff.rfl
theorem datk_c {ks : List (Key × V)} {p : PyData × PyData} {r : List (PyData × PyData)} : Star H (datk ks (p :: r) :: F) ↔ ∃ k v t, ks = (k, v) :: t ∧ p.1 = kD k ∧ Star H (dat v p.2 :: datk t r :: F) := by
  constructor
  · intro S
    obtain ⟨A1, A2, n, h1, h2⟩ := Star.split.mp S
    have h1 : datK H ks (p :: r) A1 := h1
    unfold datK at h1
    obtain ⟨k, v, t, B1, B2, e1, e2, e, hv, hr⟩ := h1
    subst e
    exact ⟨k, v, t, e1, e2, _, n, B1, B2 ++ A2, by simp, hv, B2, A2, rfl, hr, h2⟩
  · rintro ⟨k, v, t, e1, e2, _, n, B1, _, rfl, hv, B2, A2, rfl, hr, h2⟩
    refine Star.split.mpr ⟨B1 ++ B2, A2, by simpa using n, ?_, h2⟩
    show datK H ks (p :: r) (B1 ++ B2)
    unfold datK
    exact ⟨k, v, t, B1, B2, e1, e2, rfl, hv, hr⟩
theorem dat_d : Star H (dat v (.dict []) :: F) ↔ ∃ a, v = .ref a ∧ Star H (pt a (.dK []) :: F) := by
  rw [dat_k]
  constructor
  · rintro ⟨a, ks, e, S⟩
    obtain ⟨e2, S2⟩ := datk_n.mp S.p1
    subst e2
    exact ⟨a, e, S2⟩
  · rintro ⟨a, e, S⟩
    have T : Star H (datk [] [] :: pt a (.dK []) :: F) := datk_n.mpr ⟨rfl, S⟩
    exact ⟨a, [], e, T.p1⟩
theorem dat_d0 (S : Star H (dat (.ref a) (.dict []) :: F)) : Star H (pt a (.dK []) :: F) := by
  obtain ⟨a', e, S2⟩ := dat_d.mp S
  cases e
  exact S2
theorem dats_n : Star H (dats vs [] :: F) ↔ vs = [] ∧ Star H F := dat_of fun A => by show datA H vs [] A ↔ _; unfold datA; exact Iff.rfl
theorem dats_c : Star H (dats vs (d :: ds) :: F) ↔ ∃ v r, vs = v :: r ∧ Star H (dat v d :: dats r ds :: F) := by
  constructor
  · intro S
    obtain ⟨A1, A2, n, h1, h2⟩ := Star.split.mp S
    have h1 : datA H vs (d :: ds) A1 := h1
    unfold datA at h1
    obtain ⟨v, r, B1, B2, e1, e, hv, hr⟩ := h1
    subst e
    exact ⟨v, r, e1, _, n, B1, B2 ++ A2, by simp, hv, B2, A2, rfl, hr, h2⟩
  · rintro ⟨v, r, e1, _, n, B1, _, rfl, hv, B2, A2, rfl, hr, h2⟩
    refine Star.split.mpr ⟨B1 ++ B2, A2, by simpa using n, ?_, h2⟩
    show datA H vs (d :: ds) (B1 ++ B2)
    unfold datA
    exact ⟨v, r, B1, B2, e1, rfl, hv, hr⟩
theorem dats_len : ∀ {ds : List PyData} {vs : List V} {A : List Addr}, datA H vs ds A → vs.length = ds.length
  | [], vs, A, h => by
    unfold datA at h
    rw [h.2]
    rfl
  | d :: ds, vs, A, h => by
    unfold datA at h
    obtain ⟨v, r, A1, A2, e, _, _, h2⟩ := h
    rw [e, List.length_cons, List.length_cons, dats_len h2]
theorem Star.dlen (S : Star H (dats vs ds :: F)) : vs.length = ds.length := by
  obtain ⟨A1, A2, n, h1, h2⟩ := Star.split.mp S
  exact dats_len h1
/-- the i-th item taken out, put back -/
theorem datA_at {H H' : Hp} : ∀ (i : Nat) {ds : List PyData} {vs : List V} {A : List Addr} {d : PyData}, datA H vs ds A → ds[i]? = some d →
    ∃ v A1 A2 A3, vs[i]? = some v ∧ A = A1 ++ A2 ++ A3 ∧ datP H v d A2 ∧ ∀ H' v' d' B, datP H' v' d' B → Keep H H' → (∀ a ∈ A1 ++ A3, H' a = H a) → datA H' (vs.set i v') (ds.set i d') (A1 ++ B ++ A3)
  | i, [], vs, A, d, h, e => by cases i <;> cases e
  | 0, d0 :: ds, vs, A, d, h, e => by
    cases e
    unfold datA at h
    obtain ⟨v, r, A1, A2, e1, e2, h1, h2⟩ := h
    subst e1 e2
    refine ⟨v, [], A1, A2, rfl, by simp, h1, fun H' v' d' B hB k ha => ?_⟩
    show datA H' (v' :: r) (d' :: ds) ([] ++ B ++ A2)
    unfold datA
    exact ⟨v', r, B, A2, rfl, by simp, hB, datA_st k ds h2 fun a z => ha a (by simp [z])⟩
  | i + 1, d0 :: ds, vs, A, d, h, e => by
    unfold datA at h
    obtain ⟨v, r, A1, A2, e1, e2, h1, h2⟩ := h
    subst e1 e2
    have e' : ds[i]? = some d := by simpa using e
    obtain ⟨w, B1, B2, B3, f1, f2, f3, f4⟩ := datA_at (H' := H') i h2 e'
    subst f2
    refine ⟨w, A1 ++ B1, B2, B3, by simpa using f1, by simp, f3, fun H' v' d' B hB k ha => ?_⟩
    show datA H' (v :: r.set i v') (d0 :: ds.set i d') (A1 ++ B1 ++ B ++ B3)
    unfold datA
    exact ⟨v, _, A1, B1 ++ B ++ B3, rfl, by simp, datP_st k d0 h1 fun a z => ha a (by simp [z]), f4 H' v' d' B hB k fun a z => ha a (by
      rcases List.mem_append.mp z with y | y
      · simp [y]
      · simp [y])⟩
/-- the rest, with a hole at i -/
def hole (vs : List V) (ds : List PyData) (i : Nat) : SP where
  P := fun H A => ∃ A1 A3, A = A1 ++ A3 ∧ (∀ a ∈ A, H a ≠ none ∧ ¬ isFix (H a)) ∧ ∀ H' v' d' B, datP H' v' d' B → Keep H H' → (∀ a ∈ A, H' a = H a) → datA H' (vs.set i v') (ds.set i d') (A1 ++ B ++ A3)
  dom := fun H A ⟨_, _, _, h, _⟩ => h
  st := fun H H' A ⟨A1, A3, e, h, f⟩ k q => ⟨A1, A3, e, fun a ha => by rw [k a ha]; exact h a ha, fun H2 v' d' B hB k2 h2 => f H2 v' d' B hB (q.trans k2) fun a ha => (h2 a ha).trans (k a ha)⟩
theorem Star.take (S : Star H (dats vs ds :: F)) {i : Nat} (e : ds[i]? = some d) : ∃ v, vs[i]? = some v ∧ Star H (dat v d :: hole vs ds i :: F) := by
  obtain ⟨A, A', n, h1, h2⟩ := Star.split.mp S
  obtain ⟨v, A1, A2, A3, e1, e2, h3, h4⟩ := datA_at (H' := H) i h1 e
  subst e2
  have dm : ∀ a ∈ A1 ++ A3, H a ≠ none ∧ ¬ isFix (H a) := fun a ha => datA_dom ds h1 a (by
    rcases List.mem_append.mp ha with y | y
    · simp [y]
    · simp [y])
  have pm : (A1 ++ A2 ++ A3 ++ A').Perm (A2 ++ (A1 ++ A3 ++ A')) := by
    have p1 : (A1 ++ A2).Perm (A2 ++ A1) := List.perm_append_comm
    have p2 := (p1.append_right A3).append_right A'
    simpa [List.append_assoc] using p2
  exact ⟨v, e1, _, pm.nodup_iff.mp n, A2, A1 ++ A3 ++ A', rfl, h3, A1 ++ A3, A', rfl, ⟨A1, A3, rfl, dm, fun H' v' d' B hB k ha => h4 H' v' d' B hB k ha⟩, h2⟩
theorem Star.back {i : Nat} {v' : V} {d' : PyData} (S : Star H (dat v' d' :: hole vs ds i :: F)) : Star H (dats (vs.set i v') (ds.set i d') :: F) := by
  obtain ⟨_, n, A2, _, rfl, h3, _, A', rfl, ⟨A1, A3, rfl, dm, f⟩, h2⟩ := S
  have h := f H v' d' A2 h3 (Keep.refl H) fun _ _ => rfl
  have pm : (A2 ++ (A1 ++ A3 ++ A')).Perm (A1 ++ A2 ++ A3 ++ A') := by
    have p1 : (A2 ++ A1).Perm (A1 ++ A2) := List.perm_append_comm
    have p2 := (p1.append_right A3).append_right A'
    simpa [List.append_assoc] using p2
  exact Star.split.mpr ⟨A1 ++ A2 ++ A3, A', pm.nodup_iff.mp n, h, h2⟩
theorem set_same {α : Type} : ∀ {l : List α} {i : Nat} {x : α}, l[i]? = some x → l.set i x = l
  | [], _, _, h => by simp at h
  | y :: l, 0, x, h => by
    have e : y = x := by simpa using h
    rw [e]
    rfl
  | y :: l, i + 1, x, h => by
    have e : l[i]? = some x := by simpa using h
    show y :: l.set i x = y :: l
    rw [set_same e]
/-- put back as it was -/
theorem Star.back0 {i : Nat} (e1 : vs[i]? = some v) (e2 : ds[i]? = some d) (S : Star H (dat v d :: hole vs ds i :: F)) : Star H (dats vs ds :: F) := by
  have h := S.back
  rw [set_same e1, set_same e2] at h
  exact h
end
mutual
theorem datP_dp {K : PySem.W.Frag} {H : Hp} : ∀ (d : PyData) {v : V} {A : List Addr}, datP H v d A → d.hasDict = false → Dp K H v d
  | .none, _, _, h, _ => by rw [h.2]; exact .non
  | .bool _, _, _, h, _ => by rw [h.2]; exact .bl _
  | .int _, _, _, h, _ => by rw [h.2]; exact .int _
  | .str _, _, _, h, _ => by rw [h.2]; exact .str _
  | .list ds, _, _, ⟨b, xs, A', e1, e, hb, hs⟩, hd => by
    rw [e1]
    exact .lst (SqL.of hb) (datA_dp ds hs (by simpa only [PyData.hasDict] using hd))
  | .tuple ds, _, _, ⟨b, xs, e1, hb, hs⟩, hd => by
    rw [e1]
    exact .tup (SqT.of hb) (datA_dp ds hs (by simpa only [PyData.hasDict] using hd))
  | .dict _, _, _, _, hd => by simp only [PyData.hasDict] at hd; cases hd
theorem datA_dp {K : PySem.W.Frag} {H : Hp} : ∀ (ds : List PyData) {vs : List V} {A : List Addr}, datA H vs ds A → PyData.hasDictAll ds = false → DpAll K H vs ds
  | [], _, _, h, _ => by rw [h.2]; exact .nil
  | d :: ds, _, _, ⟨v, r, A1, A2, e1, e, h1, h2⟩, hd => by
    rw [e1]
    simp only [PyData.hasDictAll, Bool.or_eq_false_iff] at hd
    exact .cons (datP_dp d h1 hd.1) (datA_dp ds h2 hd.2)
end
mutual
theorem datP_rp {K : PySem.W.Frag} {H : Hp} : ∀ (d : PyData) {v : V} {A : List Addr}, datP H v d A → Rp K H v d
  | .none, _, _, h => h.2
  | .bool _, _, _, h => h.2
  | .int _, _, _, h => h.2
  | .str _, _, _, h => h.2
  | .list ds, _, _, ⟨b, xs, A', e1, e, hb, hs⟩ => ⟨b, xs, e1, SqL.of hb, datA_rp ds hs⟩
  | .tuple ds, _, _, ⟨b, xs, e1, hb, hs⟩ => ⟨b, xs, e1, SqT.of hb, datA_rp ds hs⟩
  | .dict kvs, _, _, ⟨b, ks, A', e1, e, hb, hs⟩ => ⟨b, ks, e1, hb, datK_rp kvs hs⟩
theorem datA_rp {K : PySem.W.Frag} {H : Hp} : ∀ (ds : List PyData) {vs : List V} {A : List Addr}, datA H vs ds A → RpA K H vs ds
  | [], _, _, h => h.2
  | d :: ds, _, _, ⟨v, r, A1, A2, e1, e, h1, h2⟩ => ⟨v, r, e1, datP_rp d h1, datA_rp ds h2⟩
theorem datK_rp {K : PySem.W.Frag} {H : Hp} : ∀ (kvs : List (PyData × PyData)) {ks : List (Key × V)} {A : List Addr}, datK H ks kvs A → RpK K H ks kvs
  | [], _, _, h => h.2
  | p :: r, _, _, ⟨k, v, t, A1, A2, e1, e2, e, h1, h2⟩ => ⟨k, v, t, e1, e2, datP_rp p.2 h1, datK_rp r h2⟩
end
section
variable {K : PySem.W.Frag} {H : Hp} {F : List SP} {v u : V} {d e : PyData} {Q : VK}
theorem Star.dp (S : Star H (dat v d :: F)) (h : d.hasDict = false) : Dp K H v d := by
  obtain ⟨A1, A2, n, h1, h2⟩ := Star.split.mp S
  exact datP_dp d h1 h
/-- repr of data -/
theorem repr_D (S : Star H (dat v d :: F)) (ok : RepOk d) (q : Q (.str d.shown) H) : reprX K v H Q := by
  obtain ⟨A1, A2, n, h1, h2⟩ := Star.split.mp S
  exact repr_d (datP_rp d h1) ok q
end
end MK

namespace MK
open PySem PySem.Spec PyProof.Rows L2

/-! ### comprehensions whose element and test leave all as it is -/
section
variable {K : PySem.W.Frag} {H : Hp} {J : It} {G : Hp → Prop} {xs : List V} {te : TE} {tt : TT} {vs : List Nat} {σ : L2.St} {D : Addr} {Q : VK} {ps : List SP} {f : Nat → V} {p : Nat → Bool}
theorem ranges_succ (i : Nat) : List.range (i + 1) = List.range i ++ [i] := List.range_succ
theorem fm_len (f : Nat → V) (p : Nat → Bool) (i : Nat) : (((List.range i).filter p).map f).length ≤ i := by
  rw [List.length_map]
  exact Nat.le_trans (List.length_filter_le _ _) (by rw [List.length_range]; exact Nat.le_refl _)
theorem lc_filter {g : TG} (gx : V → L2.St) (hg : ∀ x H Q, Q (gx x) H → g x (wipe σ vs) H Q) (w : Walk J xs.length G (YAt xs)) (hz : xs.length ≤ 16777216) (hn : H D = none) (S : Star H ps) (hG : ∀ H1 acc, Star H1 (pt D (.lst acc) :: ps) → G H1) (hw : ∀ x, wipe (gx x) vs = wipe σ vs)
    (ht : ∀ i x H1 acc (R : Bool → Hp → Prop), xs[i]? = some x → Star H1 (pt D (.lst acc) :: ps) → (∀ H2, Star H2 (pt D (.lst acc) :: ps) → R (p i) H2) → tt (gx x) H1 R)
    (he : ∀ i x H1 acc (R : VK), xs[i]? = some x → p i = true → Star H1 (pt D (.lst acc) :: ps) → (∀ H2, Star H2 (pt D (.lst acc) :: ps) → R (f i) H2) → te (gx x) H1 R)
    (q : ∀ H1, Star H1 (pt D (.lst (((List.range xs.length).filter p).map f)) :: ps) → Q (.ref D) H1) : LoopC J g tt te vs σ D H Q := by
  refine LoopC.it w (fun i H1 => Star H1 (pt D (.lst (((List.range i).filter p).map f)) :: ps)) (S.newL hn) (fun i H1 _ S1 => hG _ _ S1) ?_ (fun H1 S1 => q H1 S1)
  rintro i x H1 H2 hi S1 ⟨rfl, hx⟩
  refine hg _ _ _ ⟨hw x, ht i x _ _ _ hx S1 fun H3 S3 => ?_⟩
  cases hp : p i with
  | false =>
    rw [if_neg Bool.false_ne_true, ranges_succ, List.filter_append, List.filter_cons_of_neg (by simp [hp]), List.filter_nil, List.append_nil]
    exact S3
  | true =>
    rw [if_pos rfl]
    refine he i x _ _ _ hx hp S3 fun H4 S4 => ⟨_, S4.get, ?_, ?_⟩
    · have h1 := fm_len f p i
      rw [sizeLine_eq]
      omega
    · rw [ranges_succ, List.filter_append, List.filter_cons_of_pos hp, List.filter_nil, List.map_append, List.map_cons, List.map_nil]
      exact S4.updL
theorem filt_true {α : Type} (l : List α) : l.filter (fun _ => true) = l := List.filter_eq_self.mpr fun _ _ => rfl
theorem lc_map {g : TG} (gx : V → L2.St) (hg : ∀ x H Q, Q (gx x) H → g x (wipe σ vs) H Q) (w : Walk J xs.length G (YAt xs)) (hz : xs.length ≤ 16777216) (hn : H D = none) (S : Star H ps) (hG : ∀ H1 acc, Star H1 (pt D (.lst acc) :: ps) → G H1) (hw : ∀ x, wipe (gx x) vs = wipe σ vs)
    (he : ∀ i x H1 acc (R : VK), xs[i]? = some x → Star H1 (pt D (.lst acc) :: ps) → (∀ H2, Star H2 (pt D (.lst acc) :: ps) → R (f i) H2) → te (gx x) H1 R)
    (q : ∀ H1, Star H1 (pt D (.lst ((List.range xs.length).map f)) :: ps) → Q (.ref D) H1) : LoopC J g tYes te vs σ D H Q :=
  lc_filter (p := fun _ => true) gx hg w hz hn S hG hw (fun i x H1 acc R _ S1 k => k H1 S1) (fun i x H1 acc R hx _ S1 k => he i x H1 acc R hx S1 k) (by rw [filt_true]; exact q)
theorem walk_rng {lo : Int} {n : Nat} : Walk (Itr lo n) ((List.range n).map fun i => V.int (lo + (i : Nat))).length (fun _ => True) (YAt ((List.range n).map fun i => V.int (lo + (i : Nat)))) := by
  rw [List.length_map, List.length_range]
  refine walk_range.mono (fun _ h => h) ?_
  rintro i H x H' hi _ ⟨e1, e2⟩
  refine ⟨e1, ?_⟩
  rw [List.getElem?_map, List.getElem?_range hi]
  exact congrArg some e2.symm
/-- a comprehension whose turns change what holds, told by the turn and the list so far -/
theorem lc_turns {g : TG} (gx : V → L2.St) (hg : ∀ x H Q, Q (gx x) H → g x (wipe σ vs) H Q) (w : Walk J xs.length G (YAt xs)) (hz : xs.length ≤ 16777216) (hn : H D = none) (ps : Nat → List V → List SP) (S : Star H (ps 0 []))
    (hG : ∀ i acc H1, Star H1 (pt D (.lst acc) :: ps i acc) → G H1) (hw : ∀ x, wipe (gx x) vs = wipe σ vs)
    (he : ∀ i x H1 acc (R : VK), xs[i]? = some x → acc.length = i → Star H1 (pt D (.lst acc) :: ps i acc) → (∀ y H2, Star H2 (pt D (.lst acc) :: ps (i + 1) (acc ++ [y])) → R y H2) → te (gx x) H1 R)
    (q : ∀ H1 acc, acc.length = xs.length → Star H1 (pt D (.lst acc) :: ps xs.length acc) → Q (.ref D) H1) : LoopC J g tYes te vs σ D H Q := by
  refine LoopC.it w (fun i H1 => ∃ acc, acc.length = i ∧ Star H1 (pt D (.lst acc) :: ps i acc)) ⟨[], rfl, S.newL hn⟩ (fun i H1 _ ⟨acc, _, h⟩ => hG _ _ _ h) ?_ (fun H1 ⟨acc, h1, h2⟩ => q H1 acc h1 h2)
  rintro i x H1 H2 hi ⟨acc, ha, h1⟩ ⟨rfl, hx⟩
  refine hg _ _ _ ⟨hw x, ?_⟩
  unfold tYes
  show (if true = true then te (gx x) _ _ else _)
  rw [if_pos rfl]
  refine he i x _ acc _ hx ha h1 fun y H4 S4 => ⟨acc, S4.get, ?_, acc ++ [y], by simp [ha], S4.updL⟩
  rw [sizeLine_eq]
  omega
end
theorem all_no {α : Type} {ds : List α} {i : Nat} {e : α} {f : α → Bool} (he : ds[i]? = some e) (h : f e = false) : ds.all f = false := by
  cases z : ds.all f with
  | false => rfl
  | true =>
    have := List.all_eq_true.mp z e (List.mem_of_getElem? he)
    rw [h] at this
    cases this
theorem all_yes {α : Type} {ds : List α} {f : α → Bool} (h : ∀ (i : Nat) (x : α), ds[i]? = some x → f x = true) : ds.all f = true := by
  refine List.all_eq_true.mpr fun x hx => ?_
  obtain ⟨i, hi, e⟩ := List.mem_iff_getElem.mp hx
  exact h i x (by rw [List.getElem?_eq_getElem hi, e])
theorem all_map {n : Nat} (f : Nat → Bool) : (((List.range n).map f).map V.bl) = (List.range n).map fun i => V.bl (f i) := by rw [List.map_map]; rfl
theorem all_range {α : Type} (xs : List α) (f : Nat → Bool) (g : α → Bool) (h : ∀ i x, xs[i]? = some x → f i = g x) : ((List.range xs.length).map f).all id = xs.all g := by
  rw [List.all_map]
  rw [Bool.eq_iff_iff, List.all_eq_true, List.all_eq_true]
  constructor
  · intro z x hx
    obtain ⟨i, hi, e⟩ := List.mem_iff_getElem.mp hx
    have := z i (List.mem_range.mpr hi)
    rw [← h i x (by rw [List.getElem?_eq_getElem hi, e])]
    exact this
  · intro z i hi
    have hi' := List.mem_range.mp hi
    show id (f i) = true
    rw [h i _ (List.getElem?_eq_getElem hi')]
    exact z _ (List.getElem_mem hi')
end MK

namespace MK
open PySem PySem.Spec PyProof.Rows L2

/-! ### data whose text is short -/
structure Ni (n m : Nat) (d : PyData) : Prop where
  sh : d.showable = true
  dp : d.depth ≤ n
  sm : d.leavesShort 64 = true
  bk : d.bulk ≤ m
theorem Ni.mono {n m n' m' : Nat} {d : PyData} (h : Ni n m d) (a : n ≤ n') (b : m ≤ m') : Ni n' m' d := ⟨h.sh, Nat.le_trans h.dp a, h.sm, Nat.le_trans h.bk b⟩
theorem Ni.rep {n m : Nat} {d : PyData} (h : Ni n m d) (a : n ≤ 60 := by decide) (b : m ≤ 200000 := by decide) : RepOk d := ⟨h.sh, Nat.le_trans h.dp a, h.sm, Nat.le_trans h.bk b⟩
/-- data without dicts, which == goes over -/
def Pl (d : PyData) : Prop := d.canLay0 = true
theorem Pl.nd {d : PyData} (h : Pl d) : d.hasDict = false := PyData.hasDict_of_canLay d h
theorem Ni.shd {n m : Nat} {d : PyData} (h : Ni n m d) (p : Pl d) (a : n ≤ 64 := by decide) : SeqAt.shaped d = true := by
  have z : (d.canLay0 && decide (d.depth ≤ 64)) = true := by rw [show d.canLay0 = true from p, Bool.true_and, decide_eq_true_eq]; exact Nat.le_trans h.dp a
  exact z
theorem pl_all : ∀ {ds : List PyData}, (∀ d ∈ ds, Pl d) → PyData.canLayAll0 ds = true
  | [], _ => rfl
  | d :: ds, h => by
    have a : d.canLay0 = true := h d List.mem_cons_self
    simp only [PyData.canLayAll0, a, pl_all (ds := ds) fun x hx => h x (List.mem_cons_of_mem _ hx), Bool.and_self]
theorem pl_l {ds : List PyData} (h : ∀ d ∈ ds, Pl d) : Pl (.list ds) := by
  show PyData.canLay0 (.list ds) = true
  simp only [PyData.canLay0, pl_all h]
theorem pl_t {ds : List PyData} (h : ∀ d ∈ ds, Pl d) : Pl (.tuple ds) := by
  show PyData.canLay0 (.tuple ds) = true
  simp only [PyData.canLay0, pl_all h]
theorem ni_n {n m : Nat} : Ni n m .none := ⟨rfl, Nat.zero_le _, rfl, Nat.zero_le _⟩
theorem ni_b {n m : Nat} (b : Bool) : Ni n m (.bool b) := ⟨rfl, Nat.zero_le _, rfl, Nat.zero_le _⟩
theorem ten60 : (10 : Nat) ^ 60 < 2 ^ 1920 := by
  have h : (10 : Nat) ^ 60 < 2 ^ 200 := by decide
  exact Nat.lt_of_lt_of_le h (Nat.pow_le_pow_right (by decide) (by decide))
theorem ni_i {n m : Nat} {i : Int} (h : -1000000000000000000000000000000000000000000000000000000000000 < i ∧ i < 1000000000000000000000000000000000000000000000000000000000000) : Ni n m (.int i) := by
  have e : i.natAbs < 10 ^ 60 := by
    have e60 : (10 : Nat) ^ 60 = 1000000000000000000000000000000000000000000000000000000000000 := by decide
    rw [e60]
    omega
  refine ⟨?_, Nat.zero_le _, ?_, Nat.zero_le _⟩
  · simp only [PyData.showable, decide_eq_true_eq]
    by_cases z : i.natAbs = 0
    · rw [z]
      decide
    · exact (Nat.log2_lt z).mpr (Nat.lt_trans e ten60)
  · simp only [PyData.leavesShort, decide_eq_true_eq]
    have e2 := int_text_length_le10 (k := 60) (by decide) e
    show (Str.ofString (toString i)).length ≤ 64
    rw [PySem.ofString_length]
    omega
theorem ni_s {n m : Nat} {x : Str} (h : PyData.canLay0 (.str x) = true) (h2 : x.cps.size ≤ m) : Ni n m (.str x) :=
  ⟨rfl, Nat.zero_le _, PyData.leavesShort_of_canLay0 64 _ h rfl, by simpa only [PyData.bulk] using h2⟩
theorem ni_all {n m : Nat} : ∀ {ds : List PyData}, (∀ d ∈ ds, Ni n m d) → PyData.showableAll ds = true ∧ PyData.depthAll ds ≤ n ∧ PyData.leavesShortAll 64 ds = true ∧ PyData.bulkAll ds ≤ ds.length * (m + 1)
  | [], _ => ⟨rfl, Nat.zero_le _, rfl, Nat.zero_le _⟩
  | d :: ds, h => by
    obtain ⟨a1, a3, a4, a5⟩ := ni_all (ds := ds) fun x hx => h x (List.mem_cons_of_mem _ hx)
    have z := h d List.mem_cons_self
    refine ⟨?_, ?_, ?_, ?_⟩
    · simp only [PyData.showableAll, z.sh, a1, Bool.and_self]
    · simp only [PyData.depthAll]
      exact Nat.max_le.mpr ⟨z.dp, a3⟩
    · simp only [PyData.leavesShortAll, z.sm, a4, Bool.and_self]
    · simp only [PyData.bulkAll, List.length_cons, Nat.add_mul]
      have := z.bk
      omega
theorem ni_l {n m n' m' : Nat} {ds : List PyData} (h : ∀ d ∈ ds, Ni n m d) (e : n + 1 ≤ n') (z : ds.length * (m + 1) ≤ m') : Ni n' m' (.list ds) := by
  obtain ⟨a1, a3, a4, a5⟩ := ni_all h
  exact ⟨by simpa only [PyData.showable] using a1, by simp only [PyData.depth]; omega, by simpa only [PyData.leavesShort] using a4, by simp only [PyData.bulk]; omega⟩
theorem ni_t {n m n' m' : Nat} {ds : List PyData} (h : ∀ d ∈ ds, Ni n m d) (e : n + 1 ≤ n') (z : ds.length * (m + 1) ≤ m') : Ni n' m' (.tuple ds) := by
  obtain ⟨a1, a3, a4, a5⟩ := ni_all h
  exact ⟨by simpa only [PyData.showable] using a1, by simp only [PyData.depth]; omega, by simpa only [PyData.leavesShort] using a4, by simp only [PyData.bulk]; omega⟩
theorem fa0 {P : PyData → Prop} : ∀ d ∈ ([] : List PyData), P d := fun d h => by cases h
theorem fa1 {P : PyData → Prop} {x : PyData} {xs : List PyData} (h : P x) (t : ∀ d ∈ xs, P d) : ∀ d ∈ x :: xs, P d := fun d hd => by
  rcases List.mem_cons.mp hd with e | e
  · rw [e]
    exact h
  · exact t d e
/-- one of the items, which we are not told -/
theorem ix_m {K : PySem.W.Frag} {H : Hp} {Q : VK} {a : Addr} {xs : List V} {i : Int} (h : H a = some (.lst xs)) (h0 : 0 ≤ i) (h1 : i < (xs.length : Nat)) (q : ∀ v, v ∈ xs → Q v H) : ixX K (.ref a) (.int i) H Q := by
  obtain ⟨j, rfl⟩ := Int.eq_ofNat_of_zero_le h0
  have hj : j < xs.length := by omega
  exact ix_l h (atI_nat (List.getElem?_eq_getElem hj)) (q _ (List.getElem_mem hj))
theorem ix_n {K : PySem.W.Frag} {H : Hp} {Q : VK} {a : Addr} {xs : List V} {i : Int} (h : H a = some (.lst xs)) (h0 : 0 ≤ i) (h1 : i < (xs.length : Nat)) (q : ∀ (j : Nat) v, i = j → xs[j]? = some v → Q v H) : ixX K (.ref a) (.int i) H Q := by
  obtain ⟨j, rfl⟩ := Int.eq_ofNat_of_zero_le h0
  have hj : j < xs.length := by omega
  exact ix_l h (atI_nat (List.getElem?_eq_getElem hj)) (q j _ rfl (List.getElem?_eq_getElem hj))
end MK

namespace MK
open PySem PySem.Spec PyProof.Rows L2

/-! ### what is held, in another order, some of it let go -/
def Fr (ps qs : List SP) : Prop := ∀ H, Star H ps → Star H qs
section
variable {H : Hp} {ps qs : List SP} {a b c d e f g h i j k p q : SP}
theorem Star.fr (S : Star H ps) (h : Fr ps qs) : Star H qs := h H S
theorem Fr.refl (ps : List SP) : Fr ps ps := fun _ S => S
theorem Fr.nil (ps : List SP) : Fr ps [] := fun H _ => Star.nil H
theorem Fr.drop (h : Fr ps qs) : Fr (p :: ps) qs := fun H S => h H S.tail
theorem Fr.c0 (h : Fr ps qs) : Fr (q :: ps) (q :: qs) := fun H S => by
  classical
  obtain ⟨A1, A2, n, h1, h2⟩ := Star.split.mp S
  obtain ⟨B, nb, hb⟩ := h H ⟨A2, (List.nodup_append.mp n).2.1, h2⟩
  -- the rest may let go of some: what stays is told by the heap cut to A2
  let H' : Hp := fun x => if x ∈ A1 ∧ ¬ isFix (H x) then none else H x
  have keep : Keep H H' := fun x hx => if_neg fun z => z.2 hx
  have h2' : SL H' ps A2 := h2.st keep fun x hx => if_neg fun z => (List.nodup_append.mp n).2.2 x z.1 x hx rfl
  obtain ⟨C, nc, hc⟩ := h H' ⟨A2, (List.nodup_append.mp n).2.1, h2'⟩
  have dis : ∀ x ∈ A1, x ∉ C := fun x hx hC => (hc.dom x hC).1 (if_pos ⟨hx, (q.dom _ _ h1 x hx).2⟩)
  have back : Keep H' H := fun x hx => by
    by_cases z : x ∈ A1 ∧ ¬ isFix (H x)
    · have e : H' x = none := if_pos z
      rw [e] at hx
      exact hx.elim
    · exact (if_neg z).symm
  have hc2 : SL H qs C := hc.st back fun x hx => by
    have : ¬ (x ∈ A1 ∧ ¬ isFix (H x)) := fun z => dis x z.1 hx
    exact (if_neg this).symm
  exact Star.split.mpr ⟨A1, C, List.nodup_append.mpr ⟨(List.nodup_append.mp n).1, nc, fun x hx y hy e => dis x hx (e ▸ hy)⟩, h1, hc2⟩
theorem Fr.c1 (h : Fr (a :: ps) qs) : Fr (a :: q :: ps) (q :: qs) := fun H S => Fr.c0 h H S.p1
theorem Fr.c2 (h : Fr (a :: b :: ps) qs) : Fr (a :: b :: q :: ps) (q :: qs) := fun H S => Fr.c0 h H S.p2
theorem Fr.c3 (h : Fr (a :: b :: c :: ps) qs) : Fr (a :: b :: c :: q :: ps) (q :: qs) := fun H S => Fr.c0 h H S.p3
theorem Fr.c4 (h : Fr (a :: b :: c :: d :: ps) qs) : Fr (a :: b :: c :: d :: q :: ps) (q :: qs) := fun H S => Fr.c0 h H S.p4
theorem Fr.c5 (h : Fr (a :: b :: c :: d :: e :: ps) qs) : Fr (a :: b :: c :: d :: e :: q :: ps) (q :: qs) := fun H S => Fr.c0 h H S.p5
theorem Fr.c6 (h : Fr (a :: b :: c :: d :: e :: f :: ps) qs) : Fr (a :: b :: c :: d :: e :: f :: q :: ps) (q :: qs) := fun H S => Fr.c0 h H S.p6
theorem Fr.c7 (h : Fr (a :: b :: c :: d :: e :: f :: g :: ps) qs) : Fr (a :: b :: c :: d :: e :: f :: g :: q :: ps) (q :: qs) := fun H S => Fr.c0 h H S.p7
theorem Fr.c8 (w : Fr (a :: b :: c :: d :: e :: f :: g :: h :: ps) qs) : Fr (a :: b :: c :: d :: e :: f :: g :: h :: q :: ps) (q :: qs) := fun H S => Fr.c0 w H S.p8
theorem Fr.c9 (w : Fr (a :: b :: c :: d :: e :: f :: g :: h :: i :: ps) qs) : Fr (a :: b :: c :: d :: e :: f :: g :: h :: i :: q :: ps) (q :: qs) := fun H S => Fr.c0 w H S.p9
theorem Fr.ca (w : Fr (a :: b :: c :: d :: e :: f :: g :: h :: i :: j :: ps) qs) : Fr (a :: b :: c :: d :: e :: f :: g :: h :: i :: j :: q :: ps) (q :: qs) := fun H S => Fr.c0 w H (Star.up (n := [a, b, c, d, e, f, g, h, i, j]) S)
theorem Fr.cb (w : Fr (a :: b :: c :: d :: e :: f :: g :: h :: i :: j :: k :: ps) qs) : Fr (a :: b :: c :: d :: e :: f :: g :: h :: i :: j :: k :: q :: ps) (q :: qs) := fun H S => Fr.c0 w H (Star.up (n := [a, b, c, d, e, f, g, h, i, j, k]) S)
end
/-- what holds between two statements -/
theorem seq_cut {a r : TS} {D : Ends} {σ : L2.St} {H : Hp} (P : L2.St → Hp → Prop) (ha : (∀ σ H, P σ H → r D σ H) → a { D with nx := r D } σ H) (hr : ∀ σ H, P σ H → r D σ H) : tSeq a r D σ H := ha hr
/-! data put together -/
section
variable {H : Hp} {ps qs F : List SP} {xs : List V} {ds : List PyData} {v : V} {d : PyData} {i : Int} {t : Addr} {b : Bool} {s : Str} {r : SP}
theorem Fr.trans {a b c : List SP} (h : Fr a b) (h2 : Fr b c) : Fr a c := fun H S => h2 H (h H S)
theorem Fr.tup (h : Fr ps (fx t (.tup xs) :: dats xs ds :: qs)) : Fr ps (dat (.ref t) (.tuple ds) :: qs) := fun H S => dat_t.mpr ⟨t, xs, rfl, h H S⟩
theorem Fr.lst (h : Fr ps (pt t (.lst xs) :: dats xs ds :: qs)) : Fr ps (dat (.ref t) (.list ds) :: qs) := fun H S => dat_l.mpr ⟨t, xs, rfl, h H S⟩
theorem Fr.dct (h : Fr ps (pt t (.dK []) :: qs)) : Fr ps (dat (.ref t) (.dict []) :: qs) := fun H S => dat_d.mpr ⟨t, rfl, h H S⟩
theorem Fr.dk {ks : List (Key × V)} {kvs : List (PyData × PyData)} (h : Fr ps (pt t (.dK ks) :: datk ks kvs :: qs)) : Fr ps (dat (.ref t) (.dict kvs) :: qs) := fun H S => dat_k.mpr ⟨t, ks, rfl, h H S⟩
theorem Fr.dk0 (h : Fr ps qs) : Fr ps (datk [] [] :: qs) := fun H S => datk_n.mpr ⟨rfl, h H S⟩
theorem Fr.dkc {k : Key} {ks : List (Key × V)} {kvs : List (PyData × PyData)} (h : Fr ps (dat v d :: datk ks kvs :: qs)) : Fr ps (datk ((k, v) :: ks) ((kD k, d) :: kvs) :: qs) := fun H S => datk_c.mpr ⟨k, v, ks, rfl, rfl, h H S⟩
theorem Fr.int (h : Fr ps qs) : Fr ps (dat (.int i) (.int i) :: qs) := fun H S => dat_i.mpr ⟨rfl, h H S⟩
theorem Fr.bl (h : Fr ps qs) : Fr ps (dat (.bl b) (.bool b) :: qs) := fun H S => dat_b.mpr ⟨rfl, h H S⟩
theorem Fr.non (h : Fr ps qs) : Fr ps (dat .non .none :: qs) := fun H S => dat_n.mpr ⟨rfl, h H S⟩
theorem Fr.str (h : Fr ps qs) : Fr ps (dat (.str s) (.str s) :: qs) := fun H S => dat_s.mpr ⟨rfl, h H S⟩
theorem Fr.ds0 (h : Fr ps qs) : Fr ps (dats [] [] :: qs) := fun H S => dats_n.mpr ⟨rfl, h H S⟩
theorem Fr.dsc (h : Fr ps (dat v d :: dats xs ds :: qs)) : Fr ps (dats (v :: xs) (d :: ds) :: qs) := fun H S => dats_c.mpr ⟨v, xs, rfl, h H S⟩
theorem Star.snoc : ∀ {ds : List PyData} {xs : List V} {F : List SP}, Star H (dats xs ds :: dat v d :: F) → Star H (dats (xs ++ [v]) (ds ++ [d]) :: F)
  | [], xs, F, S => by
    obtain ⟨e, S1⟩ := dats_n.mp S
    subst e
    exact dats_c.mpr ⟨v, [], rfl, Star.fr S1 (Fr.c0 (Fr.ds0 (Fr.refl _)))⟩
  | e :: ds, xs, F, S => by
    obtain ⟨x, r, q, S1⟩ := dats_c.mp S
    subst q
    have T : Star H (dats r ds :: dat v d :: dat x e :: F) := S1.fr (Fr.c1 (Fr.c1 (Fr.refl _)))
    exact dats_c.mpr ⟨x, r ++ [v], rfl, (Star.snoc T).p1⟩
theorem ixN_n {n j : Nat} (hj : j < n) : ixN n (j : Int) = some j := by
  unfold ixN
  rw [if_pos (by omega), if_pos (by omega)]
  rfl
/-- is it one of the items: whatever holds of all holds of it -/
theorem mem_get {α : Type} {xs : List α} {i : Nat} {x : α} (h : xs[i]? = some x) : x ∈ xs := List.mem_of_getElem? h
theorem mem_set {α : Type} {xs : List α} {i : Nat} {x y : α} (h : y ∈ xs.set i x) : y ∈ xs ∨ y = x := List.mem_or_eq_of_mem_set h
end
end MK

namespace MK
open PySem PySem.Spec PyProof.Rows L2

/-! ### a list or a tuple -/
def sq : Bool → Addr → List V → SP
  | true, a, xs => pt a (.lst xs)
  | false, a, xs => fx a (.tup xs)
def mkd : Bool → List PyData → PyData
  | true, ds => .list ds
  | false, ds => .tuple ds
def SqB (K : PySem.W.Frag) : Bool → Hp → Addr → List V → Prop
  | true, H, a, xs => SqL K H a xs
  | false, H, a, xs => SqT K H a xs
section
variable {K : PySem.W.Frag} {H : Hp} {F ps : List SP} {v : V} {b : Bool} {a : Addr} {xs : List V} {ds : List PyData} {Q : VK} {i : Int} {R : It → Hp → Prop}
theorem dat_sq : Star H (dat v (mkd b ds) :: F) ↔ ∃ a xs, v = .ref a ∧ Star H (sq b a xs :: dats xs ds :: F) := by
  cases b with
  | true => exact dat_l
  | false => exact dat_t
theorem Star.sqb (S : Star H (sq b a xs :: F)) : SqB K b H a xs := by
  cases b with
  | true => exact .of S.get
  | false => exact .of S.getF
theorem Star.len_sq (S : Star H (sq b a xs :: F)) (q : Q (.int (xs.length : Int)) H) : lenX K (.ref a) H Q := by
  cases b with
  | true => exact len_l S.get q
  | false => exact len_t S.getF q
theorem Star.ix_sq (S : Star H (sq b a xs :: F)) (e : atI xs i = some v) (q : Q v H) : ixX K (.ref a) (.int i) H Q := by
  cases b with
  | true => exact ix_l S.get e q
  | false => exact ix_t S.getF e q
def tyB (b : Bool) : Ty := cond b .list .tuple
theorem Star.isi_sq {T : List Ty} (S : Star H (sq b a xs :: F)) (q : Q (.bl (T.any fun u => (tyB b).is u)) H) : isiX K T (.ref a) H Q := by
  cases b with
  | true => exact isi_l S.get q
  | false => exact isi_t S.getF q
theorem Star.isi_sq2 (S : Star H (sq b a xs :: F)) (q : Q (.bl true) H) : isiX K [.list, .tuple] (.ref a) H Q := by
  cases b with
  | true => exact isi_l S.get q
  | false => exact isi_t S.getF q
theorem walk_sq : ∀ b : Bool, ∃ J, Walk J xs.length (fun H => SqB K b H a xs) (YAt xs) ∧ ∀ H R ps, Star H (sq b a xs :: ps) → R J H → iterX K (.ref a) H R
  | true => ⟨Itl K a, walk_list, fun H R ps S q => it_l S.get q⟩
  | false => ⟨Itt K a, walk_tup, fun H R ps S q => it_t S.getF q⟩
theorem Star.it_sq (S : Star H (sq b a xs :: F)) (q : ∀ J, Walk J xs.length (fun H => SqB K b H a xs) (YAt xs) → R J H) : iterX K (.ref a) H R := by
  obtain ⟨J, w, h⟩ := walk_sq (K := K) (a := a) (xs := xs) b
  exact h _ _ _ S (q J w)
theorem get_of {i : Nat} (h : i < ds.length) : ∃ d, ds[i]? = some d := ⟨_, List.getElem?_eq_getElem h⟩
theorem Fr.sqt {qs : List SP} {t : Addr} (h : Fr ps (fx t (.tup xs) :: qs)) : Fr ps (sq false t xs :: qs) := h
theorem Fr.sql {qs : List SP} {t : Addr} (h : Fr ps (pt t (.lst xs) :: qs)) : Fr ps (sq true t xs :: qs) := h
/-- [f(x) for x in xs], f a truth that leaves all as it is -/
theorem lc_bools {g : TG} {te : TE} {vs : List Nat} {σ : L2.St} (gx : V → L2.St) (f : PyData → Bool) (hg : ∀ x H Q, Q (gx x) H → g x (wipe σ vs) H Q) (hz : ds.length ≤ 16777216) (S : Star H (sq b a xs :: dats xs ds :: F)) (hw : ∀ x, wipe (gx x) vs = wipe σ vs)
    (he : ∀ (i : Nat) x d H1 D acc (R : VK), ds[i]? = some d → Star H1 (dat x d :: hole xs ds i :: pt D (.lst acc) :: sq b a xs :: F) → R (.bl (f d)) H1 → te (gx x) H1 R)
    (q : ∀ D H1, Star H1 (pt D (.lst ((ds.map f).map V.bl)) :: sq b a xs :: dats xs ds :: F) → Q (.ref D) H1) :
    iterX K (.ref a) H fun J H1 => ∀ D, H1 D = none → LoopC J g tYes te vs σ D H1 Q := by
  refine S.it_sq fun J w => ?_
  intro D hD
  have hl : xs.length = ds.length := S.p1.dlen
  refine lc_map (f := fun i => .bl (ds[i]?.elim false f)) gx hg w (by omega) hD S (fun H1 acc T => T.p1.sqb) hw ?_ ?_
  · intro i x H1 acc R hx T r
    obtain ⟨d, hd⟩ := get_of (i := i) (ds := ds) (by have := (List.getElem?_eq_some_iff.mp hx).1; omega)
    obtain ⟨v', hv, T2⟩ := T.p2.take hd
    have e2 : v' = x := by rw [hx] at hv; cases hv; rfl
    subst e2
    refine he i v' d H1 D acc R hd T2 ?_
    have r2 := r _ T
    rw [hd] at r2
    exact r2
  · intro H1 T
    refine q D H1 ?_
    have e : (List.range xs.length).map (fun i => V.bl (ds[i]?.elim false f)) = (ds.map f).map V.bl := by
      rw [hl, List.map_map]
      refine List.ext_getElem? fun j => ?_
      rw [List.getElem?_map, List.getElem?_map]
      by_cases hj : j < ds.length
      · rw [List.getElem?_range hj, List.getElem?_eq_getElem hj]
        show some (V.bl (ds[j]?.elim false f)) = _
        rw [List.getElem?_eq_getElem hj]
        rfl
      · rw [List.getElem?_eq_none (by rw [List.length_range]; omega), List.getElem?_eq_none (by omega)]
        rfl
    rw [e] at T
    exact T
/-- a list under way: so many items, each so -/
def plist (P : PyData → Prop) (acc : List V) (i : Nat) : SP := ex fun ds : List PyData => sep [pr (ds.length = i ∧ ∀ d ∈ ds, P d), dats acc ds]
theorem plist_iff {P : PyData → Prop} {acc : List V} {i : Nat} : Star H (plist P acc i :: F) ↔ ∃ ds : List PyData, (ds.length = i ∧ ∀ d ∈ ds, P d) ∧ Star H (dats acc ds :: F) := by
  unfold plist
  simp only [Star.ex_iff, Star.sep_iff, List.cons_append, List.nil_append, Star.pr_iff]
theorem plist0 {P : PyData → Prop} (S : Star H F) : Star H (plist P [] 0 :: F) := plist_iff.mpr ⟨[], ⟨rfl, fun d h => absurd h List.not_mem_nil⟩, dats_n.mpr ⟨rfl, S⟩⟩
theorem Star.psnoc {P : PyData → Prop} {acc : List V} {n : Nat} {d : PyData} (S : Star H (plist P acc n :: dat v d :: F)) (hd : P d) : Star H (plist P (acc ++ [v]) (n + 1) :: F) := by
  obtain ⟨ds, ⟨g1, g2⟩, S⟩ := plist_iff.mp S
  refine plist_iff.mpr ⟨ds ++ [d], ⟨by simp [g1], fun e he => ?_⟩, S.snoc⟩
  rcases List.mem_append.mp he with z | z
  · exact g2 e z
  · rw [List.mem_singleton.mp z]
    exact hd
theorem Star.pint {P : PyData → Prop} {acc : List V} {n : Nat} {i : Int} (S : Star H (plist P acc n :: F)) (hd : P (.int i)) : Star H (plist P (acc ++ [.int i]) (n + 1) :: F) :=
  Star.psnoc (S.fr (Fr.c0 (Fr.int (Fr.refl _)))) hd
theorem ni_d {n m : Nat} : Ni (n + 1) m (.dict []) := ⟨rfl, by show 0 + 1 ≤ n + 1; omega, rfl, Nat.zero_le _⟩
/-- a whole number whose text is short -/
def smallI (d : PyData) : Prop := ∃ i : Int, d = .int i ∧ (-1000000000000000000000000000000000000000000000000000 < i ∧ i < 1000000000000000000000000000000000000000000000000000)
theorem smallI.ni {d : PyData} {n m : Nat} (h : smallI d) : Ni n m d := by
  obtain ⟨i, rfl, hi⟩ := h
  exact ni_i (by omega)
theorem smallI.pl {d : PyData} (h : smallI d) : Pl d := by
  obtain ⟨i, rfl, hi⟩ := h
  rfl
theorem all_map_id {α : Type} (l : List α) (f : α → Bool) : (l.map f).all id = l.all f := by
  rw [List.all_map]
  rfl
end
end MK

namespace MK
open PySem PySem.Spec PyProof.Rows L2

/-! ### further facts that the head tells -/
/-- a def that is read off its class -/
structure CFn (K : PySem.W.Frag) (C : Addr) (m : Str) (f : Addr) : Prop where
  sp : PySem.W.specialIn K (.ref C) "__getattribute__" = some (some (.builtin "type.__getattribute__"))
  rd : PySem.W.readsIn K C (.type "type") = true
  fc : PySem.W.findCls K (.ref C) (.type "type") m = some (.val (.ref f))
  kp : PySem.W.keepIn K (.ref f) = true
/-- instances of the class at C are asked by isinstance as they are -/
structure IsC (K : PySem.W.Frag) (C : Addr) : Prop where
  ha : PySem.W.findIn K (.ref C) "__class__" = some (some (.builtin "object.__class__"))
  hn : PySem.W.specialIn K (.builtin "object.__class__") "__get__" = some (some (.builtin "getset_descriptor.__get__"))
  ht : PySem.W.takesIn K (.builtin "object.__class__") = some true
  hm : PySem.W.mroIn K C (.type "object") = some true
inductive Xa where
  | cfn (x m : Str)
  | isc (x : Str)
  | kit (x y : Str) (b : Bool)
  | oex (x : Str)
  | xfc (x : Str)
  | init (x : Str)
  | veb
  | exk (x : Str)
def isFoundVal (r : Option PySem.W.CFound) (v : Value) : Bool := match r with
  | some (.val u) => decide (u = v)
  | _ => false
theorem isFoundVal_ok {r : Option PySem.W.CFound} {v : Value} (h : isFoundVal r v = true) : r = some (.val v) := by
  unfold isFoundVal at h
  split at h
  · rw [of_decide_eq_true h]
  · cases h
def oexB (K : PySem.W.Frag) (C : Addr) : Bool := match K.lookup C with
  | some ⟨.type t, _, .cls cd, sl⟩ => decide (t = "type") && (match cd.mro, sl.toList with
    | .ref C' :: bm, [_, _, _, _, some (.builtin n), _] => decide (C' = C) && (decide (n = "ValueError.__new__") && (!cd.hasDel && (cd.hasDict && PySem.HandSPX.refsVE bm)))
    | _, _ => false)
  | _ => false
def exkB (K : PySem.W.Frag) (D : Addr) : Bool := decide (PySem.W.findIn K (.ref D) "__getattribute__" = some (some (.builtin "BaseException.__getattribute__"))) && (decide (PySem.W.findIn K (.ref D) "__getattr__" = some none) &&
  (decide (PySem.W.subIn K (.ref D) (.type "BaseException") = some true) && (PySem.W.hasDictIn K D && (decide (PySem.W.findIn K (.ref D) "__class__" = some (some (.builtin "object.__class__"))) &&
    (decide (PySem.W.specialIn K (.builtin "object.__class__") "__get__" = some (some (.builtin "getset_descriptor.__get__"))) && (decide (PySem.W.takesIn K (.builtin "object.__class__") = some true) && decide (PySem.W.mroIn K D (.type "object") = some true)))))))
def Xa.ok (K : PySem.W.Frag) : Xa → Bool
  | .cfn x m => decide (PySem.W.specialIn K (.ref (He.ga K x)) "__getattribute__" = some (some (.builtin "type.__getattribute__"))) && (PySem.W.readsIn K (He.ga K x) (.type "type") &&
      (isFoundVal (PySem.W.findCls K (.ref (He.ga K x)) (.type "type") m) (.ref (He.ma K (He.ga K x) m)) && PySem.W.keepIn K (.ref (He.ma K (He.ga K x) m))))
  | .isc x => decide (PySem.W.findIn K (.ref (He.ga K x)) "__class__" = some (some (.builtin "object.__class__"))) && (decide (PySem.W.specialIn K (.builtin "object.__class__") "__get__" = some (some (.builtin "getset_descriptor.__get__"))) &&
      (decide (PySem.W.takesIn K (.builtin "object.__class__") = some true) && decide (PySem.W.mroIn K (He.ga K x) (.type "object") = some true)))
  | .kit x y b => decide (PySem.W.kitOne K (.ref (He.ga K x)) (.ref (He.ga K y)) = some b)
  | .oex x => oexB K (He.ga K x) && (decide (PySem.W.findIn K (.ref (He.ga K x)) "__setattr__" = some (some (.builtin "object.__setattr__"))) && (decide (PySem.W.subIn K (.ref (He.ga K x)) (.type "BaseException") = some true) &&
      (decide (PySem.W.typeIn K (.ref (He.ga K x)) = some (.type "type")) && PySem.W.keepIn K (.ref (He.ga K x)))))
  | .xfc x => xfB K (He.ga K x)
  | .init x => decide (PySem.W.findIn K (.ref (He.ga K x)) "__init__" = some (some (.ref (He.ma K (He.ga K x) "__init__")))) && decide (PySem.W.typeIn K (.ref (He.ma K (He.ga K x) "__init__")) = some (.type "function"))
  | .exk x => exkB K (He.ga K x)
  | .veb => isFoundVal (PySem.W.findCls K (.type "ValueError") (.type "type") "__init__") (.builtin "ValueError.__init__")
section
variable {K : PySem.W.Frag}
theorem ba2 {a b : Bool} (h : (a && b) = true) : a = true ∧ b = true := Bool.and_eq_true_iff.mp h
theorem exkB_ok {D : Addr} (h : exkB K D = true) : ExcC K D := by
  obtain ⟨h1, h⟩ := ba2 h
  obtain ⟨h2, h⟩ := ba2 h
  obtain ⟨h3, h⟩ := ba2 h
  obtain ⟨h4, h⟩ := ba2 h
  obtain ⟨h5, h⟩ := ba2 h
  obtain ⟨h6, h⟩ := ba2 h
  obtain ⟨h7, h8⟩ := ba2 h
  exact ⟨of_decide_eq_true h1, of_decide_eq_true h2, of_decide_eq_true h3, h4, of_decide_eq_true h5, of_decide_eq_true h6, of_decide_eq_true h7, of_decide_eq_true h8⟩
theorem exk_ok {x : Str} (c : (Xa.exk x).ok K = true) : ExcC K (He.ga K x) := exkB_ok c
theorem cfn_ok {x m : Str} (c : (Xa.cfn x m).ok K = true) : CFn K (He.ga K x) m (He.ma K (He.ga K x) m) := by
  obtain ⟨c1, c⟩ := ba2 c
  obtain ⟨c2, c⟩ := ba2 c
  obtain ⟨c3, c4⟩ := ba2 c
  exact ⟨of_decide_eq_true c1, c2, isFoundVal_ok c3, c4⟩
theorem isc_ok {x : Str} (c : (Xa.isc x).ok K = true) : IsC K (He.ga K x) := by
  obtain ⟨c1, c⟩ := ba2 c
  obtain ⟨c2, c⟩ := ba2 c
  obtain ⟨c3, c4⟩ := ba2 c
  exact ⟨of_decide_eq_true c1, of_decide_eq_true c2, of_decide_eq_true c3, of_decide_eq_true c4⟩
theorem kit_ok {x y : Str} {b : Bool} (c : (Xa.kit x y b).ok K = true) : PySem.W.kitOne K (.ref (He.ga K x)) (.ref (He.ga K y)) = some b := of_decide_eq_true c
theorem oexB_ok {C : Addr} (h : oexB K C = true) : ∃ nm q N bs bm sn sub ab col dd k0 k1 k2 k3 k5, K.lookup C = some (excClassObj nm q C N bs bm true sn sub ab col dd k0 k1 k2 k3 k5 "ValueError.__new__") ∧ PySem.HandSPX.refsVE bm = true := by
  unfold oexB at h
  split at h
  · rename_i t dd cd sl ho
    obtain ⟨ht, h⟩ := ba2 h
    split at h
    · rename_i C' bm k0 k1 k2 k3 n k5 hm hs
      obtain ⟨h1, h⟩ := ba2 h
      obtain ⟨h2, h⟩ := ba2 h
      obtain ⟨h3, h⟩ := ba2 h
      obtain ⟨h4, h5⟩ := ba2 h
      have e1 := of_decide_eq_true h1
      have e2 := of_decide_eq_true h2
      have e3 : cd.hasDel = false := by simpa using h3
      have e0 := of_decide_eq_true ht
      obtain ⟨nm, bs, mro, ns, qn, hd, sn, sub, ab, col, del⟩ := cd
      dsimp only at hm e3 h4
      subst hm e3 h4 e1 e2 e0
      have hsl : sl = #[k0, k1, k2, k3, some (.builtin "ValueError.__new__"), k5] := by
        obtain ⟨l⟩ := sl
        simp only at hs
        rw [hs]
      subst hsl
      exact ⟨nm, qn, ns, bs, bm, sn, sub, ab, col, dd, k0, k1, k2, k3, k5, ho, h5⟩
    · cases h
  · cases h
theorem oex_ok {x : Str} (c : (Xa.oex x).ok K = true) : OexC K (He.ga K x) := by
  obtain ⟨c1, c⟩ := ba2 c
  obtain ⟨c2, c⟩ := ba2 c
  obtain ⟨c3, c⟩ := ba2 c
  obtain ⟨c4, c5⟩ := ba2 c
  exact ⟨oexB_ok c1, of_decide_eq_true c2, of_decide_eq_true c3, of_decide_eq_true c4, c5⟩
theorem xfc_ok {x : Str} (c : (Xa.xfc x).ok K = true) : XfC K (He.ga K x) := xfB_ok c
theorem init_ok {x : Str} (c : (Xa.init x).ok K = true) : PySem.W.findIn K (.ref (He.ga K x)) "__init__" = some (some (.ref (He.ma K (He.ga K x) "__init__"))) ∧ PySem.W.typeIn K (.ref (He.ma K (He.ga K x) "__init__")) = some (.type "function") := by
  obtain ⟨c1, c2⟩ := ba2 c
  exact ⟨of_decide_eq_true c1, of_decide_eq_true c2⟩
theorem veb_ok (c : Xa.veb.ok K = true) : PySem.W.findCls K (.type "ValueError") (.type "type") "__init__" = some (.val (.builtin "ValueError.__init__")) := isFoundVal_ok c
end
/-! the hook -/
structure SaysM (fa : List He.Fa) (fn : List He.DefD) (xa : List Xa) (K : PySem.W.Frag) : Prop where
  d : He.SaysD fa fn K
  x : (xa.all fun f => f.ok K) = true
/-- what the module's names reach, and the interpreter's own statics -/
def asM (g : Addr → Option Obj) (n : Nat) : List Addr := PySem.cStatics :: He.asD g n
abbrev AlM : Type := He.AlD × Bool
def obsM (n : Nat) (fa : List He.Fa) (fn : List He.DefD) (xa : List Xa) (g : Addr → Option Obj) : AlM := (He.obsD fa fn (He.frG g (asM g n)), xa.all fun f => f.ok (He.frG g (asM g n)))
def hookM (n : Nat) (fa : List He.Fa) (fn : List He.DefD) (xa : List Xa) : PySem.W.Hook where
  α := AlM
  obs := fun s => obsM n fa fn xa s.heap.get?
  val := fun _ => (He.valD fn, true)
  says := fun _ h => ∃ K : PySem.W.Frag, K.In h ∧ SaysM fa fn xa K
  of := fun _ h e => ⟨_, He.frG_in, ⟨congrArg (fun z : AlM => z.1) e, congrArg (fun z : AlM => z.2) e⟩⟩
  keeps := fun _ _ _ ⟨K, hK, c⟩ k => ⟨K, PySem.W.Frag.In.keeps hK k, c⟩
theorem obsM_eq {n : Nat} {fa : List He.Fa} {fn : List He.DefD} {xa : List Xa} {g : Addr → Option Obj} {s : Shared} (h : ∀ a, g a = s.heap.get? a) : obsM n fa fn xa g = (hookM n fa fn xa).obs s := by
  have e : g = s.heap.get? := funext h
  rw [e] <;> rfl
section
variable {fa : List He.Fa} {fn : List He.DefD} {xa : List Xa} {K : PySem.W.Frag}
theorem SaysM.fact (c : SaysM fa fn xa K) (i : Nat) {f : He.Fa} (h : fa[i]? = some f := by rfl) : f.ok K = true := c.d.fact i h
theorem SaysM.def_ (c : SaysM fa fn xa K) (i : Nat) {d : He.DefD} (h : fn[i]? = some d := by rfl) : ∃ fd, FunD K d.name d.qual d.params d.body d.scope (d.dvs K) (d.kws K) (He.fAd K d.at_) fd := c.d.def_ i h
theorem SaysM.xact (c : SaysM fa fn xa K) (i : Nat) {f : Xa} (h : xa[i]? = some f := by rfl) : f.ok K = true := List.all_eq_true.mp c.x f (List.mem_of_getElem? h)
end

/-! ### fields -/
@[irreducible] def fldX (cs : List Addr) (f : Str) (x : V) (H : Hp) (Q : VK) : Prop := ∃ a C dx fs v, x = .ref a ∧ C ∈ cs ∧ H a = some (.ins C dx fs) ∧ fs.lookup f = some v ∧ Q v H
def eFld (cs : List Addr) (f : Str) (te : TE) : TE := fun σ H Q => te σ H fun x H1 => fldX cs f x H1 Q
theorem fld_i {cs : List Addr} {f : Str} {H : Hp} {Q : VK} {a C dx : Addr} {fs : List (Str × V)} {v : V} (h : H a = some (.ins C dx fs)) (hc : C ∈ cs) (hl : fs.lookup f = some v) (q : Q v H) : fldX cs f (.ref a) H Q := by
  unfold fldX
  exact ⟨a, C, dx, fs, v, rfl, hc, h, hl, q⟩
@[irreducible] def stfX (cs : List Addr) (f : Str) (y x : V) (H : Hp) (Q : Hp → Prop) : Prop := ∃ a C dx fs, x = .ref a ∧ C ∈ cs ∧ H a = some (.ins C dx fs) ∧ fs.length < 1000 ∧ Q (upd H a (.ins C dx (putF f y fs)))
def sStF (cs : List Addr) (f : Str) (tv to : TE) : TS := fun D σ H => tv σ H fun y H1 => to σ H1 fun x H2 => stfX cs f y x H2 (D.nx σ)
section
variable {X : Cx} {o e value : Expr} {es : List Expr} {f m : Str} {pos pos' apos p : Pos} {te to tv : TE} {t : TA} {cs : List Addr}
theorem mfld (he : PE X e te) (hc : ∀ C ∈ cs, Cls X.K C ∧ NoAttr X.K C f) (hb : attributeBase e f X.env (eval e X.env) = eval e X.env := by rfl) : PE X (.Attribute e f pos) (eFld cs f te) := by
  constructor
  intro pins s σ H Q I h
  refine attr_of hb (thn (he.run pins s σ H _ I h) ?_)
  rintro u s1 ⟨x, H1, I1, rx, q⟩
  unfold fldX at q
  obtain ⟨a, C, dx, fs, v, ex, hC, ea, l, q⟩ := q
  subst ex
  cases (show u = Value.ref a from rx)
  exact getattr_ok I1 ea (hc C hC).1 (hc C hC).2 l fun u' s2 I2 ru => ⟨v, H1, I2, ru, q⟩
theorem mstf (hv : PE X value tv) (ho : PE X o to) (hc : ∀ C ∈ cs, Cls X.K C ∧ NoAttr X.K C f) (hs : swapsWith value (some (.Attribute o f pos')) pos.line X.env = pure false := by rfl) :
    PS X (.Assign [.Attribute o f pos'] value pos) (sStF cs f tv to) := by
  constructor
  intro pins s σ H D I h
  refine plainObj_wpAny_Assign_Attribute (thn (hv.run pins s σ H _ I h) ?_) hs
  rintro u s1 ⟨y, H1, I1, ry, q⟩
  refine thn (ho.run pins s1 σ H1 _ I1 q) ?_
  rintro ov s2 ⟨x, H2, I2, rx, q2⟩
  unfold stfX at q2
  obtain ⟨a, C, dx, fs, ex, hC, ea, l, q2⟩ := q2
  subst ex
  cases (show ov = Value.ref a from rx)
  exact setattr_ok I2 ea (hc C hC).1 (hc C hC).2 l ry fun s3 I3 => ⟨σ, _, I3, q2⟩
theorem cl1 {P : Addr → Prop} {C : Addr} (h : P C) : ∀ D ∈ [C], P D := fun D hD => by
  rw [List.mem_singleton.mp hD]
  exact h
theorem clc {P : Addr → Prop} {C : Addr} {cs : List Addr} (h : P C) (t : ∀ D ∈ cs, P D) : ∀ D ∈ C :: cs, P D := fun D hD => by
  rcases List.mem_cons.mp hD with e | e
  · rw [e]
    exact h
  · exact t D e

/-! ### methods, by the instance's class -/
@[irreducible] def dspX (tbl : List (Addr × Sp)) (m : Str) (x : V) (H : Hp) (R : Sp → Prop) : Prop := ∃ C sp, (C, sp) ∈ tbl ∧ isIns C m x H ∧ R sp
def eMethD (tbl : List (Addr × Sp)) (m : Str) (W : WX) (to : TE) (t : TA) : TE := fun σ H Q => to σ H fun x H1 => dspX tbl m x H1 fun sp => t σ H1 fun vs H2 => sp (x :: vs) H2 Q (fun cls d H3 => W cls d σ H3)
theorem dsp_i {tbl : List (Addr × Sp)} {H : Hp} {R : Sp → Prop} {a C dx : Addr} {fs : List (Str × V)} {sp : Sp} (h : H a = some (.ins C dx fs)) (hm : (C, sp) ∈ tbl) (hl : fs.lookup m = none) (q : R sp) : dspX tbl m (.ref a) H R := by
  unfold dspX
  exact ⟨C, sp, hm, ⟨a, dx, fs, rfl, h, hl⟩, q⟩
/-- what is asked of each class of the table -/
def DspOk (X : Cx) (m : Str) (tbl : List (Addr × Sp)) : Prop := ∀ C sp, (C, sp) ∈ tbl → ∃ f, Cls X.K C ∧ Meth X.K C m f ∧ Cal X f sp
theorem dsp0 : DspOk X m [] := fun C sp h => absurd h List.not_mem_nil
theorem dsp1 {C f : Addr} {sp : Sp} {tbl : List (Addr × Sp)} (c : Cls X.K C) (h : Meth X.K C m f) (k : Cal X f sp) (t : DspOk X m tbl) : DspOk X m ((C, sp) :: tbl) := fun D sp' hD => by
  rcases List.mem_cons.mp hD with e | e
  · cases e
    exact ⟨f, c, h, k⟩
  · exact t D sp' e
theorem mmeth {pl : Sem Bool} {W : WX} {tbl : List (Addr × Sp)} (ho : PE X o to) (d : DspOk X m tbl) (tk : Takes X W) (ha : PA X (e :: es) t)
    (hst : starEach (e :: es) X.env = (false, eval e X.env) :: starEach es X.env := by rfl) (hpl : (backTo pos (starEach es X.env)).any (·.1) = false := by rfl)
    (ht : eval (.Call (.Attribute o m apos) (e :: es) [] pos) X.env = (do
      let ov ← eval o X.env
      standAt apos.atName
      let (f, first) ← holding [ov] (getMethod ov m pl)
      callWith pos f first (backTo pos (starEach (e :: es) X.env)) (backToKw pos (keywordEach [] X.env))) := by rfl) :
    PE X (.Call (.Attribute o m apos) (e :: es) [] pos) (eMethD tbl m W to t) := by
  constructor
  intro pins s σ H Q I h
  refine PySem.W.methodCall_KW (pl := pl) (thn (ho.run pins s σ H _ I h) ?_) ht
  rintro u s1 ⟨x, H1, I1, rx, q⟩
  unfold dspX at q
  obtain ⟨C, sp, hm, ⟨a, dx, fs, ex, ea, l⟩, q⟩ := q
  obtain ⟨f, cl, hf, c⟩ := d C sp hm
  subst ex
  cases (show u = Value.ref a from rx)
  refine getmeth_ok I1 ea cl hf l (PySem.W.callWith_K (first := [.ref a]) (h₀ := X.base) I.ok.mod.kin hf.kp (thn (ha.run pos pins s1 σ H1 _ I1 q) ?_) hst hpl)
  rintro us s2 ⟨vs, H2, I2, r, q2⟩
  exact ⟨I2.kIn, c.run (us := .ref a :: us) (vs := .ref a :: vs) tk I2 (.cons rfl r) q2⟩
theorem mmeth0 {pl : Sem Bool} {W : WX} {tbl : List (Addr × Sp)} (ho : PE X o to) (d : DspOk X m tbl) (tk : Takes X W)
    (ht : eval (.Call (.Attribute o m apos) [] [] pos) X.env = (do
      let ov ← eval o X.env
      standAt apos.atName
      let (f, first) ← holding [ov] (getMethod ov m pl)
      callWith pos f first (backTo pos (starEach [] X.env)) (backToKw pos (keywordEach [] X.env))) := by rfl) :
    PE X (.Call (.Attribute o m apos) [] [] pos) (eMethD tbl m W to tNil) := by
  constructor
  intro pins s σ H Q I h
  refine PySem.W.methodCall_KW (pl := pl) (thn (ho.run pins s σ H _ I h) ?_) ht
  rintro u s1 ⟨x, H1, I1, rx, q⟩
  unfold dspX at q
  obtain ⟨C, sp, hm, ⟨a, dx, fs, ex, ea, l⟩, q⟩ := q
  obtain ⟨f, cl, hf, c⟩ := d C sp hm
  subst ex
  cases (show u = Value.ref a from rx)
  exact getmeth_ok I1 ea cl hf l (PySem.W.callWith_K0 (first := [.ref a]) I1.kIn hf.kp (c.run (us := [.ref a]) (vs := [.ref a]) tk I1 (.cons rfl .nil) q))
/-- C.m(self, ..): the def, read off its class -/
theorem mcfn {pl : Sem Bool} {W : WX} {x : Str} {np : Pos} {C g : Addr} {sp : Sp} (gl : Gl X x) (hm : X.mg x = some (.ref C)) (F : CFn X.K C m g) (c : Cal X g sp) (tk : Takes X W) (ha : PA X (e :: es) t)
    (hdb : (x == ("__debug__" : Str)) = false := by decide +kernel) (hst : starEach (e :: es) X.env = (false, eval e X.env) :: starEach es X.env := by rfl) (hpl : (backTo pos (starEach es X.env)).any (·.1) = false := by rfl)
    (ht : eval (.Call (.Attribute (.Name x np) m apos) (e :: es) [] pos) X.env = (do
      let ov ← eval (.Name x np) X.env
      standAt apos.atName
      let (f, first) ← holding [ov] (getMethod ov m pl)
      callWith pos f first (backTo pos (starEach (e :: es) X.env)) (backToKw pos (keywordEach [] X.env))) := by rfl) :
    PE X (.Call (.Attribute (.Name x np) m apos) (e :: es) [] pos) (eCall sp W t) := by
  constructor
  intro pins s σ H Q I h
  refine PySem.W.methodCall_KW (pl := pl) (ld_glob I gl hm ?_ hdb) ht
  refine PySem.W.method_cls I.kIn F.sp (PySem.W.cls_value I.kIn F.rd F.fc rfl ?_)
  have I' := I.tok (s.toks + 1)
  refine PySem.W.callWith_K (first := []) (h₀ := X.base) I.ok.mod.kin F.kp (thn (ha.run pos pins _ σ H _ I' h) ?_) hst hpl
  rintro us s2 ⟨vs, H2, I2, r, q2⟩
  exact ⟨I2.kIn, c.run tk I2 r q2⟩
/-! ### isinstance(x, C), x an instance of an own class -/
@[irreducible] def isoX (tbl : List (Addr × Bool)) (x : V) (H : Hp) (Q : VK) : Prop := ∃ a C dx fs b, x = .ref a ∧ (C, b) ∈ tbl ∧ H a = some (.ins C dx fs) ∧ Q (.bl b) H
theorem iso_i {tbl : List (Addr × Bool)} {H : Hp} {Q : VK} {a C dx : Addr} {fs : List (Str × V)} {b : Bool} (h : H a = some (.ins C dx fs)) (hm : (C, b) ∈ tbl) (q : Q (.bl b) H) : isoX tbl (.ref a) H Q := by
  unfold isoX
  exact ⟨a, C, dx, fs, b, rfl, hm, h, q⟩
def cIso (D : Addr) (tbl : List (Addr × Bool)) : List V → Hp → VK → Prop := fun xs H Q => match xs with
  | [x, .ref E] => E = D ∧ isoX tbl x H Q
  | _ => False
theorem k_iso {D : Addr} {tbl : List (Addr × Bool)} (h : ∀ C b, (C, b) ∈ tbl → Cls X.K C ∧ IsC X.K C ∧ PySem.W.kitOne X.K (.ref C) (.ref D) = some b) : CallR X (.builtin "isinstance") (cIso D tbl) := call_imp call_isi fun xs H Q q => by
  unfold cIso at q
  split at q
  · rename_i x E
    obtain ⟨e, q⟩ := q
    subst e
    unfold isoX at q
    obtain ⟨a, C, dx, fs, b, ex, hm, ea, q⟩ := q
    subst ex
    obtain ⟨c, i, k⟩ := h C b hm
    exact ⟨.ref a, .ref E, .ref C, .ref E, b, rfl, .own E, .base (.ins ea c i.ha i.hn i.ht i.hm), k, q⟩
  · exact q.elim
end
end MK

namespace MK
open PySem PySem.Spec PyProof.Rows L2

/-! ### an own exception, made by its own __init__ -/
/-- C(..), told by its fields; the exception itself is no one's -/
@[irreducible] def nwX (C : Addr) (fs : List (Str × V)) (H : Hp) (Q : XK) : Prop := ∀ d, H d = none → Q (.ref C) (some d) (upd H d (.xd fs))
def excX (C : Addr) (fl : List Str) (vs : List V) (H : Hp) (Q : XK) : Prop := vs.length = fl.length ∧ nwX C ((fl.zip vs).reverse) H Q
theorem nwx_S {C : Addr} {fs fs' : List (Str × V)} {H : Hp} {Q : XK} {ps : List SP} (S : Star H ps) (q : ∀ d H', Star H' (pt d (.xd fs') :: ps) → Q (.ref C) (some d) H') (e : fs = fs' := by rfl) : nwX C fs H Q := by
  subst e
  unfold nwX
  exact fun d hd => q d _ (S.new' hd id)
/-- what the making asks of the __init__ -/
def mkO (C : Addr) (sp : Sp) (vs : List V) (H1 : Hp) (Q : XK) : Prop := vs.length ≤ 1000 ∧ ∀ a, H1 a = none → sp (.ref a :: vs) (upd H1 a (exo a C none))
  (fun v H2 => v = .non ∧ ∃ (d : Addr) (fs : List (Str × V)), H2 a = some (exo a C (some d)) ∧ H2 d = some (exd d fs) ∧ H1 d = none ∧ Q (.ref C) (some d) (upd (del H2 a) d (.xd fs))) (fun _ _ _ => False)
section
variable {X : Cx} {x : Str} {C fI : Addr} {sp : Sp} {e : Expr} {es : List Expr} {ta : TA} {p pos : Pos} {fl : List Str}
theorem pmk_exc (T : OexC X.K C) (iC : PySem.W.findIn X.K (.ref C) "__init__" = some (some (.ref fI)) ∧ PySem.W.typeIn X.K (.ref fI) = some (.type "function")) (c : CalM X fI sp)
    (hsp : ∀ vs H Q, excX C fl vs H Q → mkO C sp vs H Q) (gl : Gl X x) (hm : X.mg x = some (.ref C)) (ha : PA X (e :: es) ta)
    (hdb : (x == ("__debug__" : Str)) = false := by decide +kernel) (he : starEach (e :: es) X.env = (false, eval e X.env) :: starEach es X.env := by rfl) (hpl : (backTo pos (starEach es X.env)).any (·.1) = false := by rfl) :
    PMk X (.Call (.Name x p) (e :: es) [] pos) (fun σ H Q => ta σ H fun vs H1 => excX C fl vs H1 Q) := by
  intro pins s σ H Q I h
  obtain ⟨nm, q, N, bs, bm, sn, sub, ab, col, dd, k0, k1, k2, k3, k5, hC, hbm⟩ := T.cls
  obtain ⟨k, fd, ps, hr, hg, hb, Fg⟩ := c.ex
  refine wpAny_Call_Name_kw (ld_glob I gl hm ?_ hdb)
  refine PySem.W.callWith_K (h₀ := X.base) I.ok.mod.kin T.kC (thn (ha.run pos pins s σ H _ I h) ?_) he hpl
  rintro us s1 ⟨vs, H1, I1, r1, q0⟩
  obtain ⟨hz, q1⟩ := hsp vs H1 Q q0
  refine ⟨I1.kIn, ?_⟩
  show wpAny _ _ (call (.ref C) us) _ _ _
  obtain ⟨hp, g, dr, tk, os⟩ := s1
  obtain ⟨n, en⟩ : ∃ n, n = hp.objs.size + 1 := ⟨_, rfl⟩
  have hsz : hp.objs.size ≤ n := by omega
  have hn : H1 n = none := I1.hok.fresh hsz
  have hq := q1 n hn
  have kk : ∀ b o, hp.get? b = some o → ((hp.push (PySem.W.kdv_tup us)).push (PySem.HandSPX.excO C hp.objs.size)).get? b = some o := fun b o z => Heap.get?_push_of_some _ (Heap.get?_push_of_some _ z)
  have hget : ((hp.push (PySem.W.kdv_tup us)).push (PySem.HandSPX.excO C hp.objs.size)).get? n = some (PySem.HandSPX.excO C hp.objs.size) := by
    rw [en]
    heap_get
  have I2 : Inv X pins σ (upd H1 n (exo n C none)) ⟨(hp.push (PySem.W.kdv_tup us)).push (PySem.HandSPX.excO C hp.objs.size), g, dr, tk, os⟩ := I1.laid (t' := tk) kk hsz (exo_ok hget)
  have r2 : Vals (V.ref n :: vs) (Value.ref n :: us) := .cons rfl r1
  have hl : (Value.ref n :: us).length = ps.length := by
    rw [← r2.length]
    exact Fg.len _ _ _ _ hq
  have b := hb _ (Value.ref n :: us) I2.kIn (by rw [List.append_nil]; exact hl)
  rw [List.append_nil] at b
  have hus : us.length ≤ sizeLine := by
    rw [← Paired.length r1, sizeLine_eq]
    omega
  have run := Fg.run (X.A.under (.builtin "type.__call__" ⟨.ref C :: us, []⟩)) X.stack _ _ ⟨Value.ref n :: us, []⟩ (Value.ref n :: us) _ _ _ (hr.make C us []) (by rw [make_guards]; exact hg) (I2.env0.make C us []) b r2 hq
  subst en
  refine wpAny_call (PySem.HandSPX.call_own F.excBase_ValueError (fun Y => PySem.HandSPX.refsVE_contains Y bm hbm) (I1.kIn _ _ hC) (PySem.W.looks_findIn I1.kIn iC.1) (fun self => PySem.W.bind_fn I1.kIn self iC.2) hus (codeAny_mono run ?_))
  intro r s' z
  rcases r with er | (u | _ | _ | _)
  · obtain ⟨_, _, _, _, _, _, _, _, _, _, _, _, y⟩ := z
    exact y.elim
  · exact z.elim
  · exact z.elim
  · exact z.elim
  · obtain ⟨v, H2, os2, bare2, un2, hok2, rv, ev, d, fs, ea, ed, hd1, q2⟩ := z
    subst ev
    obtain ⟨h2, g2, d2, t2, os'⟩ := s'
    exact ⟨rv, mk_end (raises_own T.exC T.tyC) I1 hsz kk un2 hok2 os2 bare2 ea ed hd1 q2⟩
end
/-- the base class's __init__ leaves the exception that is being made as it is -/
def KeepsM (K : PySem.W.Frag) (spM : Sp) : Prop := ∀ (a C : Addr) (t : Str) (H : Hp) (Q : VK) (E : XK), OexC K C → H a = some (exo a C none) → Q .non H → spM [.ref a, .str t] H Q E
theorem keepsM {K : PySem.W.Frag} {sp : Sp} (hi : ∀ a0 a1 H Q E, sDrop (tVeI K (aC (eV 0) (aC (eV 1) aN))) (endOf Q) [some a0, some a1] H → sp [a0, a1] H Q E) : KeepsM K sp := fun a C t H Q E T e q => by
  refine hi _ _ _ _ _ ?_
  show ∃ (a' C' : Addr) (ws : List V), _
  exact ⟨a, C, [.str t], rfl, by show 1 ≤ 1000; decide, T, e, q⟩
section
variable {K : PySem.W.Frag} {C : Addr} {sp spM : Sp} {f g txt : Str}
theorem upd_back {H : Hp} {a d : Addr} {fs : List (Str × V)} {o1 o2 o3 : HO} (ha : H a = none) (hne : d ≠ a) : upd (del (upd (upd (upd H a o1) d o2) a o3) a) d (.xd fs) = upd H d (.xd fs) := by
  funext b
  by_cases hd : b = d
  · subst hd
    rw [upd_same, upd_same]
  · rw [upd_ne hd, upd_ne hd]
    by_cases hb : b = a
    · subst hb
      rw [del_same, ha]
    · rw [del_ne hb, upd_ne hb, upd_ne hd, upd_ne hb]
theorem exc_one (T : OexC K C) (hno : PySem.W.findIn K (.ref C) f = some none) (hM : KeepsM K spM)
    (hi : ∀ a0 a1 H Q E, tSeq (sDrop (eCall spM (wE E) (aC (eV 0) (aC (eC (.str txt)) aN)))) (tOst K f (eV 0) (eV 1)) (endOf Q) [some a0, some a1] H → sp [a0, a1] H Q E) :
    ∀ vs H Q, excX C [f] vs H Q → mkO C sp vs H Q := by
  intro vs H Q h
  obtain ⟨hl, q⟩ := h
  match vs, hl with
  | [v], _ =>
    refine ⟨by show 1 ≤ 1000; decide, fun a ha => hi _ _ _ _ _ ?_⟩
    refine hM a C txt _ _ _ T upd_same ?_
    show ∃ a' C' : Addr, _
    refine ⟨a, C, rfl, T, hno, .inl ⟨upd_same, fun dx hdx hne => ?_⟩⟩
    rw [upd_ne hne] at hdx
    unfold nwX at q
    refine ⟨rfl, dx, [(f, v)], upd_same, by rw [upd_ne hne, upd_same], hdx, ?_⟩
    rw [upd_back ha hne]
    exact q dx hdx
theorem exc_two (T : OexC K C) (hno : PySem.W.findIn K (.ref C) f = some none) (hno2 : PySem.W.findIn K (.ref C) g = some none) (hM : KeepsM K spM)
    (hi : ∀ a0 a1 a2 H Q E, tSeq (sDrop (eCall spM (wE E) (aC (eV 0) (aC (eC (.str txt)) aN)))) (tSeq (tOst K f (eV 0) (eV 1)) (tOst K g (eV 0) (eV 2))) (endOf Q) [some a0, some a1, some a2] H → sp [a0, a1, a2] H Q E) :
    ∀ vs H Q, excX C [f, g] vs H Q → mkO C sp vs H Q := by
  intro vs H Q h
  obtain ⟨hl, q⟩ := h
  match vs, hl with
  | [v, u], _ =>
    refine ⟨by show 2 ≤ 1000; decide, fun a ha => hi _ _ _ _ _ _ ?_⟩
    refine hM a C txt _ _ _ T upd_same ?_
    show ∃ a' C' : Addr, _
    refine ⟨a, C, rfl, T, hno, .inl ⟨upd_same, fun dx hdx hne => ?_⟩⟩
    rw [upd_ne hne] at hdx
    unfold nwX at q
    show ∃ a' C' : Addr, _
    refine ⟨a, C, rfl, T, hno2, .inr ⟨dx, [(f, v)], upd_same, by rw [upd_ne hne, upd_same], by show 1 ≤ 900; decide, ?_⟩⟩
    refine ⟨rfl, dx, [(g, u), (f, v)], by rw [upd_ne (Ne.symm hne), upd_same], upd_same, hdx, ?_⟩
    have e : upd (del (upd (upd (upd (upd H a (exo a C none)) dx (exd dx [(f, v)])) a (exo a C (some dx))) dx (exd dx [(g, u), (f, v)])) a) dx (.xd [(g, u), (f, v)]) = upd H dx (.xd [(g, u), (f, v)]) := by
      funext b
      by_cases hd : b = dx
      · subst hd
        rw [upd_same, upd_same]
      · rw [upd_ne hd, upd_ne hd]
        by_cases hb : b = a
        · subst hb
          rw [del_same, ha]
        · rw [del_ne hb, upd_ne hd, upd_ne hb, upd_ne hd, upd_ne hb]
    rw [e]
    exact q dx hdx
end
/-- raise C(..) -/
def sRaise (C : Addr) (fl : List Str) (W : WX) (ta : TA) : TS := fun _ σ H => ta σ H fun vs H1 => excX C fl vs H1 fun cls d H' => W cls d σ H'
theorem mraise {X : Cx} {W : WX} {e : Expr} {C : Addr} {fl : List Str} {ta : TA} {pos : Pos} (tk : Takes X W) (he : PMk X e (fun σ H Q => ta σ H fun vs H1 => excX C fl vs H1 Q)) (hc : X.calm = true := by rfl) : PS X (.Raise (some e) none pos) (sRaise C fl W ta) := ps_raise hc tk he

/-! ### try .. except C as e -/
@[irreducible] def wAsM (tbl : List (Value × Bool)) (i : Nat) (ts : Addr → Value → Option Addr → TS) (Wout : WX) (D : Ends) : WX := fun cls d σ H =>
  ((cls, true) ∈ tbl ∧ ∀ a, H a = none → ts a cls d { nx := fun σ' H' => D.nx (σ'.set i none) H', rt := D.rt, bk := fun σ' H' => D.bk (σ'.set i none) H', ct := fun σ' H' => D.ct (σ'.set i none) H' } (σ.set i (some (.ref a))) H) ∨
    ((cls, false) ∈ tbl ∧ Wout cls d σ H)
def sTryAs (tbl : List (Value × Bool)) (i : Nat) (W : WX) (tb : WX → TS) (ts : Addr → Value → Option Addr → TS) : TS := fun D σ H => tb (wAsM tbl i ts W D) D σ H
section
variable {tbl : List (Value × Bool)} {i : Nat} {ts : Addr → Value → Option Addr → TS} {Wout : WX} {D : Ends} {cls : Value} {d : Option Addr} {σ : L2.St} {H : Hp}
theorem was_y (h : (cls, true) ∈ tbl) (q : ∀ a, H a = none → ts a cls d { nx := fun σ' H' => D.nx (σ'.set i none) H', rt := D.rt, bk := fun σ' H' => D.bk (σ'.set i none) H', ct := fun σ' H' => D.ct (σ'.set i none) H' } (σ.set i (some (.ref a))) H) :
    wAsM tbl i ts Wout D cls d σ H := by
  unfold wAsM
  exact .inl ⟨h, q⟩
theorem was_n (h : (cls, false) ∈ tbl) (q : Wout cls d σ H) : wAsM tbl i ts Wout D cls d σ H := by
  unfold wAsM
  exact .inr ⟨h, q⟩
end
section
variable {X : Cx} {x n : Str} {c : Value} {i : Nat} {body suite : List Stmt} {b₀ : Stmt} {np pos pos' : Pos} {tb : WX → TS} {ts : Addr → Value → Option Addr → TS} {Wout : WX} {tbl : List (Value × Bool)}
theorem mtry_as (hs : X.stack = X.env :: X.outer) (hf : X.env.frame = some X.env.locals) (hN : X.N.Nodup) (hi : X.N[i]? = some n) (hln : X.env.kindOf n = some .local) (hc : Names X x c) (tk : Takes X Wout)
    (ht : ∀ cls b, (cls, b) ∈ tbl → PySem.W.exmOne X.K cls c = some b)
    (hb : ∀ (W : WX) (pn : List (Addr × Obj)) (xe : Value → Shared → Prop), Takes (X.tr pn xe) W → PassesOwn (model X.prog X.w) X.A X.env xe → PSs (X.tr pn xe) body (tb W))
    (hsu : ∀ (a : Addr) (oe : Obj) (cls : Value) (d : Option Addr) (pn : List (Addr × Obj)), Zc cls d oe → (∃ vs, oe.data = .fields vs) → PSs (X.suite a ((a, oe) :: pn)) (b₀ :: suite) (ts a cls d)) :
    PS X (.Try body [.ExceptHandler (some (.Name x np)) (some n) (b₀ :: suite) pos'] [] [] pos) (sTryAs tbl i Wout tb ts) := by
  have R := ps_try_as (pos := pos) (np := np) (pos' := pos') (tb := fun W D σ H => ∃ W' : WX, (∀ c d σ H, W' c d σ H → W c d σ H) ∧ tb W' D σ H) hs hf hN hi hln hc tk (fun W pn xe t po => ⟨fun pins s σ H D I h => by
    obtain ⟨W', hw, h⟩ := h
    exact (hb W' pn xe (t.imp hw) po).run pins s σ H D I h⟩) hsu
  refine ⟨fun pins s σ H D I h => R.run pins s σ H D I ⟨_, ?_, h⟩⟩
  intro cls d σ' H' q
  unfold wAsM at q
  rcases q with ⟨hm, q⟩ | ⟨hm, q⟩
  · exact ⟨true, ht _ _ hm, fun _ => q, fun z => by cases z⟩
  · exact ⟨false, ht _ _ hm, (fun z => by cases z), fun _ => q⟩
end
/-! e.f in the suite -/
@[irreducible] def exfX (cls : Value) (d : Option Addr) (cs : List Addr) (f : Str) (H : Hp) (Q : VK) : Prop := ∃ (C dd : Addr) (fs : List (Str × V)) (v : V), cls = .ref C ∧ C ∈ cs ∧ d = some dd ∧ H dd = some (.xd fs) ∧ fs.lookup f = some v ∧ Q v H
theorem exf_i {C dd : Addr} {cs : List Addr} {f : Str} {H : Hp} {Q : VK} {fs : List (Str × V)} {v : V} (h : H dd = some (.xd fs)) (hc : C ∈ cs) (hl : fs.lookup f = some v) (q : Q v H) : exfX (.ref C) (some dd) cs f H Q := by
  unfold exfX
  exact ⟨C, dd, fs, v, rfl, hc, rfl, h, hl, q⟩
def eXf (a : Addr) (cls : Value) (d : Option Addr) (cs : List Addr) (f : Str) (te : TE) : TE := fun σ H Q => te σ H fun x H1 => x = .ref a ∧ exfX cls d cs f H1 Q
theorem mxf {X : Cx} {a : Addr} {oe : Obj} {cls : Value} {d : Option Addr} {pn : List (Addr × Obj)} {e : Expr} {te : TE} {pos : Pos} {n : Str} {cs : List Addr} (hcs : ∀ C ∈ cs, XfC X.K C ∧ PySem.W.findIn X.K (.ref C) n = some none)
    (hz : Zc cls d oe) (hf : ∃ vs, oe.data = .fields vs) (he : PE (X.suite a ((a, oe) :: pn)) e te) (hb : attributeBase e n X.env (eval e X.env) = eval e X.env := by rfl) :
    PE (X.suite a ((a, oe) :: pn)) (.Attribute e n pos) (eXf a cls d cs n te) := by
  constructor
  intro pins s σ H Q I h
  refine attr_of hb (thn (he.run pins s σ H _ I h) ?_)
  rintro u s1 ⟨x, H1, I1, rx, ex, q⟩
  subst ex
  cases (show u = Value.ref a from rx)
  unfold exfX at q
  obtain ⟨C, dd, fs, v, ec, hC, ed, ea, l, q⟩ := q
  subst ec ed
  obtain ⟨T, hno⟩ := hcs C hC
  obtain ⟨ha, _⟩ := I1.pin (a, oe) (List.mem_append_left _ List.mem_cons_self)
  obtain ⟨vs, hd⟩ := hf
  obtain ⟨mA, hns, hr⟩ : ObjOk X.prog X.w H1 s1.heap dd (.xd fs) := I1.hok dd _ ea
  obtain ⟨od, ho, hl⟩ := lookIn_ns hns
  obtain ⟨u, hu, ru⟩ := RelO.some_of (v := v) (o := mA n) (by rw [← l]; exact hr n)
  have J : PySem.W.InstAt s1.heap a oe C (some od) := ⟨ha, hz.1, by unfold PySem.W.notCls; rw [hd] <;> rfl, by rw [hz.2]; exact ho⟩
  exact PySem.HandSPX.exc_get I1.kIn J T.ga T.gg T.exC (PySem.W.findObj_own T.hdC hno rfl (by rw [hl, hu])) (handed_of ru) ⟨v, H1, I1.tok _, ru, q⟩
end MK

namespace MK
open PySem PySem.Spec PyProof.Rows L2

/-! ### methods of lists -/
theorem tyv_l {K : PySem.W.Frag} {H : Hp} {a : Addr} {xs : List V} (h : H a = some (.lst xs)) : tyV K "list" (.ref a) H := .inl ⟨rfl, xs, .of h⟩
@[irreducible] def opApp : V → List V → Hp → VK → Prop := rAppend
theorem t_app {X : Cx} : MtM X "list.append" opApp := by
  unfold opApp
  exact mt_append
section
variable {K : PySem.W.Frag} {H : Hp} {Q : VK} {ps : List SP} {a : Addr} {xs : List V} {y : V}
theorem app_S (S : Star H (pt a (.lst xs) :: ps)) (z : xs.length < 16777216) (q : ∀ H', Star H' (pt a (.lst (xs ++ [y])) :: ps) → Q .non H') : opApp (.ref a) [y] H Q := by
  unfold opApp
  exact ⟨a, xs, y, rfl, rfl, S.get, by rw [sizeLine_eq]; exact z, q _ S.updL⟩
@[irreducible] def enX (K : PySem.W.Frag) (vs : List V) (H : Hp) (R : It → Hp → Prop) : Prop := ∃ a xs, vs = [.ref a] ∧ SqL K H a xs ∧ R (Ite K a) H
def iEn (K : PySem.W.Frag) (ta : TA) : TI := fun σ H R => ta σ H fun vs H1 => enX K vs H1 R
theorem menu {X : Cx} {e : Expr} {ta : TA} {p pos tpos : Pos} {elts : List Expr} {kk : Nat} (hg : Gl X "enumerate") (hm : X.mg "enumerate" = none) (ha : PA X [e] ta) (hs : starEach [e] X.env = [(false, eval e X.env)] := by rfl) :
    PI X (.Tuple elts kk tpos) (.Call (.Name "enumerate" p) [e] [] pos) (iEn X.K ta) := by
  have e : iEn X.K ta = iEnum X.K ta := by
    unfold iEn iEnum enX
    rfl
  rw [e]
  exact pi_enum hg hm ha hs
theorem en_l {R : It → Hp → Prop} (h : H a = some (.lst xs)) (q : R (Ite K a) H) : enX K [.ref a] H R := by
  unfold enX
  exact ⟨a, xs, rfl, .of h, q⟩
theorem pair_S {i : Nat} {v : V} {fi fx' : Nat → Option V} {H' : Hp} (S : Star H ps) (y : YPair fi fx' i H v H') : ∃ T x z, v = .ref T ∧ fi i = some x ∧ fx' i = some z ∧ Star H' (fx T (.tup [x, z]) :: ps) := by
  obtain ⟨T, x, z, h1, h2, h3, h4, h5⟩ := y
  subst h1 h3
  exact ⟨T, x, z, rfl, h4, h5, S.newT h2⟩
/-- [.. for i, x in enumerate(xs) if ..] -/
theorem lc_en {is vs : List Nat} {tt : TT} {te : TE} {σ : L2.St} (p : Nat → Bool) (f : Nat → V) (hz : xs.length ≤ 16777216) (S : Star H (pt a (.lst xs) :: ps)) (hi : is.length = 2)
    (hw : ∀ (i : Nat) x, wipe (sputs (wipe σ vs) is [.int i, x]) vs = wipe σ vs)
    (ht : ∀ (i : Nat) x H1 D acc (R : Bool → Hp → Prop), xs[i]? = some x → Star H1 (pt D (.lst acc) :: pt a (.lst xs) :: ps) → (∀ H2, Star H2 (pt D (.lst acc) :: pt a (.lst xs) :: ps) → R (p i) H2) → tt (sputs (wipe σ vs) is [.int i, x]) H1 R)
    (he : ∀ (i : Nat) x H1 D acc (R : VK), xs[i]? = some x → p i = true → Star H1 (pt D (.lst acc) :: pt a (.lst xs) :: ps) → (∀ H2, Star H2 (pt D (.lst acc) :: pt a (.lst xs) :: ps) → R (f i) H2) → te (sputs (wipe σ vs) is [.int i, x]) H1 R)
    (q : ∀ D H1, Star H1 (pt D (.lst (((List.range xs.length).filter p).map f)) :: pt a (.lst xs) :: ps) → Q (.ref D) H1) :
    ∀ D, H D = none → LoopC (Ite K a) (gU K is) tt te vs σ D H Q := by
  intro D hD
  refine LoopC.it walk_enum (fun i H1 => Star H1 (pt D (.lst (((List.range i).filter p).map f)) :: pt a (.lst xs) :: ps)) (S.newL hD) (fun i H1 _ S1 => .of S1.p1.get) ?_ (fun H1 S1 => q D H1 S1)
  rintro i v H1 H2 hi' S1 y
  obtain ⟨T, x, z, rfl, e1, e2, S2⟩ := pair_S S1 y
  cases e1
  unfold gU
  refine unp_t S2.getF hi ⟨hw i z, ht i z _ D _ _ e2 S2.tail fun H3 S3 => ?_⟩
  cases hp : p i with
  | false =>
    rw [if_neg Bool.false_ne_true, ranges_succ, List.filter_append, List.filter_cons_of_neg (by simp [hp]), List.filter_nil, List.append_nil]
    exact S3
  | true =>
    rw [if_pos rfl]
    refine he i z _ D _ _ e2 hp S3 fun H4 S4 => ⟨_, S4.get, ?_, ?_⟩
    · have h1 := fm_len f p i
      rw [sizeLine_eq]
      omega
    · rw [ranges_succ, List.filter_append, List.filter_cons_of_pos hp, List.filter_nil, List.map_append, List.map_cons, List.map_nil]
      exact S4.updL
end
theorem atI_last {α : Type} {xs : List α} {x : α} (h : xs.getLast? = some x) : atI xs (-1) = some x := by
  have hne : xs ≠ [] := fun z => by
    rw [z] at h
    cases h
  have hl : 0 < xs.length := List.length_pos_iff.mpr hne
  have e : ixN xs.length (-1) = some (xs.length - 1) := by
    unfold ixN
    rw [if_neg (by omega), if_pos (by omega)]
    congr 1
    omega
  unfold atI
  rw [e]
  show xs[xs.length - 1]? = some x
  rw [← List.getLast?_eq_getElem?]
  exact h
theorem stf_S {cs : List Addr} {f : Str} {y : V} {H : Hp} {ps : List SP} {Q : Hp → Prop} {a C dx : Addr} {fs : List (Str × V)} (S : Star H (pt a (.ins C dx fs) :: ps)) (hc : C ∈ cs) (z : fs.length < 1000) (q : ∀ H', Star H' (pt a (.ins C dx (putF f y fs)) :: ps) → Q H') : stfX cs f y (.ref a) H Q := by
  unfold stfX
  exact ⟨a, C, dx, fs, rfl, hc, S.get, z, q _ (S.upd' id)⟩
theorem Star.ints {H : Hp} {F : List SP} : ∀ {xs : List Nat}, Star H F → Star H (dats (xs.map fun k => V.int (k : Nat)) (xs.map fun k => PyData.int (k : Nat)) :: F)
  | [], S => dats_n.mpr ⟨rfl, S⟩
  | x :: xs, S => dats_c.mpr ⟨_, _, rfl, dat_i.mpr ⟨rfl, Star.ints (xs := xs) S⟩⟩
theorem Fr.ints {ps qs : List SP} {xs : List Nat} (h : Fr ps qs) : Fr ps (dats (xs.map fun k => V.int (k : Nat)) (xs.map fun k => PyData.int (k : Nat)) :: qs) := fun H S => Star.ints (h H S)
theorem ints_of {H : Hp} {F : List SP} : ∀ {xs : List Nat} {vs : List V}, Star H (dats vs (xs.map fun k => PyData.int (k : Nat)) :: F) → vs = xs.map (fun k => V.int (k : Nat)) ∧ Star H F
  | [], vs, S => by
    obtain ⟨e, S1⟩ := dats_n.mp S
    exact ⟨e, S1⟩
  | x :: xs, vs, S => by
    obtain ⟨v, r, e, S1⟩ := dats_c.mp S
    obtain ⟨e2, S2⟩ := dat_i.mp S1
    obtain ⟨e3, S3⟩ := ints_of (xs := xs) S2
    exact ⟨by rw [e, e2, e3]; rfl, S3⟩
/-- a new instance -/
theorem mk_S {C : Addr} {H : Hp} {ps : List SP} {R : Addr → Hp → Prop} (S : Star H ps) (q : ∀ x dx H', Star H' (pt x (.ins C dx []) :: ps) → R x H') : ∀ x dx, H x = none → H dx = none → dx ≠ x → R x (upd (upd H dx (.own x)) x (.ins C dx [])) := fun x dx hx hd hne => by
  have S1 : Star (upd H dx (.own x)) (pt dx (.own x) :: ps) := S.new' hd id
  have S2 := S1.new' (a := x) (o := .ins C dx []) (by rw [upd_ne (Ne.symm hne)]; exact hx) id
  exact q x dx _ S2.p1.tail
theorem Star.mkI {C x dx : Addr} {H : Hp} {ps : List SP} (S : Star H ps) (hx : H x = none) (hd : H dx = none) (hne : dx ≠ x) : Star (upd (upd H dx (.own x)) x (.ins C dx [])) (pt x (.ins C dx []) :: ps) := by
  have S1 : Star (upd H dx (.own x)) (pt dx (.own x) :: ps) := S.new' hd id
  have S2 := S1.new' (a := x) (o := .ins C dx []) (by rw [upd_ne (Ne.symm hne)]; exact hx) id
  exact S2.p1.tail
/-- the j-th statement of a class's body -/
def clsAt (s : Stmt) (j : Nat) : Stmt := match s with
  | .ClassDef _ _ _ b _ _ _ _ _ _ _ => b.getD j (.Pass ⟨0, 0, 0, 0⟩)
  | _ => .Pass ⟨0, 0, 0, 0⟩
theorem cl0 {P : Addr → Prop} : ∀ D ∈ ([] : List Addr), P D := fun D hD => absurd hD List.not_mem_nil
section
variable {X : Cx} {D C : Addr} {b : Bool} {tbl : List (Addr × Bool)} {xt : List (Value × Bool)} {cls c : Value}
theorem is0 : ∀ C b, (C, b) ∈ ([] : List (Addr × Bool)) → Cls X.K C ∧ IsC X.K C ∧ PySem.W.kitOne X.K (.ref C) (.ref D) = some b := fun C b h => absurd h List.not_mem_nil
theorem is1 (h : Cls X.K C ∧ IsC X.K C ∧ PySem.W.kitOne X.K (.ref C) (.ref D) = some b) (t : ∀ C b, (C, b) ∈ tbl → Cls X.K C ∧ IsC X.K C ∧ PySem.W.kitOne X.K (.ref C) (.ref D) = some b) :
    ∀ C' b', (C', b') ∈ (C, b) :: tbl → Cls X.K C' ∧ IsC X.K C' ∧ PySem.W.kitOne X.K (.ref C') (.ref D) = some b' := fun C' b' hm => by
  rcases List.mem_cons.mp hm with e | e
  · cases e
    exact h
  · exact t C' b' e
theorem xt0 : ∀ cls b, (cls, b) ∈ ([] : List (Value × Bool)) → PySem.W.exmOne X.K cls c = some b := fun C b h => absurd h List.not_mem_nil
theorem xt1 (h : PySem.W.exmOne X.K cls c = some b) (t : ∀ cls b, (cls, b) ∈ xt → PySem.W.exmOne X.K cls c = some b) : ∀ cls' b', (cls', b') ∈ (cls, b) :: xt → PySem.W.exmOne X.K cls' c = some b' := fun C' b' hm => by
  rcases List.mem_cons.mp hm with e | e
  · cases e
    exact h
  · exact t C' b' e
/-- a class, read -/
theorem mcls {x : Str} {p : Pos} (gl : Gl X x) (hm : X.mg x = some (.ref C)) (hdb : (x == ("__debug__" : Str)) = false := by decide +kernel) : PE X (.Name x p) (eC (.ref C)) := by
  constructor
  intro pins s σ H Q I h
  exact ld_glob I gl hm ⟨.ref C, H, I.tok _, rfl, h⟩ hdb
end
end MK

/-! isinstance of a caught error that has fields -/
namespace PySem.W
open PySem PySem.Spec PySem.Calls PyProof.Rows
section
variable {prog : Program} {w : World} {A : Around} {E : Value → Shared → Prop} {s : Shared} {K : Frag} {x D : Addr} {ox : Obj} {od : Option Obj}
theorem mk_findData {C : Addr} {name : Str} {a g : Value} (hc : (clsIn K C).isSome = true) (ha : findIn K (.ref C) name = some (some a)) (hg : specialIn K a "__get__" = some (some g)) (ht : takesIn K a = some true) : findObj K C od name = some (.bind g a) := by
  cases hcd : clsIn K C with
  | none =>
    rw [hcd] at hc
    cases hc
  | some cd =>
    unfold findObj
    rw [hcd, Option.bind_some, ha, Option.bind_some]
    simp [hg, ht]
theorem mk_kinE {Q : Option Value → Shared → Prop} (e : L2.ExcC K D) (X : K.In s.heap) (I : InstAt s.heap x ox D od) (h : Q (some (.ref D)) { s with toks := s.toks + 1 }) : wpAny (model prog w) A (getAttr? (.ref x) "__class__") Q E s := by
  have hf : findObj K D od "__class__" = some (.bind (.builtin "getset_descriptor.__get__") (.builtin "object.__class__")) := mk_findData (by obtain ⟨cd, hc, _⟩ := any_some e.hd; rw [hc]; rfl) e.ha e.hn e.ht
  obtain ⟨hp, g, d, t, os⟩ := s
  have y0 := I.type (M := model prog w)
  have y1 := looks_findIn (M := model prog w) X e.hg
  have y2 := looks_findIn (M := model prog w) X e.hk
  have y3 := looks_find (M := model prog w) X I hf
  have sub : Looks (model prog w) hp (isInstance (.ref x) (.type "BaseException")) true := y0.andThen (looks_subIn X e.hs)
  have z0 : (false && onTheHeap (Value.builtin "BaseException.__getattribute__")) = false := rfl
  have z2 : (Value.builtin "BaseException.__getattribute__" == Value.builtin "object.__getattribute__") = false := by decide +kernel
  have z1 : (onTheHeap (Value.ref D) && Value.builtin "BaseException.__getattribute__" == Value.builtin "object.__getattribute__") = false := by rw [z2]; rfl
  unfold getAttr? getAttrBy? getAttrBy
  refine wpAny_bind (wpAny_mkText (wpAny_bind (wpAny_attempt (wpAny_holding (wpAny_bind (y0.at (wpAny_bind (y1.at ?_))))))))
  show wpAny _ _ (if (onTheHeap (Value.ref D) && Value.builtin "BaseException.__getattribute__" == Value.builtin "object.__getattribute__") = true then _ else _) _ _ _
  rw [z1, if_neg Bool.false_ne_true]
  unfold getAttrByItsOwn hookBefore
  refine wpAny_bind ?_
  rw [if_pos (show onTheHeap (Value.ref D) = true from rfl)]
  refine y2.at ?_
  refine wpAny_bind (wpAny_attempt (wpAny_holding ?_))
  unfold callGetattribute
  rw [z0, if_neg Bool.false_ne_true]
  unfold boundAndCalled
  rw [PySem.F.excAttr_ValueError.ga.bind (.ref x)]
  refine wpAny_bind (wpAny_pure ?_)
  show wpAny _ _ (call (.builtin "BaseException.__getattribute__") [.ref x, .str "__class__" t]) _ _ _
  refine wpAny_call (codeAny_call_builtin PySem.F.excAttr_ValueError.ga.plain PySem.F.entry_bexc_ga ?_)
  refine @check_slot (model prog w) _ _ ⟨hp, g, d, t + 1, os⟩ "BaseException.__getattribute__" "BaseException" "__getattribute__" (.ref x) [.str "__class__" t] [] _ (by decide +kernel) (by decide +kernel) sub (PySem.F.args_bexc_ga (.ref x) (.str "__class__" t)) ?_
  unfold Builtin.«object.__getattribute__»
  refine wpAny_bind (wpAny_of_eq (a := ((Value.ref x : Value), [Value.str "__class__" t])) (by first | rfl | (simp only [slotArgs]; rfl)) ?_)
  refine wpAny_bind (wpAny_pure (wpAny_bind (y0.at (wpAny_bind (y3.at ?_)))))
  show wpAny _ _ (holding [Value.builtin "object.__class__"] (call (.builtin "getset_descriptor.__get__") [.builtin "object.__class__", .ref x, .ref D]) >>= ret) _ _ _
  refine wpAny_bind (wpAny_holding (wpAny_call (class_get (s := ⟨hp, g, d, t + 1, os⟩) (ox := ox) (od := od) X I e.hm ?_)))
  refine wpAny_pure ?_
  show wpAny _ _ (handedOut (.ref D)) _ _ _
  rw [handedOut_of (v := .ref D) rfl]
  first
    | exact wpAny_pure (wpAny_pure h)
    | exact wpAny_pure h
    | exact wpAny_pure (wpAny_bind (wpAny_pure (wpAny_pure h)))
theorem mk_kitE (e : L2.ExcC K D) : KitX K (.ref x) (.ref D) (fun h => InstAt h x ox D od) where
  ty := fun _ _ _ I => I.type
  it := fun _ _ X _ => by
    obtain ⟨cdD, hcD, _⟩ := any_some e.hd
    unfold clsIn at hcD
    split at hcD
    · rename_i c' d' cd' sl' ho
      intro A' Q' E' s' k q
      unfold isType loadHead
      exact wpAny_bind (wpAny_loadPart (k _ _ (X _ _ ho)) (wpAny_pure q))
    · cases hcD
  ne := fun h tp dd its n sl X htp => by
    obtain ⟨cdD, hcD, _⟩ := any_some e.hd
    refine Bool.eq_false_iff.mpr fun q => ?_
    have e : D = tp := Value.ref.inj (beq_iff_eq.mp q)
    subst e
    unfold clsIn at hcD
    split at hcD
    · rename_i c' d' cd' sl' ho
      have z := (X _ _ ho).symm.trans htp
      cases z
    · cases hcD
  ca := fun X I k => mk_kinE e X I k
end
end PySem.W
namespace MK
open PySem PySem.Spec PyProof.Rows L2
@[irreducible] def exiX (cls : Value) (d : Option Addr) (tbl : List (Addr × Bool)) (H : Hp) (Q : VK) : Prop := ∃ (C dd : Addr) (b : Bool) (fs : List (Str × V)), cls = .ref C ∧ (C, b) ∈ tbl ∧ d = some dd ∧ H dd = some (.xd fs) ∧ Q (.bl b) H
theorem exi_i {C dd : Addr} {b : Bool} {tbl : List (Addr × Bool)} {H : Hp} {Q : VK} {fs : List (Str × V)} (h : H dd = some (.xd fs)) (hm : (C, b) ∈ tbl) (q : Q (.bl b) H) : exiX (.ref C) (some dd) tbl H Q := by
  unfold exiX
  exact ⟨C, dd, b, fs, rfl, hm, rfl, h, q⟩
def cIsE (a : Addr) (cls : Value) (d : Option Addr) (D : Addr) (tbl : List (Addr × Bool)) : List V → Hp → VK → Prop := fun xs H Q => match xs with
  | [x, .ref E] => (x = .ref a ∧ E = D) ∧ exiX cls d tbl H Q
  | _ => False
theorem k_isE {X : Cx} {a D : Addr} {oe : Obj} {cls : Value} {d : Option Addr} {pn : List (Addr × Obj)} {tbl : List (Addr × Bool)} (ht : ∀ C b, (C, b) ∈ tbl → ExcC X.K C ∧ PySem.W.kitOne X.K (.ref C) (.ref D) = some b) (hz : Zc cls d oe) (hf : ∃ vs, oe.data = .fields vs) :
    CallR (X.suite a ((a, oe) :: pn)) (.builtin "isinstance") (cIsE a cls d D tbl) := by
  intro pins s σ H xs us Q I r h
  unfold cIsE at h
  split at h
  · rename_i x E
    obtain ⟨⟨e1, e2⟩, q⟩ := h
    subst e1 e2
    unfold exiX at q
    obtain ⟨C, dd, b, fs, ec, hm, ed, ea, q⟩ := q
    subst ec ed
    obtain ⟨hC, hk⟩ := ht C b hm
    obtain ⟨u1, u2, rfl, r1, r2⟩ := vals2 r
    cases (show u1 = Value.ref a from r1)
    cases (show u2 = Value.ref E from r2)
    obtain ⟨hget, _⟩ := I.pin (a, oe) (List.mem_append.mpr (.inl List.mem_cons_self))
    obtain ⟨vs, hv⟩ := hf
    obtain ⟨mA, hns, hr⟩ : ObjOk X.prog X.w H s.heap dd (.xd fs) := I.hok dd _ ea
    obtain ⟨od, ho, hl⟩ := lookIn_ns hns
    have J : PySem.W.InstAt s.heap a oe C (some od) := ⟨hget, hz.1, by unfold PySem.W.notCls; rw [hv] <;> rfl, by rw [hz.2]; exact ho⟩
    exact PySem.W.kia_one (PySem.W.mk_kitE hC) I.kIn J hk (fun z => nomatch z) fun tk => ⟨.bl b, H, I.kept (t' := tk) fun _ _ z => z, rfl, q⟩
  · exact h.elim
section
variable {X : Cx} {D C : Addr} {b : Bool} {tbl : List (Addr × Bool)}
theorem ie0 : ∀ C b, (C, b) ∈ ([] : List (Addr × Bool)) → ExcC X.K C ∧ PySem.W.kitOne X.K (.ref C) (.ref D) = some b := fun C b h => absurd h List.not_mem_nil
theorem ie1 (h : ExcC X.K C ∧ PySem.W.kitOne X.K (.ref C) (.ref D) = some b) (t : ∀ C b, (C, b) ∈ tbl → ExcC X.K C ∧ PySem.W.kitOne X.K (.ref C) (.ref D) = some b) :
    ∀ C' b', (C', b') ∈ (C, b) :: tbl → ExcC X.K C' ∧ PySem.W.kitOne X.K (.ref C') (.ref D) = some b' := fun C' b' hm => by
  rcases List.mem_cons.mp hm with e | e
  · cases e
    exact h
  · exact t C' b' e
end
end MK

namespace MK
open PySem PySem.Spec PyProof.Rows L2

/-! ### further methods of lists -/
@[irreducible] def opPop : V → List V → Hp → VK → Prop := fun x vs H Q => rPop x vs H Q ∨ rPopAt x vs H Q
@[irreducible] def opRev : V → List V → Hp → VK → Prop := rReverse
@[irreducible] def opClr : V → List V → Hp → VK → Prop := rClear
@[irreducible] def opExt : V → List V → Hp → VK → Prop := rExtend
@[irreducible] def opRem : V → List V → Hp → VK → Prop := rRemI
@[irreducible] def opIns : V → List V → Hp → VK → Prop := fun x vs H Q => ∃ (l : Addr) (xs : List V) (i : Int) (y : V), x = .ref l ∧ vs = [.int i, y] ∧ H l = some (.lst xs) ∧ xs.length < sizeLine ∧ 0 ≤ i ∧ i < 2 ^ 63 ∧
    Q .non (upd H l (.lst (xs.take i.toNat ++ [y] ++ xs.drop i.toNat)))
@[irreducible] def opIdx (K : PySem.W.Frag) : V → List V → Hp → VK → Prop := rIndex K
section
variable {X : Cx}
theorem t_pop : MtM X "list.pop" opPop := by
  unfold opPop
  exact MtR.or mt_pop mt_popAt
theorem t_rev : MtM X "list.reverse" opRev := by
  unfold opRev
  exact mt_reverse
theorem t_clr : MtM X "list.clear" opClr := by
  unfold opClr
  exact mt_clear
theorem t_ext : MtM X "list.extend" opExt := by
  unfold opExt
  exact mt_extend
theorem t_rem : MtM X "list.remove" opRem := by
  unfold opRem
  exact mt_remove
theorem t_ins : MtM X "list.insert" opIns := by
  unfold opIns
  exact mt_insert
theorem t_idx : MtM X "list.index" (opIdx X.K) := by
  unfold opIdx
  exact mt_index
end
section
variable {K : PySem.W.Frag} {H : Hp} {Q : VK} {ps : List SP} {a b : Addr} {xs ys : List V} {y : V}
theorem rev_S (S : Star H (pt a (.lst xs) :: ps)) (q : ∀ H', Star H' (pt a (.lst xs.reverse) :: ps) → Q .non H') : opRev (.ref a) [] H Q := by
  unfold opRev
  exact ⟨a, xs, rfl, rfl, S.get, q _ S.updL⟩
theorem clr_S (S : Star H (pt a (.lst xs) :: ps)) (q : ∀ H', Star H' (pt a (.lst []) :: ps) → Q .non H') : opClr (.ref a) [] H Q := by
  unfold opClr
  exact ⟨a, xs, rfl, rfl, S.get, q _ S.updL⟩
theorem pop_S (S : Star H (pt a (.lst (xs ++ [y])) :: ps)) (q : ∀ H', Star H' (pt a (.lst xs) :: ps) → Q y H') : opPop (.ref a) [] H Q := by
  unfold opPop
  refine .inl ⟨a, xs ++ [y], y, rfl, rfl, S.get, ?_, ?_⟩
  · rw [List.length_append, List.length_singleton, Nat.add_sub_cancel]
    exact List.getElem?_concat_length
  · rw [List.dropLast_concat]
    exact q _ S.updL
theorem popAt_S {k : Nat} (S : Star H (pt a (.lst xs) :: ps)) (hk : xs[k]? = some y) (hz : xs.length < 16777216) (q : ∀ H', Star H' (pt a (.lst (xs.eraseIdx k)) :: ps) → Q y H') : opPop (.ref a) [.int (k : Int)] H Q := by
  unfold opPop
  have h1 := (List.getElem?_eq_some_iff.mp hk).1
  have e63 : (2 : Int) ^ 63 = 9223372036854775808 := by decide
  refine .inr ⟨a, xs, (k : Int), k, y, rfl, rfl, S.get, by rw [e63]; omega, by rw [e63]; omega, ?_, hk, q _ S.updL⟩
  unfold seqIndex?
  simp
  omega
theorem ext_S (S : Star H (pt a (.lst xs) :: ps)) (hb : H b = some (.lst ys)) (hz : xs.length + ys.length ≤ 16777216) (q : ∀ H', Star H' (pt a (.lst (xs ++ ys)) :: ps) → Q .non H') : opExt (.ref a) [.ref b] H Q := by
  unfold opExt
  exact ⟨a, b, xs, ys, rfl, rfl, S.get, hb, by rw [sizeLine_eq]; exact hz, q _ S.updL⟩
theorem ins_S {k : Nat} (S : Star H (pt a (.lst xs) :: ps)) (hz : xs.length < 16777216) (hk : k ≤ xs.length) (q : ∀ H', Star H' (pt a (.lst (xs.take k ++ [y] ++ xs.drop k)) :: ps) → Q .non H') : opIns (.ref a) [.int (k : Int), y] H Q := by
  unfold opIns
  have e63 : (2 : Int) ^ 63 = 9223372036854775808 := by decide
  exact ⟨a, xs, (k : Int), y, rfl, rfl, S.get, by rw [sizeLine_eq]; exact hz, by omega, by rw [e63]; omega, q _ S.updL⟩
theorem rem_S {ns : List Int} {k : Int} {j : Nat} (S : Star H (pt a (.lst (ns.map V.int)) :: ps)) (hj : ns[j]? = some k) (hn : ∀ m : Nat, m < j → ns[m]? ≠ some k) (q : ∀ H', Star H' (pt a (.lst ((ns.eraseIdx j).map V.int)) :: ps) → Q .non H') : opRem (.ref a) [.int k] H Q := by
  unfold opRem
  exact ⟨a, ns, k, j, rfl, rfl, S.get, hj, hn, q _ S.updL⟩
end

/-! ### slices -/
@[irreducible] def slX (K : PySem.W.Frag) : V → Option Int → Option Int → Hp → VK → Prop := fun x lo hi H Q => rSlL K x lo hi H Q ∨ rSlA K x lo hi H Q ∨ rSlS x lo hi H Q
theorem sl_any {X : Cx} : SlR X (slX X.K) := by
  unfold slX
  exact SlR.or sl_list (SlR.or sl_tupA sl_str)
theorem msl {X : Cx} {e : Expr} {lo hi : Option Expr} {te : TE} {tl th : TO} {p2 pos : Pos} (he : PE X e te) (hl : PO X lo tl) (hu : PO X hi th) : PE X (.Subscript e (.Slice lo hi none p2) pos) (tSl (slX X.K) te tl th) := pe_slice sl_any he hl hu
section
variable {K : PySem.W.Frag} {H : Hp} {Q : VK} {ps : List SP} {a : Addr} {xs : List V} {lo hi : Option Int}
theorem sl_S (S : Star H ps) (h : H a = some (.lst xs)) (q : ∀ p H', Star H' (pt p (.lst (cutV xs lo hi)) :: ps) → Q (.ref p) H') : slX K (.ref a) lo hi H Q := by
  unfold slX
  exact .inl ⟨a, xs, rfl, .of h, fun p hp => q p _ (S.newL hp)⟩
theorem slq_S (S : Star H ps) (h : SqL K H a xs) (q : ∀ p H', Star H' (pt p (.lst (cutV xs lo hi)) :: ps) → Q (.ref p) H') : slX K (.ref a) lo hi H Q := by
  unfold slX
  exact .inl ⟨a, xs, rfl, h, fun p hp => q p _ (S.newL hp)⟩
theorem sls_i {z : Str} (h : z.length ≤ 16777216) (q : Q (.str (cutS z lo hi)) H) : slX K (.str z) lo hi H Q := by
  unfold slX
  exact .inr (.inr ⟨z, rfl, by rw [sizeLine_eq]; exact h, q⟩)
theorem cut_to (k : Nat) : cutV xs none (some (k : Int)) = xs.take k := by
  unfold cutV
  rw [HT.sIx_none, HT.sIx_nat, List.drop_zero, Nat.sub_zero]
  by_cases h : k ≤ xs.length
  · rw [Nat.min_eq_left h]
  · rw [Nat.min_eq_right (by omega), List.take_of_length_le (by omega), List.take_of_length_le (by omega)]
theorem cut_from (k : Nat) : cutV xs (some (k : Int)) none = xs.drop k := by
  unfold cutV
  rw [HT.sIx_none, HT.sIx_nat]
  by_cases h : k ≤ xs.length
  · rw [Nat.min_eq_left h, List.take_of_length_le (by rw [List.length_drop]; omega)]
  · rw [Nat.min_eq_right (by omega), List.drop_of_length_le (by omega), List.drop_of_length_le (by omega), List.take_nil]
theorem cut_mid (k j : Nat) (hj : j ≤ xs.length) (hk : k ≤ j) : cutV xs (some (k : Int)) (some (j : Int)) = (xs.drop k).take (j - k) := by
  unfold cutV
  rw [HT.sIx_nat, HT.sIx_nat, Nat.min_eq_left hj, Nat.min_eq_left (show k ≤ xs.length by omega)]
end

/-! ### reversed -/
@[irreducible] def rvX (K : PySem.W.Frag) (x : V) (H : Hp) (R : It → Hp → Prop) : Prop := ∃ (a : Addr) (xs : List V), x = .ref a ∧ ((SqL K H a xs ∧ R (Itv K a xs.length) H) ∨ (SqT K H a xs ∧ R (RT.ItvT K a xs.length) H))
def iRv (K : PySem.W.Frag) (te : TE) : TI := fun σ H R => te σ H fun v H1 => rvX K v H1 R
theorem mrv {X : Cx} {tg e : Expr} {te : TE} {p pos : Pos} (hg : Gl X "reversed") (hm : X.mg "reversed" = none) (he : PE X e te) (hs : starEach [e] X.env = (false, eval e X.env) :: starEach [] X.env := by rfl) : PI X tg (.Call (.Name "reversed" p) [e] [] pos) (iRv X.K te) := by
  have e : iRv X.K te = RT.iRevA X.K te := by
    unfold iRv RT.iRevA rvX
    rfl
  rw [e]
  exact RT.pi_revA hg hm he hs
theorem rv_l {K : PySem.W.Frag} {H : Hp} {a : Addr} {xs : List V} {R : It → Hp → Prop} (h : H a = some (.lst xs)) (q : R (Itv K a xs.length) H) : rvX K (.ref a) H R := by
  unfold rvX
  exact ⟨a, xs, rfl, .inl ⟨.of h, q⟩⟩
/-- reversed(range(n)) -/
@[irreducible] def rvrX (x : V) (H : Hp) (R : It → Hp → Prop) : Prop := ∃ n, x = .int n ∧ (-(2 ^ 62) ≤ (0 : Int) ∧ (0 : Int) < 2 ^ 62 ∧ -(2 ^ 62) ≤ n ∧ n < 2 ^ 62 ∧ R (Itc (0 + (((n - 0).toNat : Nat) : Int) - 1) (-1) (n - 0).toNat) H)
def iRvR (te : TE) : TI := fun σ H R => te σ H fun x H1 => rvrX x H1 R
theorem mrvR {X : Cx} {tg a : Expr} {te : TE} {p p1 pos pos1 : Pos} (hg : Gl X "reversed") (hm : X.mg "reversed" = none) (hg1 : Gl X "range") (hm1 : X.mg "range" = none) (ha : PE X a te) (na : starEach [a] X.env = (false, eval a X.env) :: starEach [] X.env := by rfl)
    (hs : starEach [(Expr.Call (.Name "range" p1) [a] [] pos1)] X.env = (false, eval (.Call (.Name "range" p1) [a] [] pos1) X.env) :: starEach [] X.env := by rfl) :
    PI X tg (.Call (.Name "reversed" p) [.Call (.Name "range" p1) [a] [] pos1] [] pos) (iRvR te) := by
  have e : iRvR te = iRevR (tRg1 te) := by
    unfold iRvR iRevR tRg1 rvrX
    rfl
  rw [e]
  exact pi_revR hg hm (prg_1 hg1 hm1 ha na) hs
theorem rvr_i {n : Nat} {H : Hp} {R : It → Hp → Prop} (hn : n < 4611686018427387904) (q : R (Itc ((n : Int) - 1) (-1) n) H) : rvrX (.int (n : Int)) H R := by
  unfold rvrX
  have e62 : (2 : Int) ^ 62 = 4611686018427387904 := by decide
  have e1 : ((n : Int) - 0).toNat = n := by omega
  refine ⟨n, rfl, by rw [e62]; omega, by rw [e62]; omega, by rw [e62]; omega, by rw [e62]; omega, ?_⟩
  rw [e1]
  have e2 : (0 : Int) + (n : Nat) - 1 = (n : Int) - 1 := by omega
  rw [e2]
  exact q

/-! ### try .. except C -/
@[irreducible] def wOnM (tbl : List (Value × Bool)) (ts : Addr → Value → Option Addr → TS) (Wout : WX) (D : Ends) : WX := fun cls d σ H => ((cls, true) ∈ tbl ∧ ∀ a, H a = none → ts a cls d D σ H) ∨ ((cls, false) ∈ tbl ∧ Wout cls d σ H)
def sTryO (tbl : List (Value × Bool)) (W : WX) (tb : WX → TS) (ts : Addr → Value → Option Addr → TS) : TS := fun D σ H => tb (wOnM tbl ts W D) D σ H
section
variable {tbl : List (Value × Bool)} {ts : Addr → Value → Option Addr → TS} {Wout : WX} {D : Ends} {cls : Value} {d : Option Addr} {σ : L2.St} {H : Hp}
theorem won_y (h : (cls, true) ∈ tbl) (q : ∀ a, H a = none → ts a cls d D σ H) : wOnM tbl ts Wout D cls d σ H := by
  unfold wOnM
  exact .inl ⟨h, q⟩
theorem won_n (h : (cls, false) ∈ tbl) (q : Wout cls d σ H) : wOnM tbl ts Wout D cls d σ H := by
  unfold wOnM
  exact .inr ⟨h, q⟩
end
section
variable {X : Cx} {x : Str} {c : Value} {body suite : List Stmt} {b₀ : Stmt} {np pos pos' : Pos} {tb : WX → TS} {ts : Addr → Value → Option Addr → TS} {Wout : WX} {tbl : List (Value × Bool)}
theorem mtry_o (hs : X.stack = X.env :: X.outer) (hf : X.env.frame = some X.env.locals) (hc : Names X x c) (tk : Takes X Wout)
    (ht : ∀ cls b, (cls, b) ∈ tbl → PySem.W.exmOne X.K cls c = some b)
    (hb : ∀ (W : WX) (pn : List (Addr × Obj)) (xe : Value → Shared → Prop), Takes (X.tr pn xe) W → PassesOwn (model X.prog X.w) X.A X.env xe → PSs (X.tr pn xe) body (tb W))
    (hsu : ∀ (a : Addr) (oe : Obj) (cls : Value) (d : Option Addr) (pn : List (Addr × Obj)), Zc cls d oe → (∃ vs, oe.data = .fields vs) → PSs (X.suite a ((a, oe) :: pn)) (b₀ :: suite) (ts a cls d)) :
    PS X (.Try body [.ExceptHandler (some (.Name x np)) none (b₀ :: suite) pos'] [] [] pos) (sTryO tbl Wout tb ts) := by
  have R := ps_try_only (pos := pos) (np := np) (pos' := pos') (tb := fun W D σ H => ∃ W' : WX, (∀ c d σ H, W' c d σ H → W c d σ H) ∧ tb W' D σ H) hs hf hc tk (fun W pn xe t po => ⟨fun pins s σ H D I h => by
    obtain ⟨W', hw, h⟩ := h
    exact (hb W' pn xe (t.imp hw) po).run pins s σ H D I h⟩) hsu
  refine ⟨fun pins s σ H D I h => R.run pins s σ H D I ⟨_, ?_, h⟩⟩
  intro cls d σ' H' q
  unfold wOnM at q
  rcases q with ⟨hm, q⟩ | ⟨hm, q⟩
  · exact ⟨true, ht _ _ hm, fun _ => q, fun z => by cases z⟩
  · exact ⟨false, ht _ _ hm, (fun z => by cases z), fun _ => q⟩
end
end MK

namespace MK
open PySem PySem.Spec PyProof.Rows L2
/-! ### zip of two lists -/
@[irreducible] def znX (K : PySem.W.Frag) (vs : List V) (H : Hp) (R : It → Hp → Prop) : Prop := ∃ a b xs ys, vs = [.ref a, .ref b] ∧ SqL K H a xs ∧ SqL K H b ys ∧ R (Itz K a b) H
def iZn (K : PySem.W.Frag) (ta : TA) : TI := fun σ H R => ta σ H fun vs H1 => znX K vs H1 R
theorem mzip {X : Cx} {e e2 : Expr} {ta : TA} {p pos tpos : Pos} {elts : List Expr} {kk : Nat} (hg : Gl X "zip") (hm : X.mg "zip" = none) (ha : PA X [e, e2] ta)
    (hs : starEach [e, e2] X.env = (false, eval e X.env) :: starEach [e2] X.env := by rfl) (hpl : (backTo pos (starEach [e2] X.env)).any (·.1) = false := by rfl) :
    PI X (.Tuple elts kk tpos) (.Call (.Name "zip" p) [e, e2] [] pos) (iZn X.K ta) := by
  have e : iZn X.K ta = iZip X.K ta := by
    unfold iZn iZip znX
    rfl
  rw [e]
  exact pi_zip hg hm ha hs hpl
theorem zn_l {K : PySem.W.Frag} {H : Hp} {a b : Addr} {xs ys : List V} {R : It → Hp → Prop} (h : H a = some (.lst xs)) (h2 : H b = some (.lst ys)) (q : R (Itz K a b) H) : znX K [.ref a, .ref b] H R := by
  unfold znX
  exact ⟨a, b, xs, ys, rfl, .of h, .of h2, q⟩
/-! ### xs[::-1] -/
@[irreducible] def rlX (K : PySem.W.Frag) (x : V) (H : Hp) (Q : VK) : Prop := ∃ a xs, x = .ref a ∧ SqL K H a xs ∧ ∀ p, H p = none → Q (.ref p) (upd H p (.lst xs.reverse))
def eRl (K : PySem.W.Frag) (te : TE) : TE := fun σ H Q => te σ H fun x H1 => rlX K x H1 Q
theorem mrl {X : Cx} {e : Expr} {te : TE} {p1 p2 p3 pos : Pos} {k : Nat} (he : PE X e te) : PE X (.Subscript e (.Slice none none (some (.UnaryOp .USub (.Constant (.int 1) k p1) p2)) p3) pos) (eRl X.K te) := by
  have e : eRl X.K te = tRevL X.K te := by
    unfold eRl tRevL rlX
    rfl
  rw [e]
  exact pe_revL he
theorem rl_S {K : PySem.W.Frag} {H : Hp} {a : Addr} {xs : List V} {ps : List SP} {Q : VK} (S : Star H ps) (h : H a = some (.lst xs)) (q : ∀ p H', Star H' (pt p (.lst xs.reverse) :: ps) → Q (.ref p) H') : rlX K (.ref a) H Q := by
  unfold rlX
  exact ⟨a, xs, rfl, .of h, fun p hp => q p _ (S.newL hp)⟩
/-! ### a, b = c, d -/
def sPar (i j : Nat) (ta : TA) : TS := fun D σ H => ta σ H fun vs H1 => match vs with
  | [v, w] => D.nx ((σ.set i (some v)).set j (some w)) H1
  | _ => False
theorem sPar_eq (i j : Nat) (ta : TA) : sPar i j ta = tPar i j ta := by
  unfold sPar tPar
  funext D σ H
  congr 1
  funext vs H1
  refine propext ⟨fun h => ?_, fun ⟨v, w, e, h⟩ => by subst e; exact h⟩
  match vs, h with
  | [v, w], h => exact ⟨v, w, rfl, h⟩
theorem mpar {X : Cx} {i j : Nat} {x y : Str} {a b : Expr} {ta : TA} {px py pt pos : Pos} {kt k2 pt2} (hc : X.calm = true) (hN : X.N.Nodup) (hi : X.N[i]? = some x) (hj : X.N[j]? = some y) (hij : i ≠ j)
    (hx : X.env.scope.names.lookup x = some .local) (hy : X.env.scope.names.lookup y = some .local) (ha : PA X [a, b] ta)
    (hw : swappedStores [.Tuple [.Name x px, .Name y py] kt pt] (.Tuple [a, b] k2 pt2) X.env = pure (some [x, y]) := by rfl)
    (hs : swapsWithSole [.Tuple [.Name x px, .Name y py] kt pt] (.Tuple [a, b] k2 pt2) pos.line X.env = pure false := by rfl) :
    PS X (.Assign [.Tuple [.Name x px, .Name y py] kt pt] (.Tuple [a, b] k2 pt2) pos) (sPar i j ta) := by
  rw [sPar_eq]
  exact ps_par hc hN hi hj hij hx hy ha hw hs
end MK

namespace MK
open PySem PySem.Spec PyProof.Rows L2

/-! ### dicts: what is at a key -/
theorem valV_drop {κ : Type} [DecidableEq κ] (kvs : List (κ × V)) (k j : κ) : valV (dropK kvs k) j = if j = k then none else valV kvs j := by
  induction kvs with
  | nil =>
    show valV [] j = _
    rw [valV_nil]
    split <;> rfl
  | cons p r ih =>
    by_cases hp : p.1 = k
    · have e : dropK (p :: r) k = dropK r k := by simp [dropK, List.filter_cons, hp]
      rw [e, ih]
      by_cases hj : j = k
      · rw [if_pos hj, if_pos hj]
      · rw [if_neg hj, if_neg hj, valV_neg (fun z => hj (by rw [← z, hp]))]
    · have e : dropK (p :: r) k = p :: dropK r k := by simp [dropK, List.filter_cons, hp]
      rw [e]
      by_cases hj : p.1 = j
      · rw [valV_pos hj, valV_pos hj, if_neg (fun z => hp (hj.trans z))]
      · rw [valV_neg hj, valV_neg hj, ih]

/-! ### in, not in -/
@[irreducible] def inX (K : PySem.W.Frag) (neg : Bool) : R2 := fun x y H Q => rIn K neg x y H Q ∨ ∃ a o, y = .ref a ∧ DGet H a x o ∧ Q (.bl (if neg then !o.isSome else o.isSome)) H
section
variable {X : Cx}
theorem o_in (hu : X.A.units + 64 < cLine) : OpR X (compareOp .In) (inX X.K false) := by
  intro pins s σ H x y v u Q I rx ry q
  unfold inX at q
  rcases q with q | ⟨a, o, ey, g, q⟩
  · exact op_in_seq pins s σ H x y v u Q I rx ry q
  · subst ey
    cases (show u = Value.ref a from ry)
    exact d_in (by omega) I g rx fun s3 I3 => ⟨.bl o.isSome, H, I3, rfl, q⟩
theorem o_ni (hu : X.A.units + 64 < cLine) : OpR X (compareOp .NotIn) (inX X.K true) := by
  intro pins s σ H x y v u Q I rx ry q
  unfold inX at q
  rcases q with q | ⟨a, o, ey, g, q⟩
  · exact op_notIn_seq pins s σ H x y v u Q I rx ry q
  · subst ey
    cases (show u = Value.ref a from ry)
    exact d_notIn (by omega) I g rx fun s3 I3 => ⟨.bl (!o.isSome), H, I3, rfl, q⟩
end
section
variable {K : PySem.W.Frag} {H : Hp} {Q : VK} {ps : List SP} {a b p : Addr} {xs ys : List V} {x y v : V} {n : Int} {neg : Bool}
theorem in_l (h : H a = some (.lst xs)) (fx : flatV x = true) (f : xs.all flatV = true) (q : Q (.bl (if neg then !inV x xs else inV x xs)) H) : inX K neg x (.ref a) H Q := by
  unfold inX
  exact .inl ⟨a, xs, rfl, .inl (.of h), fx, f, q⟩
theorem in_t (h : H a = some (.tup xs)) (fx : flatV x = true) (f : xs.all flatV = true) (q : Q (.bl (if neg then !inV x xs else inV x xs)) H) : inX K neg x (.ref a) H Q := by
  unfold inX
  exact .inl ⟨a, xs, rfl, .inr (.of h), fx, f, q⟩
theorem in_d {kvs : List (Key × V)} {k : Key} (h : H a = some (.dK kvs)) (q : Q (.bl (if neg then !(valV kvs k).isSome else (valV kvs k).isSome)) H) : inX K neg (kV k) (.ref a) H Q := by
  unfold inX
  exact .inr ⟨a, _, rfl, DGet.k h, q⟩
theorem in_di {kvs : List (Key × V)} (h : H a = some (.dK kvs)) (q : Q (.bl (if neg then !(valV kvs (.inl n)).isSome else (valV kvs (.inl n)).isSome)) H) : inX K neg (.int n) (.ref a) H Q := in_d (k := .inl n) h q
theorem in_ds {kvs : List (Key × V)} {z : Str} (h : H a = some (.dK kvs)) (q : Q (.bl (if neg then !(valV kvs (.inr z)).isSome else (valV kvs (.inr z)).isSome)) H) : inX K neg (.str z) (.ref a) H Q := in_d (k := .inr z) h q
theorem in_dt {kvs : List (List Key × V)} {k : List Key} (h : H a = some (.dT kvs)) (hb : H b = some (.tup (k.map kV))) (q : Q (.bl (if neg then !(valV kvs k).isSome else (valV kvs k).isSome)) H) : inX K neg (.ref b) (.ref a) H Q := by
  unfold inX
  exact .inr ⟨a, _, rfl, DGet.t h hb, q⟩
/-- whole numbers in a list of whole numbers -/
theorem inV_ints {ns : List Int} : inV (.int n) (ns.map V.int) = decide (n ∈ ns) := by
  unfold inV
  rw [List.any_map]
  induction ns with
  | nil => rfl
  | cons m r ih =>
    rw [List.any_cons, ih]
    show (decide _ || _) = _
    by_cases e : m = n
    · subst e
      simp [eqV]
    · have e2 : ¬ (n = m) := fun z => e z.symm
      simp [eqV, e, e2]
theorem flat_ints {ns : List Int} : (ns.map V.int).all flatV = true := by
  rw [List.all_map]
  exact List.all_eq_true.mpr fun _ _ => rfl
/-- stores into a dict -/
theorem setd_i {Q : Hp → Prop} {kvs : List (Key × V)} (S : Star H (pt a (.dK kvs) :: ps)) (z : kvs.length < 16777216) (q : ∀ H', Star H' (pt a (.dK (putK kvs (.inl n) v)) :: ps) → Q H') : setX (.ref a) (.int n) v H Q := set_dk (k := .inl n) S.get z (q _ (S.upd' id))
theorem setd_s {Q : Hp → Prop} {w : Str} {kvs : List (Key × V)} (S : Star H (pt a (.dK kvs) :: ps)) (z : kvs.length < 16777216) (q : ∀ H', Star H' (pt a (.dK (putK kvs (.inr w) v)) :: ps) → Q H') : setX (.ref a) (.str w) v H Q := set_dk (k := .inr w) S.get z (q _ (S.upd' id))
theorem setd_t {Q : Hp → Prop} {kvs : List (List Key × V)} {k : List Key} (S : Star H (pt a (.dT kvs) :: ps)) (hb : H b = some (.tup (k.map kV))) (z : kvs.length < 16777216) (q : ∀ H', Star H' (pt a (.dT (putK kvs k v)) :: ps) → Q H') : setX (.ref a) (.ref b) v H Q := set_dt S.get hb z (q _ (S.upd' id))
end

/-! ### displays -/
def tPs : List (TE × TE) → L2.St → Hp → (List (V × V) → Hp → Prop) → Prop
  | [], _, H, Q => Q [] H
  | (tk, tv) :: r, σ, H, Q => tk σ H fun x H1 => tv σ H1 fun y H2 => tPs r σ H2 fun ps H3 => Q ((x, y) :: ps) H3
theorem tPs_eq : ∀ (trs : List (TE × TE)) (σ : L2.St) (H : Hp) (Q : List (V × V) → Hp → Prop), tPs trs σ H Q = tPairs trs σ H Q
  | [], _, _, _ => rfl
  | (tk, tv) :: r, σ, H, Q => by
    show (tk σ H fun x H1 => tv σ H1 fun y H2 => tPs r σ H2 fun ps H3 => Q ((x, y) :: ps) H3) = (tk σ H fun x H1 => tv σ H1 fun y H2 => tPairs r σ H2 fun ps H3 => Q ((x, y) :: ps) H3)
    congr 1
    funext x H1
    congr 1
    funext y H2
    exact tPs_eq r σ H2 _
@[irreducible] def disX (v : V) (ps : List (V × V)) (H : Hp) (Q : VK) : Prop := ∃ (p : Addr) (kvs : List (Key × V)), v = .ref p ∧ H p = some (.dK []) ∧ ps = kvs.map (fun kv => (kV kv.1, kv.2)) ∧ kvs.length ≤ 15 ∧ Q (.ref p) (upd H p (.dK (mergeK [] kvs)))
def eDis (trs : List (TE × TE)) : TE := fun σ H Q => nwO (.dK []) H fun v H1 => tPs trs σ H1 fun ps H2 => disX v ps H2 Q
theorem mdis {X : Cx} {pos : Pos} {keys : List (Option Expr)} {values : List Expr} {trs : List (TE × TE)} (h : PPs X pos keys values trs) (hall : keys.all (·.isSome) = true := by rfl) (hl : keys.length = values.length := by rfl) (h0 : keys ≠ [] := by intro z; cases z)
    (h15 : keys.length ≤ 15 := by decide) : PE X (.Dict keys values pos) (eDis trs) := by
  refine pe_imp (pe_disp h hall hl h0 h15) fun σ H Q q => ?_
  unfold eDis at q
  intro p hp
  have q := nwO_e q p hp
  rw [tPs_eq] at q
  have mono : ∀ (trs : List (TE × TE)) (H : Hp) (A B : List (V × V) → Hp → Prop), (∀ ps H, A ps H = B ps H) → tPairs trs σ H A = tPairs trs σ H B := fun trs H A B e => by
    have : A = B := by
      funext ps H
      exact e ps H
    rw [this]
  have e : ∀ (ps : List (V × V)) (H2 : Hp), disX (.ref p) ps H2 Q = (H2 p = some (.dK []) ∧ ∃ kvs : List (Key × V), ps = kvs.map (fun kv => (kV kv.1, kv.2)) ∧ kvs.length ≤ 15 ∧ Q (.ref p) (upd H2 p (.dK (mergeK [] kvs)))) := fun ps H2 => by
    unfold disX
    refine propext ⟨?_, ?_⟩
    · rintro ⟨p', kvs, e1, e2, e3, e4, e5⟩
      cases e1
      exact ⟨e2, kvs, e3, e4, e5⟩
    · rintro ⟨e2, kvs, e3, e4, e5⟩
      exact ⟨p, kvs, rfl, e2, e3, e4, e5⟩
  rw [mono trs _ _ _ e] at q
  exact q
theorem dis_S {H : Hp} {Q : VK} {F : List SP} {p : Addr} {ps : List (V × V)} (kvs : List (Key × V)) (S : Star H (pt p (.dK []) :: F)) (e : ps = kvs.map fun kv => (kV kv.1, kv.2)) (em : mergeK [] kvs = kvs) (hl : kvs.length ≤ 15) (q : ∀ H', Star H' (pt p (.dK kvs) :: F) → Q (.ref p) H') : disX (.ref p) ps H Q := by
  unfold disX
  refine ⟨p, kvs, rfl, S.get, e, hl, ?_⟩
  rw [em]
  exact q _ (S.upd' id)

/-! ### pop, get, setdefault -/
@[irreducible] def isDX (x : V) (H : Hp) (R : Prop) : Prop := ∃ a, x = .ref a ∧ IsD H a ∧ R
@[irreducible] def popX (x y : V) (H : Hp) (Q : VK) : Prop := ∃ a kvs k v, x = .ref a ∧ H a = some (.dK kvs) ∧ y = kV k ∧ valV kvs k = some v ∧ Q v (upd H a (.dK (dropK kvs k)))
def eDPop (td ty : TE) : TE := fun σ H Q => td σ H fun x H1 => isDX x H1 (ty σ H1 fun y H2 => popX x y H2 Q)
theorem te_imp {X : Cx} {e : Expr} {te : TE} (h : PE X e te) {t' : TE} (i : ∀ σ H Q, t' σ H Q → te σ H Q) : PE X e t' := pe_imp h i
theorem dpop1 {X : Cx} {o e : Expr} {td ty : TE} {apos cpos : Pos} (ho : PE X o td) (he : PE X e ty) (m : M1 X o "pop" apos e cpos := by exact ⟨rfl, rfl, rfl, rfl⟩) : PE X (.Call (.Attribute o "pop" apos) [e] [] cpos) (eDPop td ty) := by
  refine ⟨fun pins s σ H Q I h => ?_⟩
  refine wpAny_Call_method m.base m.few m.line PySem.F.plainAttrs_dict PySem.F.slot_dict_pop PySem.F.type_dict_pop (thn (ho.run pins s σ H _ I h) fun u s1 ⟨x, H1, I1, rx, q0⟩ => ?_)
  unfold isDX at q0
  obtain ⟨a, ex, d, q1⟩ := q0
  subst ex
  obtain rfl : u = Value.ref a := rx
  obtain ⟨t1, t2, _⟩ := isD_at I1 d
  refine ⟨t1, t2, ?_⟩
  rw [m.trees]
  refine Calls.callWith_builtin rfl (Calls.evalArgs_plain (Calls.spliced_cons (thn (he.run pins s1 σ H1 _ I1 q1) fun iv s2 ⟨y, H2, I2, ry, q2⟩ => Calls.spliced_nil ?_)))
  unfold popX at q2
  obtain ⟨a', kvs, k, v, ea', ea, ey, l, q2⟩ := q2
  cases ea'
  subst ey
  exact d_pop I2 ea ry l (.inl rfl) fun w' s3 I3 rw' => ⟨v, _, I3, rw', q2⟩
section
variable {H : Hp} {Q : VK} {F : List SP} {a : Addr} {n : Int} {v w : V} {R : Prop} {kvs : List (Key × V)}
theorem isd_S (S : Star H (pt a (.dK kvs) :: F)) (q : R) : isDX (.ref a) H R := by
  unfold isDX
  exact ⟨a, rfl, .inl ⟨kvs, .inl S.get⟩, q⟩
theorem isdt_S {kvs : List (List Key × V)} (S : Star H (pt a (.dT kvs) :: F)) (q : R) : isDX (.ref a) H R := by
  unfold isDX
  exact ⟨a, rfl, .inr ⟨kvs, .inl S.get⟩, q⟩
theorem dpop_i (S : Star H (pt a (.dK kvs) :: F)) (e : valV kvs (.inl n) = some v) (q : ∀ H', Star H' (pt a (.dK (dropK kvs (.inl n))) :: F) → Q v H') : popX (.ref a) (.int n) H Q := by
  unfold popX
  exact ⟨a, kvs, .inl n, v, rfl, S.get, rfl, e, q _ (S.upd' id)⟩
end
@[irreducible] def getX (x y z : V) (H : Hp) (Q : VK) : Prop := ∃ a o, x = .ref a ∧ DGet H a y o ∧ Q (o.getD z) H
def eDGet (td ty tx : TE) : TE := fun σ H Q => td σ H fun x H1 => isDX x H1 (ty σ H1 fun y H2 => tx σ H2 fun z H3 => getX x y z H3 Q)
theorem dget2 {X : Cx} {o e f : Expr} {td ty tx : TE} {apos cpos : Pos} (hu : X.A.units + 64 < cLine) (ho : PE X o td) (he : PE X e ty) (hf : PE X f tx) (m : M2 X o "get" apos e f cpos := by exact ⟨rfl, rfl, rfl, rfl⟩) : PE X (.Call (.Attribute o "get" apos) [e, f] [] cpos) (eDGet td ty tx) := by
  refine ⟨fun pins s σ H Q I h => ?_⟩
  refine wpAny_Call_method m.base m.few m.line PySem.F.plainAttrs_dict PySem.F.slot_dict_get PySem.F.type_dict_get (thn (ho.run pins s σ H _ I h) fun u s1 ⟨x, H1, I1, rx, q0⟩ => ?_)
  unfold isDX at q0
  obtain ⟨a, ex, d, q1⟩ := q0
  subst ex
  obtain rfl : u = Value.ref a := rx
  obtain ⟨t1, t2, _⟩ := isD_at I1 d
  refine ⟨t1, t2, ?_⟩
  rw [m.trees]
  refine Calls.callWith_builtin rfl (Calls.evalArgs_plain (Calls.spliced_cons (thn (he.run pins s1 σ H1 _ I1 q1) fun iv s2 ⟨y, H2, I2, ry, q2⟩ =>
    Calls.spliced_cons (thn (hf.run pins s2 σ H2 _ I2 q2) fun fv s3 ⟨z, H3, I3, rz, q3⟩ => Calls.spliced_nil ?_))))
  unfold getX at q3
  obtain ⟨a', ov, ea', g, q3⟩ := q3
  cases ea'
  exact d_get2 (by omega) I3 g ry rz fun w' s4 I4 rw' => ⟨ov.getD z, H3, I4, rw', q3⟩
section
variable {H : Hp} {Q : VK} {F : List SP} {a b : Addr} {n : Int} {v w : V} {kvs : List (Key × V)}
theorem dget_i (h : H a = some (.dK kvs)) (q : Q ((valV kvs (.inl n)).getD w) H) : getX (.ref a) (.int n) w H Q := by
  unfold getX
  exact ⟨a, _, rfl, DGet.k (k := .inl n) h, q⟩
theorem dget_t {kvs : List (List Key × V)} {k : List Key} (h : H a = some (.dT kvs)) (hb : H b = some (.tup (k.map kV))) (q : Q ((valV kvs k).getD w) H) : getX (.ref a) (.ref b) w H Q := by
  unfold getX
  exact ⟨a, _, rfl, DGet.t h hb, q⟩
end

/-! ### dict(x), list(d) -/
@[irreducible] def dctX (K : PySem.W.Frag) (x : V) (H : Hp) (Q : VK) : Prop := (∃ a kvs, x = .ref a ∧ Rd H a (.dK kvs) ∧ nwO (.dK kvs) H Q) ∨
  ∃ (a : Addr) (ps : List Addr) (kvs : List (Key × V)), x = .ref a ∧ SqL K H a (ps.map V.ref) ∧ Paired (fun p kv => SqT K H p [kV kv.1, kv.2]) ps kvs ∧ nwO (.dK (mergeK [] kvs)) H Q
def cDict (K : PySem.W.Frag) : List V → Hp → VK → Prop := fun xs H Q => match xs with
  | [x] => dctX K x H Q
  | _ => False
theorem k_dict {X : Cx} (hc : X.calm = true) : CallR X (.type "dict") (cDict X.K) := call_imp (call_or call_dictD (call_dictP hc)) fun xs H Q q => by
  unfold cDict at q
  split at q
  · unfold dctX at q
    rcases q with ⟨a, kvs, e, h, q⟩ | ⟨a, ps, kvs, e, h, h2, q⟩
    · subst e
      exact .inl ⟨a, kvs, rfl, h, nwO_e q⟩
    · subst e
      exact .inr ⟨a, ps, kvs, rfl, h, h2, nwO_e q⟩
  · exact q.elim
theorem dct_S {K : PySem.W.Frag} {H : Hp} {Q : VK} {F : List SP} {a : Addr} {kvs : List (Key × V)} (S : Star H F) (h : H a = some (.dK kvs)) (q : ∀ p H', Star H' (pt p (.dK kvs) :: F) → Q (.ref p) H') : dctX K (.ref a) H Q := by
  unfold dctX
  exact .inl ⟨a, kvs, rfl, .inl h, nwO_i fun p hp => q p _ (S.new' hp id)⟩
theorem dctp_S {K : PySem.W.Frag} {H : Hp} {Q : VK} {F : List SP} {a : Addr} {ps : List Addr} {kvs : List (Key × V)} (S : Star H F) (h : H a = some (.lst (ps.map V.ref))) (h2 : Paired (fun p kv => SqT K H p [kV kv.1, kv.2]) ps kvs) (q : ∀ p H', Star H' (pt p (.dK (mergeK [] kvs)) :: F) → Q (.ref p) H') : dctX K (.ref a) H Q := by
  unfold dctX
  exact .inr ⟨a, ps, kvs, rfl, .of h, h2, nwO_i fun p hp => q p _ (S.new' hp id)⟩

/-! ### op= -/
def agAdd : V → V → Hp → VK → Prop := fun x y H Q => match x, y with
  | .int i, .int j => Q (.int (i + j)) H
  | _, _ => False
def agSub : V → V → Hp → VK → Prop := fun x y H Q => match x, y with
  | .int i, .int j => Q (.int (i - j)) H
  | _, _ => False
section
variable {X : Cx} {op : Operator} {o e i value : Expr} {f : Str} {pos tpos : Pos} {to tv te ti : TE} {cs : List Addr} {r : V → V → Hp → VK → Prop}
theorem g_add : InOp X .Add agAdd := fun pins s σ H x y u v Q I rx ry q => by
  unfold agAdd at q
  split at q
  · exact in_add pins s σ H _ _ u v Q I rx ry ⟨_, _, rfl, rfl, q⟩
  · exact q.elim
theorem g_sub : InOp X .Sub agSub := fun pins s σ H x y u v Q I rx ry q => by
  unfold agSub at q
  split at q
  · exact in_sub pins s σ H _ _ u v Q I rx ry ⟨_, _, rfl, rfl, q⟩
  · exact q.elim
def sAgF (cs : List Addr) (f : Str) (r : V → V → Hp → VK → Prop) (to tv : TE) : TS := fun D σ H => to σ H fun x H1 => fldX cs f x H1 fun v H2 => tv σ H2 fun y H3 => r v y H3 fun z H4 => stfX cs f z x H4 (D.nx σ)
theorem magf (ho : PE X o to) (hv : PE X value tv) (hop : InOp X op r) (hc : ∀ C ∈ cs, Cls X.K C ∧ NoAttr X.K C f) : PS X (.AugAssign (.Attribute o f tpos) op value pos) (sAgF cs f r to tv) := by
  refine ⟨fun pins s σ H D I h => ?_⟩
  refine wpAny_AugAssign_AttributeAny (thn (ho.run pins s σ H _ I h) fun ov s1 ⟨x, H1, I1, rx, q⟩ => ?_)
  unfold fldX at q
  obtain ⟨a, C, dx, fs, v, ex, hC, ea, l, q⟩ := q
  subst ex
  obtain rfl : ov = Value.ref a := rx
  refine getattr_ok I1 ea (hc C hC).1 (hc C hC).2 l fun u s2 I2 ru => thn (hv.run pins s2 σ H1 _ I2 q) fun w3 s3 ⟨y, H2, I3, ry, q3⟩ => thn (hop pins s3 σ H2 v y u w3 _ I3 ru ry q3) fun w4 s4 ⟨z, H3, I4, rz, q4⟩ => ?_
  unfold stfX at q4
  obtain ⟨a', C', dx', fs', ex', hC', ea', l', q4⟩ := q4
  cases ex'
  exact setattr_ok I4 ea' (hc C' hC').1 (hc C' hC').2 l' rz fun s5 I5 => ⟨σ, _, I5, q4⟩
@[irreducible] def agdX (x y : V) (H : Hp) (R : V → Prop) : Prop := ∃ a v, x = .ref a ∧ DGet H a y (some v) ∧ R v
@[irreducible] def agpX (x y z : V) (H : Hp) (Q : Hp → Prop) : Prop := ∃ a H5, x = .ref a ∧ DPut H a y z H5 ∧ Q H5
def sAgD (r : V → V → Hp → VK → Prop) (to ti tv : TE) : TS := fun D σ H => to σ H fun x H1 => ti σ H1 fun y H2 => agdX x y H2 fun v => tv σ H2 fun w H3 => r v w H3 fun z H4 => agpX x y z H4 (D.nx σ)
theorem magd (hu : X.A.units + 64 < cLine) (ho : PE X o to) (hi : PE X i ti) (hv : PE X value tv) (hop : InOp X op r)
    (ha : ∀ ov iv new, augStore i ov iv new = (do holding [new, ov, iv] (setItem ov iv new); release [new, ov, iv] []; pure .next) := by intro _ _ _; rfl) : PS X (.AugAssign (.Subscript o i tpos) op value pos) (sAgD r to ti tv) := by
  refine ⟨fun pins s σ H D I h => ?_⟩
  refine wpAny_AugAssign_SubscriptAny (thn (ho.run pins s σ H _ I h) fun u s1 ⟨x, H1, I1, rx, q1⟩ => thn (hi.run pins s1 σ H1 _ I1 q1) fun iv s2 ⟨y, H2, I2, ry, q2⟩ => ?_) ha
  unfold agdX at q2
  obtain ⟨a, v, ex, g, q2⟩ := q2
  subst ex
  obtain rfl : u = Value.ref a := rx
  refine d_getItem (by omega) I2 g ry fun w' s3 I3 rw' => thn (hv.run pins s3 σ H2 _ I3 q2) fun w2 s4 ⟨y2, H3, I4, ry2, q3⟩ => thn (hop pins s4 σ H3 v y2 w' w2 _ I4 rw' ry2 q3) fun w3 s5 ⟨z, H4, I5, rz, q4⟩ => ?_
  unfold agpX at q4
  obtain ⟨a', H5, ex', g5, q4⟩ := q4
  cases ex'
  exact d_setItem (by omega) I5 g5 ry rz fun s6 I6 => ⟨σ, H5, I6, q4⟩
/-- x op= e -/
def sAgN (i : Nat) (r : V → V → Hp → VK → Prop) (te : TE) : TS := fun D σ H => match look σ i with
  | some x => te σ H fun y H1 => r x y H1 fun z H2 => D.nx (sput σ i z) H2
  | none => False
theorem magn {i : Nat} {x : Str} {e : Expr} (hN : X.N.Nodup) (hi : X.N[i]? = some x) (hx : Loc X.env.scope x) (he : PE X e te) (ho : PIp X op r) (hf : X.fn x = true ∨ X.env.scope.names.lookup x = some .local := by first | exact .inl rfl | exact .inr rfl) :
    PS X (.AugAssign (.Name x tpos) op e pos) (sAgN i r te) := by
  refine ps_imp (ps_aug hN hi hx he ho hf) fun D σ H q => ?_
  unfold sAgN at q
  cases h : look σ i with
  | none =>
    rw [h] at q
    exact q.elim
  | some v =>
    rw [h] at q
    refine ⟨v, look_get h, ?_⟩
    simp only [sput_eq] at q
    exact q
end
section
variable {H : Hp} {F : List SP} {a : Addr} {n : Int} {v z : V} {kvs : List (Key × V)} {R : V → Prop} {Q : Hp → Prop}
theorem agd_i (h : H a = some (.dK kvs)) (e : valV kvs (.inl n) = some v) (q : R v) : agdX (.ref a) (.int n) H R := by
  unfold agdX
  exact ⟨a, v, rfl, e ▸ DGet.k (k := .inl n) h, q⟩
theorem agp_i (S : Star H (pt a (.dK kvs) :: F)) (hz : kvs.length < 16777216) (q : ∀ H', Star H' (pt a (.dK (putK kvs (.inl n) z)) :: F) → Q H') : agpX (.ref a) (.int n) z H Q := by
  unfold agpX
  exact ⟨a, _, rfl, DPut.k (k := .inl n) S.get (by rw [sizeLine_eq]; exact hz), q _ (S.upd' id)⟩
end
end MK

namespace MK
open PySem PySem.Spec PyProof.Rows L2

/-! ### try with several clauses, each with a name or without one -/
abbrev Sui := Addr → Value → Option Addr → TS
/-- behind the clause its name is unset -/
def unD (i : Nat) (D : Ends) : Ends := { nx := fun σ' H' => D.nx (σ'.set i none) H', rt := D.rt, bk := fun σ' H' => D.bk (σ'.set i none) H', ct := fun σ' H' => D.ct (σ'.set i none) H' }
def oneW (n : Option Nat) (ts : Sui) (D : Ends) (cls : Value) (d : Option Addr) (σ : L2.St) (H : Hp) : Prop := match n with
  | none => ∀ a, H a = none → ts a cls d D σ H
  | some i => ∀ a, H a = none → ts a cls d (unD i D) (σ.set i (some (.ref a))) H
def manyW (K : PySem.W.Frag) (Wout : WX) (D : Ends) : List (Value × Option Nat × Sui) → WX
  | [] => Wout
  | (c, n, ts) :: r => fun cls d σ H => ∃ b, PySem.W.exmOne K cls c = some b ∧ (b = true → oneW n ts D cls d σ H) ∧ (b = false → manyW K Wout D r cls d σ H)
/-- the clauses of the text, and what their suites do -/
inductive Clauses (X : Cx) : List ExceptHandler → List (Value × Option Nat × Sui) → Prop
  | nil : Clauses X [] []
  | plain {x : Str} {c : Value} {ts : Sui} {b₀ : Stmt} {suite : List Stmt} {np pos' : Pos} {hds : List ExceptHandler} {l : List (Value × Option Nat × Sui)} (hc : Names X x c)
      (hsu : ∀ (a : Addr) (oe : Obj) (cls : Value) (d : Option Addr) (pn : List (Addr × Obj)), Zc cls d oe → (∃ vs, oe.data = .fields vs) → PSs (X.suite a ((a, oe) :: pn)) (b₀ :: suite) (ts a cls d)) (r : Clauses X hds l) :
      Clauses X (.ExceptHandler (some (.Name x np)) none (b₀ :: suite) pos' :: hds) ((c, none, ts) :: l)
  | named {x n : Str} {i : Nat} {c : Value} {ts : Sui} {b₀ : Stmt} {suite : List Stmt} {np pos' : Pos} {hds : List ExceptHandler} {l : List (Value × Option Nat × Sui)} (hN : X.N.Nodup) (hi : X.N[i]? = some n) (hln : X.env.kindOf n = some .local) (hc : Names X x c)
      (hsu : ∀ (a : Addr) (oe : Obj) (cls : Value) (d : Option Addr) (pn : List (Addr × Obj)), Zc cls d oe → (∃ vs, oe.data = .fields vs) → PSs (X.suite a ((a, oe) :: pn)) (b₀ :: suite) (ts a cls d)) (r : Clauses X hds l) :
      Clauses X (.ExceptHandler (some (.Name x np)) (some n) (b₀ :: suite) pos' :: hds) ((c, some i, ts) :: l)
section
variable {X : Cx} {body : List Stmt} {h₀ : ExceptHandler} {hds : List ExceptHandler} {l : List (Value × Option Nat × Sui)} {pos : Pos} {tb : WX → TS} {Wout : WX}
theorem ps_clauses (hs : X.stack = X.env :: X.outer) (hf : X.env.frame = some X.env.locals) (tk : Takes X Wout)
    (hb : ∀ (W : WX) (pn : List (Addr × Obj)) (xe : Value → Shared → Prop), Takes (X.tr pn xe) W → PassesOwn (model X.prog X.w) X.A X.env xe → PSs (X.tr pn xe) body (tb W))
    (hh : Clauses X (h₀ :: hds) l) : PS X (.Try body (h₀ :: hds) [] [] pos) (fun D σ H => tb (manyW X.K Wout D l) D σ H) := by
  constructor
  intro pins s σ H D I h
  have ok := I.ok
  have hfr : X.A.frames = some (X.env :: X.outer) := by
    rw [ok.frames, hs]
  let catch_ : Value → Shared → Prop := fun e s₁ => wpAny (model X.prog X.w) X.A (noteFrame e X.env) (fun _ s₂ => wpAny (model X.prog X.w) X.A (setFlight e none) (fun _ s₃ => wpAny (model X.prog X.w) X.A (handleBy e X.env (h₀ :: hds)) (L2.SP X pins D) X.xe s₃) X.xe s₂) X.xe s₁
  refine wpAny_Try_except (wpAny_mono ((hb (manyW X.K Wout D l) (X.pn ++ pins) catch_ (fun u s' xx => ?_) PassesOwn.looking).run [] s σ H D (I.toTry _) h) (fun f s1 hsp => ?_) (fun e s1 he => he))
  · obtain ⟨a, B, sI, pins', σ', H', cls, d, rfl, J', nb, up, sky, na, os, ag, w⟩ := xx
    have J : Inv X pins σ' H' sI := J'.ofTry ok
    have sky' : Sky B (X.env :: X.outer) a (Zc cls d) X.env.locals s'.heap := hs ▸ sky
    show wpAny (model X.prog X.w) X.A (noteFrame (.ref a) X.env) _ _ _
    refine Sky.land Zc.steady hfr hf sky' fun h3 fl3 up3 => ?_
    have J3 : Inv X pins σ' H' { s' with heap := h3 } := J.landed nb fl3.1 (up.trans up3) os ag
    obtain ⟨oe3, vs3, he3, hz3, hd3⟩ := fl3.there
    have nfr : a ∉ frs (X.env :: X.outer) := fun hm => by
      obtain ⟨_, o', e', hnf⟩ := fl3.2.2.1.mem hm
      rw [he3] at e'
      cases e'
      exact hnf _ hd3
    have nL : a ≠ X.env.locals := fun z => nfr (List.mem_filterMap.mpr ⟨X.env, List.mem_cons_self, by rw [hf, z]⟩)
    have nF : a ∉ X.fs := fun hm => by
      obtain ⟨e, he, q⟩ := List.mem_filterMap.mp hm
      exact nfr (List.mem_filterMap.mpr ⟨e, List.mem_cons_of_mem _ he, q⟩)
    have S3 := J3.suite he3 hd3 na nL nF
    have LT : PySem.W.Looks (model X.prog X.w) h3 (typeOf (.ref a)) cls := fun A Q E s k q => wpAny_typeOf_ref (k _ _ he3) (by rw [hz3.1]; exact q)
    have test : ∀ {x : Str} {c : Value} {np : Pos} {Q : Value → Shared → Prop} {E : Value → Shared → Prop}, Names X x c → Q c { s' with heap := h3 } → wpAny (model X.prog X.w) (X.A.mark (some (.ref a))) (eval (.Name x np) X.env) Q E { s' with heap := h3 } := fun {x c np Q E} hc q => by
      obtain ⟨hg, hdbg, hm | ⟨hm, hv, hnn⟩⟩ := hc
      · exact ld_glob (X := X.suite a ((a, oe3) :: (X.pn ++ pins))) S3 hg hm q hdbg
      · exact ld_blt (X := X.suite a ((a, oe3) :: (X.pn ++ pins))) S3 hg hm hv q hnn hdbg
    have go : ∀ {hds' : List ExceptHandler} {l' : List (Value × Option Nat × Sui)}, Clauses X hds' l' → manyW X.K Wout D l' cls d σ' H' → wpAny (model X.prog X.w) X.A (handleBy (.ref a) X.env hds') (L2.SP X pins D) X.xe { s' with heap := h3 } := by
      intro hds' l' hk
      induction hk with
      | nil =>
        intro w
        refine wpAny_handleBy_nil ?_
        obtain ⟨k1, k2, k3, oe, vs, T, oT, ts', he, hz, hd, h1, hr⟩ := id fl3
        unfold PySem.passOn
        refine wpAny_bind (wpAny_field he hd h1 ?_)
        rw [if_neg (show ¬ ((Value.ref T == Value.none) = true) from by simp)]
        have fin : wpAny (model X.prog X.w) X.A (setFlight (.ref a) X.env.frame) (fun _ s4 => wpAny (model X.prog X.w) X.A (throw (.ref a) : Sem Flow) (L2.SP X pins D) X.xe s4) X.xe { s' with heap := h3 } := by
          rw [hf]
          refine HandSPX.setFlight_upZ fl3 fun h4 hh4 up4 => wpAny_throw (tk _ _ ?_)
          exact ⟨a, B, sI, pins, σ', H', cls, d, rfl, J, nb, (up.trans up3).trans up4, .inr (.inr (by rw [hs]; exact hh4)), na, os, ag, w⟩
        first
          | exact wpAny_bind (wpAny_pure (wpAny_bind fin))
          | exact wpAny_bind fin
      | @plain x c ts b₀ suite np pos' hds2 l2 hc hsu r ih =>
        intro w
        obtain ⟨b, hb1, hyes, hno⟩ := w
        refine wpAny_handleBy_cons (codeAny_handlers_test (test hc ((PySem.W.exm_one (M := model X.prog X.w) J3.kIn LT hb1).here ?_))) (by intro q; cases q)
        cases b with
        | false => exact ih (hno rfl)
        | true =>
          refine codeAny_handlers_suite (HandSPX.lands_againZ fl3 fun h4 fl4 up4 => ?_)
          have J4 : Inv X pins σ' H' { s' with heap := h4 } := J.landed nb fl4.1 ((up.trans up3).trans up4) os ag
          obtain ⟨oe4, vs4, he4, hz4, hd4⟩ := fl4.there
          refine wpAny_mono ((hsu a oe4 cls d (X.pn ++ pins) hz4 ⟨_, hd4⟩).run [] _ _ H' _ (J4.suite he4 hd4 na nL nF) (hyes rfl a na)) (fun f s6 hsp => ?_) (fun _ _ z => False.elim z)
          cases f with
          | ret u =>
            obtain ⟨v6, σ6, H6, S6, r6, q6⟩ := hsp
            exact ⟨_, _, _, S6.unsuite ok, r6, q6⟩
          | _ =>
            obtain ⟨σ6, H6, S6, q6⟩ := hsp
            exact ⟨_, _, S6.unsuite ok, q6⟩
      | @named x n i c ts b₀ suite np pos' hds2 l2 hN hi hln hc hsu r ih =>
        intro w
        obtain ⟨b, hb1, hyes, hno⟩ := w
        refine wpAny_handleBy_cons (codeAny_handlers_test (test hc ((PySem.W.exm_one (M := model X.prog X.w) J3.kIn LT hb1).here ?_))) (by intro q; cases q)
        cases b with
        | false => exact ih (hno rfl)
        | true =>
          refine codeAny_handlers_suite_as (HandSPX.lands_againZ fl3 fun h4 fl4 up4 => ?_)
          have J4 : Inv X pins σ' H' { s' with heap := h4 } := J.landed nb fl4.1 ((up.trans up3).trans up4) os ag
          obtain ⟨oe4, vs4, he4, hz4, hd4⟩ := fl4.there
          refine store_ok (X := X.suite a ((a, oe4) :: (X.pn ++ pins))) (v := .ref a) (J4.suite he4 hd4 na nL nF) hN hi (.inl hln) rfl (fun s5 S5 => ?_) (.inr hln)
          refine wpAny_mono ((hsu a oe4 cls d (X.pn ++ pins) hz4 ⟨_, hd4⟩).run [] s5 _ H' _ S5 (hyes rfl a na)) (fun f s6 hsp => ?_) (fun _ _ z => False.elim z)
          have end_ : ∀ {σ6 : L2.St} {H6 : Hp} {Q : Shared → Prop}, Inv (X.suite a ((a, oe4) :: (X.pn ++ pins))) [] σ6 H6 s6 → (∀ s7, Inv X pins (σ6.set i none) H6 s7 → Q s7) →
              wpAny (model X.prog X.w) X.A (do bindName X.env n .none; unbindBehindTheSuite X.env n pos') (fun _ s7 => Q s7) X.xe s6 := fun {σ6 H6 Q} S6 hq => gone_ok (S6.unsuite ok) hN hi hln hq
          cases f with
          | ret u =>
            obtain ⟨v6, σ6, H6, S6, r6, q6⟩ := hsp
            exact end_ S6 fun s7 J7 => ⟨_, _, _, J7, r6, q6⟩
          | _ =>
            obtain ⟨σ6, H6, S6, q6⟩ := hsp
            exact end_ S6 fun s7 J7 => ⟨_, _, J7, q6⟩
    exact go hh w
  · cases f with
    | next =>
      obtain ⟨σ', H', J', q⟩ := hsp
      exact wpAny_execs_nil ⟨σ', H', J'.ofTry ok, q⟩
    | ret u =>
      obtain ⟨v, σ', H', J', r, q⟩ := hsp
      exact ⟨v, σ', H', J'.ofTry ok, r, q⟩
    | _ =>
      obtain ⟨σ', H', J', q⟩ := hsp
      exact ⟨σ', H', J'.ofTry ok, q⟩
end
/-! by tables: which classes a clause takes -/
def wTab0 (Wout : WX) (D : Ends) : List (List (Value × Bool) × Option Nat × Sui) → WX
  | [] => Wout
  | (t, n, ts) :: r => fun cls d σ H => ((cls, true) ∈ t ∧ oneW n ts D cls d σ H) ∨ ((cls, false) ∈ t ∧ wTab0 Wout D r cls d σ H)
@[irreducible] def wTab (Wout : WX) (D : Ends) (hs : List (List (Value × Bool) × Option Nat × Sui)) : WX := wTab0 Wout D hs
def sTryM (hs : List (List (Value × Bool) × Option Nat × Sui)) (W : WX) (tb : WX → TS) : TS := fun D σ H => tb (wTab W D hs) D σ H
section
variable {Wout : WX} {D : Ends} {hs : List (List (Value × Bool) × Option Nat × Sui)} {t : List (Value × Bool)} {cls : Value} {d : Option Addr} {σ : L2.St} {H : Hp} {ts : Sui} {i : Nat}
theorem tab_0 (q : Wout cls d σ H) : wTab Wout D [] cls d σ H := by
  unfold wTab
  exact q
theorem tab_y (h : (cls, true) ∈ t) (q : ∀ a, H a = none → ts a cls d D σ H) : wTab Wout D ((t, none, ts) :: hs) cls d σ H := by
  unfold wTab
  exact .inl ⟨h, q⟩
theorem tab_yn (h : (cls, true) ∈ t) (q : ∀ a, H a = none → ts a cls d (unD i D) (σ.set i (some (.ref a))) H) : wTab Wout D ((t, some i, ts) :: hs) cls d σ H := by
  unfold wTab
  exact .inl ⟨h, q⟩
theorem tab_n {n : Option Nat} (h : (cls, false) ∈ t) (q : wTab Wout D hs cls d σ H) : wTab Wout D ((t, n, ts) :: hs) cls d σ H := by
  unfold wTab at q ⊢
  exact .inr ⟨h, q⟩
end
/-- the table of each clause, as its class says -/
def TabsOk (K : PySem.W.Frag) : List (List (Value × Bool) × Option Nat × Sui) → List (Value × Option Nat × Sui) → Prop
  | [], [] => True
  | (t, n, ts) :: r, (c, n', ts') :: r' => (∀ cls b, (cls, b) ∈ t → PySem.W.exmOne K cls c = some b) ∧ n = n' ∧ ts = ts' ∧ TabsOk K r r'
  | _, _ => False
theorem wTab_many0 {K : PySem.W.Frag} {Wout : WX} {D : Ends} : ∀ {hs : List (List (Value × Bool) × Option Nat × Sui)} {l : List (Value × Option Nat × Sui)}, TabsOk K hs l → ∀ cls d σ H, wTab0 Wout D hs cls d σ H → manyW K Wout D l cls d σ H
  | [], [], _, cls, d, σ, H, q => q
  | (t, n, ts) :: r, (c, n', ts') :: r', ok, cls, d, σ, H, q => by
    obtain ⟨ht, rfl, rfl, ok⟩ := ok
    rcases q with ⟨hm, q⟩ | ⟨hm, q⟩
    · exact ⟨true, ht _ _ hm, fun _ => q, fun z => by cases z⟩
    · exact ⟨false, ht _ _ hm, (fun z => by cases z), fun _ => wTab_many0 ok _ _ _ _ q⟩
  | [], _ :: _, ok, _, _, _, _, _ => ok.elim
  | _ :: _, [], ok, _, _, _, _, _ => ok.elim
theorem wTab_many {K : PySem.W.Frag} {Wout : WX} {D : Ends} {hs : List (List (Value × Bool) × Option Nat × Sui)} {l : List (Value × Option Nat × Sui)} (ok : TabsOk K hs l) (cls : Value) (d : Option Addr) (σ : L2.St) (H : Hp) (q : wTab Wout D hs cls d σ H) : manyW K Wout D l cls d σ H := by
  unfold wTab at q
  exact wTab_many0 ok cls d σ H q
theorem mtry_m {X : Cx} {body : List Stmt} {h₀ : ExceptHandler} {hds : List ExceptHandler} {l : List (Value × Option Nat × Sui)} {hts : List (List (Value × Bool) × Option Nat × Sui)} {pos : Pos} {tb : WX → TS} {Wout : WX}
    (hs : X.stack = X.env :: X.outer) (hf : X.env.frame = some X.env.locals) (tk : Takes X Wout)
    (hb : ∀ (W : WX) (pn : List (Addr × Obj)) (xe : Value → Shared → Prop), Takes (X.tr pn xe) W → PassesOwn (model X.prog X.w) X.A X.env xe → PSs (X.tr pn xe) body (tb W))
    (hh : Clauses X (h₀ :: hds) l) (ok : TabsOk X.K hts l) : PS X (.Try body (h₀ :: hds) [] [] pos) (sTryM hts Wout tb) := by
  have R := ps_clauses (pos := pos) (tb := fun W D σ H => ∃ W' : WX, (∀ c d σ H, W' c d σ H → W c d σ H) ∧ tb W' D σ H) hs hf tk (fun W pn xe t po => ⟨fun pins s σ H D I h => by
    obtain ⟨W', hw, h⟩ := h
    exact (hb W' pn xe (t.imp hw) po).run pins s σ H D I h⟩) hh
  exact ⟨fun pins s σ H D I h => R.run pins s σ H D I ⟨_, wTab_many ok, h⟩⟩

theorem tn_i {D : Ends} {σ : L2.St} {H : Hp} (h : D.nx σ H) : tNext D σ H := h

/-! ### int(x) -/
def cInt : List V → Hp → VK → Prop := fun xs H Q => match xs with
  | [.int i] => Q (.int i) H
  | [.bl k] => Q (.int (if k then 1 else 0)) H
  | _ => False
theorem k_int {X : Cx} : CallR X (.type "int") cInt := call_imp call_int1 fun xs H Q q => by
  unfold cInt at q
  split at q
  · exact .inl ⟨_, rfl, q⟩
  · exact .inr ⟨_, rfl, q⟩
  · exact q.elim
end MK

namespace MK
open PySem PySem.Spec PyProof.Rows L2
/-! ### sum, sorted, abs, str -/
@[irreducible] def sumX (K : PySem.W.Frag) (x : V) (H : Hp) (Q : VK) : Prop := ∃ (a : Addr) (ns : List Int), x = V.ref a ∧ SqL K H a (ns.map V.int) ∧ Q (.int ns.sum) H
def cSum (K : PySem.W.Frag) : List V → Hp → VK → Prop := fun xs H Q => match xs with
  | [x] => sumX K x H Q
  | _ => False
@[irreducible] def srtX (K : PySem.W.Frag) (x : V) (H : Hp) (Q : VK) : Prop := ∃ (a : Addr) (ns : List Int), x = V.ref a ∧ SqL K H a (ns.map V.int) ∧ ∀ (ms : List Int), ms.Perm ns → ms.Pairwise (· ≤ ·) → nwO (.lst (ms.map V.int)) H Q
def cSorted (K : PySem.W.Frag) : List V → Hp → VK → Prop := fun xs H Q => match xs with
  | [x] => srtX K x H Q
  | _ => False
def cAbs : List V → Hp → VK → Prop := fun xs H Q => match xs with
  | [.int i] => Q (.int (if i < 0 then -i else i)) H
  | _ => False
def cStr : List V → Hp → VK → Prop := fun xs H Q => match xs with
  | [.int i] => okI i ∧ Q (.str (toString i)) H
  | [.str a] => Q (.str a) H
  | _ => False
section
variable {X : Cx}
theorem k_sum (hc : X.calm = true) : CallR X (.builtin "sum") (cSum X.K) := call_imp (cr_sum hc) fun xs H Q q => by
  unfold cSum at q
  split at q
  · unfold sumX at q
    obtain ⟨a, ns, e, q⟩ := q
    subst e
    exact ⟨a, ns, rfl, q⟩
  · exact q.elim
theorem k_sorted : CallR X (.builtin "sorted") (cSorted X.K) := call_imp cr_sortedI fun xs H Q q => by
  unfold cSorted at q
  split at q
  · unfold srtX at q
    obtain ⟨a, ns, e, h, q⟩ := q
    subst e
    exact ⟨a, ns, rfl, h, fun ms p hp hw hn => nwO_e (q ms hp hw) p hn⟩
  · exact q.elim
theorem k_abs : CallR X (.builtin "abs") cAbs := call_imp call_abs fun xs H Q q => by
  unfold cAbs at q
  split at q
  · exact ⟨_, rfl, q⟩
  · exact q.elim
theorem k_str : CallR X (.type "str") cStr := call_imp (call_or call_str_int SkE.call_str_str) fun xs H Q q => by
  unfold cStr at q
  split at q
  · exact .inl ⟨_, rfl, q.1, q.2⟩
  · exact .inr ⟨_, rfl, q⟩
  · exact q.elim
end
section
variable {H : Hp} {Q : VK} {K : PySem.W.Frag} {a : Addr} {ns : List Int} {ps : List SP}
theorem sum_l (h : H a = some (.lst (ns.map V.int))) (q : Q (.int ns.sum) H) : sumX K (.ref a) H Q := by
  unfold sumX
  exact ⟨a, ns, rfl, SqL.of h, q⟩
theorem srt_S (S : Star H ps) (h : H a = some (.lst (ns.map V.int))) (q : ∀ ms : List Int, ms.Perm ns → ms.Pairwise (· ≤ ·) → ∀ p H', Star H' (pt p (.lst (ms.map V.int)) :: ps) → Q (.ref p) H') : srtX K (.ref a) H Q := by
  unfold srtX
  exact ⟨a, ns, rfl, SqL.of h, fun ms hp hw => nwO_i fun p hn => q ms hp hw p _ (S.newL hn)⟩
end
/-! ### nested targets -/
def gsOf : List TG → TGs
  | [] => gNil
  | g :: gs => gCons g (gsOf gs)
@[irreducible] def unqX (K : PySem.W.Frag) (n : Nat) (v : V) (H : Hp) (R : List V → Prop) : Prop := ∃ a xs, v = .ref a ∧ (SqT K H a xs ∨ SqL K H a xs) ∧ n = xs.length ∧ R xs
def gUN (K : PySem.W.Frag) (gs : List TG) : TG := fun v σ H Q => unqX K gs.length v H fun xs => gsOf gs xs σ H Q
theorem mgn0 {X : Cx} : PGs X [] (gsOf []) := pgs_nil
theorem mgn1 {X : Cx} {e : Expr} {es : List Expr} {g : TG} {gs : List TG} (h1 : PG X e g) (h2 : PGs X es (gsOf gs)) (hs : (assignEach (e :: es) X.env).map (·.2) = assign e X.env :: (assignEach es X.env).map (·.2) := by rfl) : PGs X (e :: es) (gsOf (g :: gs)) := pgs_cons h1 h2 hs
theorem mgun {X : Cx} {es : List Expr} {gs : List TG} {k : Nat} {pos : Pos} (hc : X.calm = true) (h : PGs X es (gsOf gs)) (hn : (assignEach es X.env).length = gs.length := by rfl) (hst : (assignEach es X.env).findIdx? (·.1) = none := by rfl) :
    PG X (.Tuple es k pos) (gUN X.K gs) := by
  constructor
  intro pins s σ H v u Q I r hw
  unfold gUN unqX at hw
  obtain ⟨a, xs, e1, hq, hl, q⟩ := hw
  rcases hq with hq | hq
  · exact (pg_tup hc h hn hst).run pins s σ H v u Q I r ⟨a, xs, e1, hq, hl.symm, q⟩
  · exact (pg_unl hc h hn hst).run pins s σ H v u Q I r ⟨a, xs, e1, hq, hl.symm, q⟩
section
variable {K : PySem.W.Frag} {H : Hp} {σ : L2.St} {Q : L2.St → Hp → Prop} {g : TG} {gs : List TG} {v : V} {vs xs : List V} {a : Addr} {n : Nat} {R : List V → Prop}
theorem gs_n (q : Q σ H) : gsOf [] [] σ H Q := ⟨rfl, q⟩
theorem gs_c (q : g v σ H fun σ' H' => gsOf gs vs σ' H' Q) : gsOf (g :: gs) (v :: vs) σ H Q := ⟨v, vs, rfl, q⟩
theorem unq_t (h : H a = some (.tup xs)) (hl : n = xs.length) (q : R xs) : unqX K n (.ref a) H R := by
  unfold unqX
  exact ⟨a, xs, rfl, .inl (.of h), hl, q⟩
theorem unq_l (h : H a = some (.lst xs)) (hl : n = xs.length) (q : R xs) : unqX K n (.ref a) H R := by
  unfold unqX
  exact ⟨a, xs, rfl, .inr (.of h), hl, q⟩
end
end MK
namespace Lawk16
open PySem PySem.Spec PyProof.Rows L2 MK
def t_Order_init (K : PySem.W.Frag) (W : WX) : TS := tSeq (sStF [(He.ga K "Order")] "standing" (eL (aC (eC (.int 0)) (aN))) (eV 0)) (tSeq (sStF [(He.ga K "Order")] "labelled" (eDis [(eC (.int 0), eC (.int 0))]) (eV 0)) (tSeq (sStF [(He.ga K "Order")] "given" (eC (.int 1)) (eV 0)) (sStF [(He.ga K "Order")] "times" (eC (.int 0)) (eV 0))))
@[irreducible] def sp_Order_init (K : PySem.W.Frag) : Sp := fun vs H Q E => vs.length = 1 ∧ t_Order_init K (wE E) (endOf Q) (st0 vs 0) H
theorem sp_Order_init_i {K : PySem.W.Frag} {a0 : V} {H : Hp} {Q : VK} {E : XK} (h : t_Order_init K (wE E) (endOf Q) [some a0] H) : sp_Order_init K [a0] H Q E := by unfold sp_Order_init; exact ⟨rfl, h⟩
def t_is_whole (K : PySem.W.Frag) (W : WX) : TS := sRet (eAnd (eF (cIsi K .int) (aC (eV 0) (aC (eC (.ty "int")) aN))) (eAnd (eNot (eF (cIsi K .bool) (aC (eV 0) (aC (eC (.ty "bool")) aN)))) (eChain (opLe) (opLe) (eV 1) (eV 0) (eV 2))))
@[irreducible] def sp_is_whole (K : PySem.W.Frag) : Sp := fun vs H Q E => vs.length = 3 ∧ t_is_whole K (wE E) (endOf Q) (st0 vs 0) H
theorem sp_is_whole_i {K : PySem.W.Frag} {a0 a1 a2 : V} {H : Hp} {Q : VK} {E : XK} (h : t_is_whole K (wE E) (endOf Q) [some a0, some a1, some a2] H) : sp_is_whole K [a0, a1, a2] H Q E := by unfold sp_is_whole; exact ⟨rfl, h⟩
def t_MakesError_init (K : PySem.W.Frag) (W : WX) : TS := sDrop (tVeI K (aC (eV 0) (aC (eV 1) (aN))))
@[irreducible] def sp_MakesError_init (K : PySem.W.Frag) : Sp := fun vs H Q E => vs.length = 2 ∧ t_MakesError_init K (wE E) (endOf Q) (st0 vs 0) H
theorem sp_MakesError_init_i {K : PySem.W.Frag} {a0 a1 : V} {H : Hp} {Q : VK} {E : XK} (h : t_MakesError_init K (wE E) (endOf Q) [some a0, some a1] H) : sp_MakesError_init K [a0, a1] H Q E := by unfold sp_MakesError_init; exact ⟨rfl, h⟩
def t_Order_label_behind (K : PySem.W.Frag) (W : WX) : TS := tSeq (sIf (kT (eB (opLt) (eB (opAdd K) (eV 1) (eC (.int 1))) (eF (cLen K) (aC (eFld [(He.ga K "Order")] "standing" (eV 0)) (aN))))) (sRet (eB (ixX K) (eFld [(He.ga K "Order")] "labelled" (eV 0)) (eB (ixX K) (eFld [(He.ga K "Order")] "standing" (eV 0)) (eB (opAdd K) (eV 1) (eC (.int 1)))))) (tNext)) (sRet (eC (.int 1024)))
@[irreducible] def sp_Order_label_behind (K : PySem.W.Frag) : Sp := fun vs H Q E => vs.length = 2 ∧ t_Order_label_behind K (wE E) (endOf Q) (st0 vs 0) H
theorem sp_Order_label_behind_i {K : PySem.W.Frag} {a0 a1 : V} {H : Hp} {Q : VK} {E : XK} (h : t_Order_label_behind K (wE E) (endOf Q) [some a0, some a1] H) : sp_Order_label_behind K [a0, a1] H Q E := by unfold sp_Order_label_behind; exact ⟨rfl, h⟩
def b_Order_label_all_1 (K : PySem.W.Frag) (W : WX) : TS := sSetI (eB (opMul) (eV 2) (eV 1)) (eFld [(He.ga K "Order")] "labelled" (eV 0)) (eV 3)
def t_Order_label_all (K : PySem.W.Frag) (W : WX) : TS := tSeq (sSet 1 (eB (opDiv) (eC (.int 1024)) (eF (cLen K) (aC (eFld [(He.ga K "Order")] "standing" (eV 0)) (aN))))) (tSeq (sFor (iEn K (aC (eFld [(He.ga K "Order")] "standing" (eV 0)) (aN))) (gU K [2, 3]) (b_Order_label_all_1 K W)) (sAgF [(He.ga K "Order")] "times" agAdd (eV 0) (eC (.int 1))))
@[irreducible] def sp_Order_label_all (K : PySem.W.Frag) : Sp := fun vs H Q E => vs.length = 1 ∧ t_Order_label_all K (wE E) (endOf Q) (st0 vs 3) H
theorem sp_Order_label_all_i {K : PySem.W.Frag} {a0 : V} {H : Hp} {Q : VK} {E : XK} (h : t_Order_label_all K (wE E) (endOf Q) [some a0, none, none, none] H) : sp_Order_label_all K [a0] H Q E := by unfold sp_Order_label_all; exact ⟨rfl, h⟩
def t_L_cell_at (K : PySem.W.Frag) (W : WX) : TS := tSeq (sIf (kT (eB (opLt) (eV 1) (eF (cLen K) (aC (eV 0) (aN))))) (sRet (eB (ixX K) (eV 0) (eV 1))) (tNext)) (sRet (eB (opAdd K) (eB (opMul) (eC (.int 7919)) (eV 1)) (eC (.int 13))))
@[irreducible] def sp_L_cell_at (K : PySem.W.Frag) : Sp := fun vs H Q E => vs.length = 2 ∧ t_L_cell_at K (wE E) (endOf Q) (st0 vs 0) H
theorem sp_L_cell_at_i {K : PySem.W.Frag} {a0 a1 : V} {H : Hp} {Q : VK} {E : XK} (h : t_L_cell_at K (wE E) (endOf Q) [some a0, some a1] H) : sp_L_cell_at K [a0, a1] H Q E := by unfold sp_L_cell_at; exact ⟨rfl, h⟩
def t_L_box (K : PySem.W.Frag) (W : WX) : TS := sRet (eDis [(eC (.str "left"), eF (cMax K) (aC (eC (.int 0)) (aC (eB (opSub) (eV 0) (eB (opPow) (eC (.int 10)) (eC (.int 18)))) (aN)))), (eC (.str "seed"), eB (opMod) (eV 0) (eC (.int 2147483647))), (eC (.str "turn"), eC (.int 0))])
@[irreducible] def sp_L_box (K : PySem.W.Frag) : Sp := fun vs H Q E => vs.length = 1 ∧ t_L_box K (wE E) (endOf Q) (st0 vs 0) H
theorem sp_L_box_i {K : PySem.W.Frag} {a0 : V} {H : Hp} {Q : VK} {E : XK} (h : t_L_box K (wE E) (endOf Q) [some a0] H) : sp_L_box K [a0] H Q E := by unfold sp_L_box; exact ⟨rfl, h⟩
def t_L_take (K : PySem.W.Frag) (W : WX) : TS := tSeq (sIf (kT (eB (opGt) (eB (ixX K) (eV 0) (eC (.str "left"))) (eC (.int 0)))) (tSeq (sSet 2 (eB (opMod) (eB (ixX K) (eV 0) (eC (.str "left"))) (eV 1))) (tSeq (sSetI (eB (opDiv) (eB (ixX K) (eV 0) (eC (.str "left"))) (eV 1)) (eV 0) (eC (.str "left"))) (sRet (eV 2)))) (tNext)) (tSeq (sSetI (eB (opAdd K) (eB (ixX K) (eV 0) (eC (.str "turn"))) (eC (.int 1))) (eV 0) (eC (.str "turn"))) (tSeq (sSet 3 (eB (opMod) (eB (opPow) (eB (opAdd K) (eB (ixX K) (eV 0) (eC (.str "seed"))) (eB (opMul) (eC (.int 7919)) (eB (ixX K) (eV 0) (eC (.str "turn"))))) (eC (.int 3))) (eC (.int 2147483629)))) (tSeq (sSet 3 (eB (opMod) (eB (opPow) (eB (opAdd K) (eV 3) (eB (opMul) (eC (.int 104729)) (eB (ixX K) (eV 0) (eC (.str "turn"))))) (eC (.int 2))) (eC (.int 2147483587)))) (sRet (eB (opMod) (eB (opDiv) (eV 3) (eC (.int 8))) (eV 1))))))
@[irreducible] def sp_L_take (K : PySem.W.Frag) : Sp := fun vs H Q E => vs.length = 2 ∧ t_L_take K (wE E) (endOf Q) (st0 vs 2) H
theorem sp_L_take_i {K : PySem.W.Frag} {a0 a1 : V} {H : Hp} {Q : VK} {E : XK} (h : t_L_take K (wE E) (endOf Q) [some a0, some a1, none, none] H) : sp_L_take K [a0, a1] H Q E := by unfold sp_L_take; exact ⟨rfl, h⟩
def t_L_end (K : PySem.W.Frag) (W : WX) : TS := tSeq (sIf (kT (eB (opLt) (eB (opAdd K) (eV 1) (eC (.int 1))) (eF (cLen K) (aC (eV 0) (aN))))) (sRet (eB (ixX K) (eB (ixX K) (eV 0) (eB (opAdd K) (eV 1) (eC (.int 1)))) (eC (.int 1)))) (tNext)) (sRet (eC (.int 1024)))
@[irreducible] def sp_L_end (K : PySem.W.Frag) : Sp := fun vs H Q E => vs.length = 2 ∧ t_L_end K (wE E) (endOf Q) (st0 vs 0) H
theorem sp_L_end_i {K : PySem.W.Frag} {a0 a1 : V} {H : Hp} {Q : VK} {E : XK} (h : t_L_end K (wE E) (endOf Q) [some a0, some a1] H) : sp_L_end K [a0, a1] H Q E := by unfold sp_L_end; exact ⟨rfl, h⟩
def t_Tour_many (K : PySem.W.Frag) (W : WX) : TS := sRet (eF (cLen K) (aC (eFld [(He.ga K "Tour")] "both_marks" (eV 0)) (aN)))
@[irreducible] def sp_Tour_many (K : PySem.W.Frag) : Sp := fun vs H Q E => vs.length = 1 ∧ t_Tour_many K (wE E) (endOf Q) (st0 vs 0) H
theorem sp_Tour_many_i {K : PySem.W.Frag} {a0 : V} {H : Hp} {Q : VK} {E : XK} (h : t_Tour_many K (wE E) (endOf Q) [some a0] H) : sp_Tour_many K [a0] H Q E := by unfold sp_Tour_many; exact ⟨rfl, h⟩
def t_Order_many (K : PySem.W.Frag) (W : WX) : TS := sRet (eF (cLen K) (aC (eFld [(He.ga K "Order")] "standing" (eV 0)) (aN)))
@[irreducible] def sp_Order_many (K : PySem.W.Frag) : Sp := fun vs H Q E => vs.length = 1 ∧ t_Order_many K (wE E) (endOf Q) (st0 vs 0) H
theorem sp_Order_many_i {K : PySem.W.Frag} {a0 : V} {H : Hp} {Q : VK} {E : XK} (h : t_Order_many K (wE E) (endOf Q) [some a0] H) : sp_Order_many K [a0] H Q E := by unfold sp_Order_many; exact ⟨rfl, h⟩
def t_Order_marks (K : PySem.W.Frag) (W : WX) : TS := sRet (eF (cList K) (aC (eFld [(He.ga K "Order")] "standing" (eV 0)) (aN)))
@[irreducible] def sp_Order_marks (K : PySem.W.Frag) : Sp := fun vs H Q E => vs.length = 1 ∧ t_Order_marks K (wE E) (endOf Q) (st0 vs 0) H
theorem sp_Order_marks_i {K : PySem.W.Frag} {a0 : V} {H : Hp} {Q : VK} {E : XK} (h : t_Order_marks K (wE E) (endOf Q) [some a0] H) : sp_Order_marks K [a0] H Q E := by unfold sp_Order_marks; exact ⟨rfl, h⟩
def t_Order_anew (K : PySem.W.Frag) (W : WX) : TS := sRet (eFld [(He.ga K "Order")] "times" (eV 0))
@[irreducible] def sp_Order_anew (K : PySem.W.Frag) : Sp := fun vs H Q E => vs.length = 1 ∧ t_Order_anew K (wE E) (endOf Q) (st0 vs 0) H
theorem sp_Order_anew_i {K : PySem.W.Frag} {a0 : V} {H : Hp} {Q : VK} {E : XK} (h : t_Order_anew K (wE E) (endOf Q) [some a0] H) : sp_Order_anew K [a0] H Q E := by unfold sp_Order_anew; exact ⟨rfl, h⟩
def t_NoMark_init (K : PySem.W.Frag) (W : WX) : TS := tSeq (sDrop (eCall (sp_MakesError_init K) W (aC (eV 0) (aC (eC (.str "no mark")) (aN))))) (tOst K "found" (eV 0) (eV 1))
@[irreducible] def sp_NoMark_init (K : PySem.W.Frag) : Sp := fun vs H Q E => vs.length = 2 ∧ t_NoMark_init K (wE E) (endOf Q) (st0 vs 0) H
theorem sp_NoMark_init_i {K : PySem.W.Frag} {a0 a1 : V} {H : Hp} {Q : VK} {E : XK} (h : t_NoMark_init K (wE E) (endOf Q) [some a0, some a1] H) : sp_NoMark_init K [a0, a1] H Q E := by unfold sp_NoMark_init; exact ⟨rfl, h⟩
def t_TooMany_init (K : PySem.W.Frag) (W : WX) : TS := tSeq (sDrop (eCall (sp_MakesError_init K) W (aC (eV 0) (aC (eC (.str "too many")) (aN))))) (tOst K "count" (eV 0) (eV 1))
@[irreducible] def sp_TooMany_init (K : PySem.W.Frag) : Sp := fun vs H Q E => vs.length = 2 ∧ t_TooMany_init K (wE E) (endOf Q) (st0 vs 0) H
theorem sp_TooMany_init_i {K : PySem.W.Frag} {a0 a1 : V} {H : Hp} {Q : VK} {E : XK} (h : t_TooMany_init K (wE E) (endOf Q) [some a0, some a1] H) : sp_TooMany_init K [a0, a1] H Q E := by unfold sp_TooMany_init; exact ⟨rfl, h⟩
def t_L_one_of (K : PySem.W.Frag) (W : WX) : TS := tSeq (sSet 2 (eCall (sp_L_take K) W (aC (eV 0) (aC (eC (.int 4)) (aN))))) (tSeq (sSet 3 (eCall (sp_L_take K) W (aC (eV 0) (aC (eV 1) (aN))))) (sRet (eB (ixX K) (eL (aC (eV 3) (aC (eC (.int 0)) (aC (eB (opSub) (eV 1) (eC (.int 1))) (aC (eF (cMax K) (aC (eC (.int 0)) (aC (eB (opSub) (eV 1) (eC (.int 2))) (aN)))) (aN)))))) (eV 2))))
@[irreducible] def sp_L_one_of (K : PySem.W.Frag) : Sp := fun vs H Q E => vs.length = 2 ∧ t_L_one_of K (wE E) (endOf Q) (st0 vs 2) H
theorem sp_L_one_of_i {K : PySem.W.Frag} {a0 a1 : V} {H : Hp} {Q : VK} {E : XK} (h : t_L_one_of K (wE E) (endOf Q) [some a0, some a1, none, none] H) : sp_L_one_of K [a0, a1] H Q E := by unfold sp_L_one_of; exact ⟨rfl, h⟩
def t_NoMake_init (K : PySem.W.Frag) (W : WX) : TS := tSeq (sDrop (eCall (sp_MakesError_init K) W (aC (eV 0) (aC (eC (.str "no kept make")) (aN))))) (tOst K "found" (eV 0) (eV 1))
@[irreducible] def sp_NoMake_init (K : PySem.W.Frag) : Sp := fun vs H Q E => vs.length = 2 ∧ t_NoMake_init K (wE E) (endOf Q) (st0 vs 0) H
theorem sp_NoMake_init_i {K : PySem.W.Frag} {a0 a1 : V} {H : Hp} {Q : VK} {E : XK} (h : t_NoMake_init K (wE E) (endOf Q) [some a0, some a1] H) : sp_NoMake_init K [a0, a1] H Q E := by unfold sp_NoMake_init; exact ⟨rfl, h⟩
def c_L_lay_1 (K : PySem.W.Frag) : TE := eV 4
def c_L_lay_2 (K : PySem.W.Frag) : TE := eT (aC (eV 4) (aC (eB (opMul) (eV 7) (eV 6)) (aN)))
def t_L_lay (K : PySem.W.Frag) (W : WX) : TS := tSeq (sSet 2 (eB (ixX K) (eV 0) (eC (.str "row")))) (tSeq (sSet 3 (tBM K "list" (opIdx K) (eLc (iV K (eV 2)) (gU K [4, 5]) (tYes) (c_L_lay_1 K) [4, 5]) (aC (eV 1) (aN)))) (tSeq (sIf (kT (eB (opLt) (eB (opSub) (eCall (sp_L_end K) W (aC (eV 2) (aC (eV 3) (aN)))) (eB (ixX K) (eB (ixX K) (eV 2) (eV 3)) (eC (.int 1)))) (eC (.int 2)))) (tSeq (sSet 6 (eB (opDiv) (eC (.int 1024)) (eF (cLen K) (aC (eV 2) (aN))))) (tSeq (sSet 2 (eLc (iEn K (aC (eV 2) (aN))) (gUN K [gN 7, gU K [4, 5]]) (tYes) (c_L_lay_2 K) [7, 4, 5])) (sSetI (eB (opAdd K) (eB (ixX K) (eV 0) (eC (.str "times"))) (eC (.int 1))) (eV 0) (eC (.str "times"))))) (tNext)) (tSeq (sSetI (eB (opAdd K) (eB (opAdd K) (tSl (slX K) (eV 2) tNoPart (tPart (eB (opAdd K) (eV 3) (eC (.int 1))))) (eL (aC (eT (aC (eF (cLen K) (aC (eV 2) (aN))) (aC (eB (opDiv) (eB (opAdd K) (eB (ixX K) (eB (ixX K) (eV 2) (eV 3)) (eC (.int 1))) (eCall (sp_L_end K) W (aC (eV 2) (aC (eV 3) (aN))))) (eC (.int 2))) (aN)))) (aN)))) (tSl (slX K) (eV 2) (tPart (eB (opAdd K) (eV 3) (eC (.int 1)))) tNoPart)) (eV 0) (eC (.str "row"))) (sRet (eF (cLen K) (aC (eV 2) (aN)))))))
@[irreducible] def sp_L_lay (K : PySem.W.Frag) : Sp := fun vs H Q E => vs.length = 2 ∧ t_L_lay K (wE E) (endOf Q) (st0 vs 6) H
theorem sp_L_lay_i {K : PySem.W.Frag} {a0 a1 : V} {H : Hp} {Q : VK} {E : XK} (h : t_L_lay K (wE E) (endOf Q) [some a0, some a1, none, none, none, none, none, none] H) : sp_L_lay K [a0, a1] H Q E := by unfold sp_L_lay; exact ⟨rfl, h⟩
def c_Tour_by_marks_1 (K : PySem.W.Frag) : TE := eT (aC (eB (ixX K) (eV 4) (eV 1)) (aC (eV 3) (aN)))
def c_Tour_by_marks_2 (K : PySem.W.Frag) : TE := eB (ixX K) (eV 2) (eV 5)
def t_Tour_by_marks (K : PySem.W.Frag) (W : WX) : TS := tSeq (sSet 2 (eF (cDict K) (aC (eLc (iEn K (aC (eFld [(He.ga K "Tour")] "both_marks" (eV 0)) (aN))) (gU K [3, 4]) (tYes) (c_Tour_by_marks_1 K) [3, 4]) (aN)))) (sRet (eLc (iV K (eMethD [((He.ga K "Order"), sp_Order_marks K)] "marks" W (eFld [(He.ga K "Tour")] "placed" (eV 0)) aN)) (gN 5) (kT (eB (inX K false) (eV 5) (eV 2))) (c_Tour_by_marks_2 K) [5]))
@[irreducible] def sp_Tour_by_marks (K : PySem.W.Frag) : Sp := fun vs H Q E => vs.length = 2 ∧ t_Tour_by_marks K (wE E) (endOf Q) (st0 vs 4) H
theorem sp_Tour_by_marks_i {K : PySem.W.Frag} {a0 a1 : V} {H : Hp} {Q : VK} {E : XK} (h : t_Tour_by_marks K (wE E) (endOf Q) [some a0, some a1, none, none, none, none] H) : sp_Tour_by_marks K [a0, a1] H Q E := by unfold sp_Tour_by_marks; exact ⟨rfl, h⟩
def t_Order_copied (K : PySem.W.Frag) (W : WX) : TS := tSeq (sSet 1 (eMake (He.ga K "Order") (sp_Order_init K) W aN)) (tSeq (sStF [(He.ga K "Order")] "standing" (eF (cList K) (aC (eFld [(He.ga K "Order")] "standing" (eV 0)) (aN))) (eV 1)) (tSeq (sStF [(He.ga K "Order")] "labelled" (eF (cDict K) (aC (eFld [(He.ga K "Order")] "labelled" (eV 0)) (aN))) (eV 1)) (tSeq (sStF [(He.ga K "Order")] "given" (eFld [(He.ga K "Order")] "given" (eV 0)) (eV 1)) (tSeq (sStF [(He.ga K "Order")] "times" (eFld [(He.ga K "Order")] "times" (eV 0)) (eV 1)) (sRet (eV 1))))))
@[irreducible] def sp_Order_copied (K : PySem.W.Frag) : Sp := fun vs H Q E => vs.length = 1 ∧ t_Order_copied K (wE E) (endOf Q) (st0 vs 1) H
theorem sp_Order_copied_i {K : PySem.W.Frag} {a0 : V} {H : Hp} {Q : VK} {E : XK} (h : t_Order_copied K (wE E) (endOf Q) [some a0, none] H) : sp_Order_copied K [a0] H Q E := by unfold sp_Order_copied; exact ⟨rfl, h⟩
def t_Tour_coming (K : PySem.W.Frag) (W : WX) : TS := sRet (eMethD [((He.ga K "Tour"), sp_Tour_by_marks K)] "by_marks" W (eV 0) (aC (eC (.int 0)) (aN)))
@[irreducible] def sp_Tour_coming (K : PySem.W.Frag) : Sp := fun vs H Q E => vs.length = 1 ∧ t_Tour_coming K (wE E) (endOf Q) (st0 vs 0) H
theorem sp_Tour_coming_i {K : PySem.W.Frag} {a0 : V} {H : Hp} {Q : VK} {E : XK} (h : t_Tour_coming K (wE E) (endOf Q) [some a0] H) : sp_Tour_coming K [a0] H Q E := by unfold sp_Tour_coming; exact ⟨rfl, h⟩
def t_Tour_leaving (K : PySem.W.Frag) (W : WX) : TS := sRet (eMethD [((He.ga K "Tour"), sp_Tour_by_marks K)] "by_marks" W (eV 0) (aC (eC (.int 1)) (aN)))
@[irreducible] def sp_Tour_leaving (K : PySem.W.Frag) : Sp := fun vs H Q E => vs.length = 1 ∧ t_Tour_leaving K (wE E) (endOf Q) (st0 vs 0) H
theorem sp_Tour_leaving_i {K : PySem.W.Frag} {a0 : V} {H : Hp} {Q : VK} {E : XK} (h : t_Tour_leaving K (wE E) (endOf Q) [some a0] H) : sp_Tour_leaving K [a0] H Q E := by unfold sp_Tour_leaving; exact ⟨rfl, h⟩
def t_Order_need_mark (K : PySem.W.Frag) (W : WX) : TS := sIf (kOr (kNot (kT (eCall (sp_is_whole K) W (aC (eV 1) (aC (eC (.int 0)) (aC (eB (opSub) (eFld [(He.ga K "Order")] "given" (eV 0)) (eC (.int 1))) (aN))))))) (kT (eB (inX K true) (eV 1) (eFld [(He.ga K "Order")] "labelled" (eV 0))))) (sRaise (He.ga K "NoMark") ["found"] W (aC (eV 1) (aN))) (tNext)
@[irreducible] def sp_Order_need_mark (K : PySem.W.Frag) : Sp := fun vs H Q E => vs.length = 2 ∧ t_Order_need_mark K (wE E) (endOf Q) (st0 vs 0) H
theorem sp_Order_need_mark_i {K : PySem.W.Frag} {a0 a1 : V} {H : Hp} {Q : VK} {E : XK} (h : t_Order_need_mark K (wE E) (endOf Q) [some a0, some a1] H) : sp_Order_need_mark K [a0, a1] H Q E := by unfold sp_Order_need_mark; exact ⟨rfl, h⟩
def t_Tour_need_make (K : PySem.W.Frag) (W : WX) : TS := sIf (kNot (kT (eCall (sp_is_whole K) W (aC (eV 1) (aC (eC (.int 0)) (aC (eB (opSub) (eF (cLen K) (aC (eFld [(He.ga K "Tour")] "both_marks" (eV 0)) (aN))) (eC (.int 1))) (aN))))))) (sRaise (He.ga K "NoMake") ["found"] W (aC (eV 1) (aN))) (tNext)
@[irreducible] def sp_Tour_need_make (K : PySem.W.Frag) : Sp := fun vs H Q E => vs.length = 2 ∧ t_Tour_need_make K (wE E) (endOf Q) (st0 vs 0) H
theorem sp_Tour_need_make_i {K : PySem.W.Frag} {a0 a1 : V} {H : Hp} {Q : VK} {E : XK} (h : t_Tour_need_make K (wE E) (endOf Q) [some a0, some a1] H) : sp_Tour_need_make K [a0, a1] H Q E := by unfold sp_Tour_need_make; exact ⟨rfl, h⟩
def t_Tour_order (K : PySem.W.Frag) (W : WX) : TS := sRet (eMethD [((He.ga K "Order"), sp_Order_copied K)] "copied" W (eFld [(He.ga K "Tour")] "placed" (eV 0)) aN)
@[irreducible] def sp_Tour_order (K : PySem.W.Frag) : Sp := fun vs H Q E => vs.length = 1 ∧ t_Tour_order K (wE E) (endOf Q) (st0 vs 0) H
theorem sp_Tour_order_i {K : PySem.W.Frag} {a0 : V} {H : Hp} {Q : VK} {E : XK} (h : t_Tour_order K (wE E) (endOf Q) [some a0] H) : sp_Tour_order K [a0] H Q E := by unfold sp_Tour_order; exact ⟨rfl, h⟩
def t_Order_behind (K : PySem.W.Frag) (W : WX) : TS := tSeq (sDrop (eMethD [((He.ga K "Order"), sp_Order_need_mark K)] "need_mark" W (eV 0) (aC (eV 1) (aN)))) (tSeq (sIf (kT (eB (opEq K) (eF (cLen K) (aC (eFld [(He.ga K "Order")] "standing" (eV 0)) (aN))) (eC (.int 200)))) (sRaise (He.ga K "TooMany") ["count"] W (aC (eB (opAdd K) (eC (.int 200)) (eC (.int 1))) (aN))) (tNext)) (tSeq (sSet 2 (tBM K "list" (opIdx K) (eFld [(He.ga K "Order")] "standing" (eV 0)) (aC (eV 1) (aN)))) (tSeq (sIf (kT (eB (opLt) (eB (opSub) (eMethD [((He.ga K "Order"), sp_Order_label_behind K)] "label_behind" W (eV 0) (aC (eV 2) (aN))) (eB (ixX K) (eFld [(He.ga K "Order")] "labelled" (eV 0)) (eV 1))) (eC (.int 2)))) (sDrop (eMethD [((He.ga K "Order"), sp_Order_label_all K)] "label_all" W (eV 0) aN)) (tNext)) (tSeq (sSet 3 (eFld [(He.ga K "Order")] "given" (eV 0))) (tSeq (sSetI (eB (opDiv) (eB (opAdd K) (eB (ixX K) (eFld [(He.ga K "Order")] "labelled" (eV 0)) (eV 1)) (eMethD [((He.ga K "Order"), sp_Order_label_behind K)] "label_behind" W (eV 0) (aC (eV 2) (aN)))) (eC (.int 2))) (eFld [(He.ga K "Order")] "labelled" (eV 0)) (eV 3)) (tSeq (sDrop (tBM K "list" opIns (eFld [(He.ga K "Order")] "standing" (eV 0)) (aC (eB (opAdd K) (eV 2) (eC (.int 1))) (aC (eV 3) (aN))))) (tSeq (sAgF [(He.ga K "Order")] "given" agAdd (eV 0) (eC (.int 1))) (sRet (eV 3)))))))))
@[irreducible] def sp_Order_behind (K : PySem.W.Frag) : Sp := fun vs H Q E => vs.length = 2 ∧ t_Order_behind K (wE E) (endOf Q) (st0 vs 2) H
theorem sp_Order_behind_i {K : PySem.W.Frag} {a0 a1 : V} {H : Hp} {Q : VK} {E : XK} (h : t_Order_behind K (wE E) (endOf Q) [some a0, some a1, none, none] H) : sp_Order_behind K [a0, a1] H Q E := by unfold sp_Order_behind; exact ⟨rfl, h⟩
def t_Tour_marks_of (K : PySem.W.Frag) (W : WX) : TS := tSeq (sDrop (eMethD [((He.ga K "Tour"), sp_Tour_need_make K)] "need_make" W (eV 0) (aC (eV 1) (aN)))) (sRet (eB (ixX K) (eFld [(He.ga K "Tour")] "both_marks" (eV 0)) (eV 1)))
@[irreducible] def sp_Tour_marks_of (K : PySem.W.Frag) : Sp := fun vs H Q E => vs.length = 2 ∧ t_Tour_marks_of K (wE E) (endOf Q) (st0 vs 0) H
theorem sp_Tour_marks_of_i {K : PySem.W.Frag} {a0 a1 : V} {H : Hp} {Q : VK} {E : XK} (h : t_Tour_marks_of K (wE E) (endOf Q) [some a0, some a1] H) : sp_Tour_marks_of K [a0, a1] H Q E := by unfold sp_Tour_marks_of; exact ⟨rfl, h⟩
def t_Order_label (K : PySem.W.Frag) (W : WX) : TS := tSeq (sDrop (eMethD [((He.ga K "Order"), sp_Order_need_mark K)] "need_mark" W (eV 0) (aC (eV 1) (aN)))) (sRet (eB (ixX K) (eFld [(He.ga K "Order")] "labelled" (eV 0)) (eV 1)))
@[irreducible] def sp_Order_label (K : PySem.W.Frag) : Sp := fun vs H Q E => vs.length = 2 ∧ t_Order_label K (wE E) (endOf Q) (st0 vs 0) H
theorem sp_Order_label_i {K : PySem.W.Frag} {a0 a1 : V} {H : Hp} {Q : VK} {E : XK} (h : t_Order_label K (wE E) (endOf Q) [some a0, some a1] H) : sp_Order_label K [a0, a1] H Q E := by unfold sp_Order_label; exact ⟨rfl, h⟩
def t_Tour_init (K : PySem.W.Frag) (W : WX) : TS := tSeq (sStF [(He.ga K "Tour")] "placed" (eMake (He.ga K "Order") (sp_Order_init K) W aN) (eV 0)) (sStF [(He.ga K "Tour")] "both_marks" (eL (aC (eT (aC (eC (.int 0)) (aC (eMethD [((He.ga K "Order"), sp_Order_behind K)] "behind" W (eFld [(He.ga K "Tour")] "placed" (eV 0)) (aC (eC (.int 0)) (aN))) (aN)))) (aN))) (eV 0))
@[irreducible] def sp_Tour_init (K : PySem.W.Frag) : Sp := fun vs H Q E => vs.length = 1 ∧ t_Tour_init K (wE E) (endOf Q) (st0 vs 0) H
theorem sp_Tour_init_i {K : PySem.W.Frag} {a0 : V} {H : Hp} {Q : VK} {E : XK} (h : t_Tour_init K (wE E) (endOf Q) [some a0] H) : sp_Tour_init K [a0] H Q E := by unfold sp_Tour_init; exact ⟨rfl, h⟩
def t_Tour_grow (K : PySem.W.Frag) (W : WX) : TS := tSeq (sDrop (eMethD [((He.ga K "Tour"), sp_Tour_need_make K)] "need_make" W (eV 0) (aC (eV 1) (aN)))) (tSeq (sIf (kT (eB (opEq K) (eF (cLen K) (aC (eFld [(He.ga K "Tour")] "both_marks" (eV 0)) (aN))) (eC (.int 64)))) (sRaise (He.ga K "TooMany") ["count"] W (aC (eB (opAdd K) (eC (.int 64)) (eC (.int 1))) (aN))) (tNext)) (tSeq (sSet 2 (eMethD [((He.ga K "Order"), sp_Order_behind K)] "behind" W (eFld [(He.ga K "Tour")] "placed" (eV 0)) (aC (eB (ixX K) (eB (ixX K) (eFld [(He.ga K "Tour")] "both_marks" (eV 0)) (eV 1)) (eC (.int 0))) (aN)))) (tSeq (sDrop (tBM K "list" opApp (eFld [(He.ga K "Tour")] "both_marks" (eV 0)) (aC (eT (aC (eV 2) (aC (eMethD [((He.ga K "Order"), sp_Order_behind K)] "behind" W (eFld [(He.ga K "Tour")] "placed" (eV 0)) (aC (eV 2) (aN))) (aN)))) (aN)))) (sRet (eB (opSub) (eF (cLen K) (aC (eFld [(He.ga K "Tour")] "both_marks" (eV 0)) (aN))) (eC (.int 1)))))))
@[irreducible] def sp_Tour_grow (K : PySem.W.Frag) : Sp := fun vs H Q E => vs.length = 2 ∧ t_Tour_grow K (wE E) (endOf Q) (st0 vs 1) H
theorem sp_Tour_grow_i {K : PySem.W.Frag} {a0 a1 : V} {H : Hp} {Q : VK} {E : XK} (h : t_Tour_grow K (wE E) (endOf Q) [some a0, some a1, none] H) : sp_Tour_grow K [a0, a1] H Q E := by unfold sp_Tour_grow; exact ⟨rfl, h⟩
def c_L_lists_right_1 (K : PySem.W.Frag) : TE := eV 3
def c_L_lists_right_2 (K : PySem.W.Frag) : TE := eT (aC (eV 3) (aC (eMethD [((He.ga K "Order"), sp_Order_label K)] "label" noW (eV 6) (aC (eV 3) (aN))) (aN)))
def c_L_lists_right_3 (K : PySem.W.Frag) : TE := eB (opDiv) (eV 3) (eC (.int 2))
def c_L_lists_right_4 (K : PySem.W.Frag) : TE := eB (opDiv) (eV 3) (eC (.int 2))
def b_L_lists_right_1 (K : PySem.W.Frag) (W : WX) : TS := tSeq (sSet 6 (eMethD [((He.ga K "Tour"), sp_Tour_order K)] "order" W (eV 0) aN)) (tSeq (sSet 7 (eMethD [((He.ga K "Tour"), sp_Tour_coming K)] "coming" W (eV 0) aN)) (tSeq (sSet 8 (eMethD [((He.ga K "Tour"), sp_Tour_leaving K)] "leaving" W (eV 0) aN)) (tSeq (sIf (kOr (kNot (kT (eF (cIso (He.ga K "Order") [((He.ga K "Order"), true), ((He.ga K "Tour"), false)]) (aC (eV 6) (aC (eC (.ref (He.ga K "Order"))) aN))))) (kT (eB (opNe K) (eF (cRepr K) (aC (eMethD [((He.ga K "Order"), sp_Order_marks K)] "marks" W (eV 6) aN) (aN))) (eF (cRepr K) (aC (eV 2) (aN)))))) (sRet (eC (.bl false))) (tNext)) (tSeq (sIf (kOr (kT (eB (opNe K) (eLc (iV K (eV 2)) (gN 3) (tYes) (c_L_lists_right_2 K) [3]) (eB (ixX K) (eV 1) (eC (.str "row"))))) (kT (eB (opNe K) (eMethD [((He.ga K "Order"), sp_Order_anew K)] "anew" W (eV 6) aN) (eB (ixX K) (eV 1) (eC (.str "times")))))) (sRet (eC (.bl false))) (tNext)) (tSeq (sIf (kT (eB (opNe K) (eF (cRepr K) (aC (eV 7) (aN))) (eF (cRepr K) (aC (eLc (iV K (eV 2)) (gN 3) (kT (eB (opEq K) (eB (opMod) (eV 3) (eC (.int 2))) (eC (.int 0)))) (c_L_lists_right_3 K) [3]) (aN))))) (sRet (eC (.bl false))) (tNext)) (tSeq (sIf (kT (eB (opNe K) (eF (cRepr K) (aC (eV 8) (aN))) (eF (cRepr K) (aC (eLc (iV K (eV 2)) (gN 3) (kT (eB (opEq K) (eB (opMod) (eV 3) (eC (.int 2))) (eC (.int 1)))) (c_L_lists_right_4 K) [3]) (aN))))) (sRet (eC (.bl false))) (tNext)) (tSeq (sDrop (eMethD [((He.ga K "Order"), sp_Order_behind K)] "behind" W (eV 6) (aC (eB (ixX K) (eV 2) (eB (opDiv) (eF (cLen K) (aC (eV 2) (aN))) (eC (.int 2)))) (aN)))) (tSeq (sDrop (tBM0 K "list" opClr (eV 7))) (sDrop (tBM K "list" opApp (eV 8) (aC (eC (.int 0)) (aN))))))))))))
def t_L_lists_right (K : PySem.W.Frag) (W : WX) : TS := tSeq (sSet 2 (eLc (iV K (eB (ixX K) (eV 1) (eC (.str "row")))) (gU K [3, 4]) (tYes) (c_L_lists_right_1 K) [3, 4])) (tSeq (sFor (iR1 (aC (eC (.int 2)) (aN))) (gN 5) (b_L_lists_right_1 K W)) (sRet (eC (.bl true))))
@[irreducible] def sp_L_lists_right (K : PySem.W.Frag) : Sp := fun vs H Q E => vs.length = 2 ∧ t_L_lists_right K (wE E) (endOf Q) (st0 vs 7) H
theorem sp_L_lists_right_i {K : PySem.W.Frag} {a0 a1 : V} {H : Hp} {Q : VK} {E : XK} (h : t_L_lists_right K (wE E) (endOf Q) [some a0, some a1, none, none, none, none, none, none, none] H) : sp_L_lists_right K [a0, a1] H Q E := by unfold sp_L_lists_right; exact ⟨rfl, h⟩
def b_L_right_1 (K : PySem.W.Frag) (W : WX) : TS := tSeq (sSet 5 (eCall (sp_L_take K) W (aC (eV 0) (aC (eV 3) (aN))))) (sIf (kT (eB (opNe K) (eF (cRepr K) (aC (eMethD [((He.ga K "Tour"), sp_Tour_marks_of K)] "marks_of" W (eV 1) (aC (eV 5) (aN))) (aN))) (eF (cRepr K) (aC (eT (aC (eB (opMul) (eC (.int 2)) (eV 5)) (aC (eB (opAdd K) (eB (opMul) (eC (.int 2)) (eV 5)) (eC (.int 1))) (aN)))) (aN))))) (sRet (eC (.bl false))) (tNext))
def t_L_right (K : PySem.W.Frag) (W : WX) : TS := tSeq (sSet 3 (eB (opDiv) (eF (cLen K) (aC (eB (ixX K) (eV 2) (eC (.str "row"))) (aN))) (eC (.int 2)))) (tSeq (sIf (kT (eB (opNe K) (eF (cRepr K) (aC (eMethD [((He.ga K "Order"), sp_Order_many K), ((He.ga K "Tour"), sp_Tour_many K)] "many" W (eV 1) aN) (aN))) (eF (cRepr K) (aC (eV 3) (aN))))) (sRet (eC (.bl false))) (tNext)) (tSeq (sFor (iR1 (aC (eC (.int 2)) (aN))) (gN 4) (b_L_right_1 K W)) (sRet (eCall (sp_L_lists_right K) W (aC (eV 1) (aC (eV 2) (aN)))))))
@[irreducible] def sp_L_right (K : PySem.W.Frag) : Sp := fun vs H Q E => vs.length = 3 ∧ t_L_right K (wE E) (endOf Q) (st0 vs 3) H
theorem sp_L_right_i {K : PySem.W.Frag} {a0 a1 a2 : V} {H : Hp} {Q : VK} {E : XK} (h : t_L_right K (wE E) (endOf Q) [some a0, some a1, some a2, none, none, none] H) : sp_L_right K [a0, a1, a2] H Q E := by unfold sp_L_right; exact ⟨rfl, h⟩
def t_Tour_copied (K : PySem.W.Frag) (W : WX) : TS := tSeq (sSet 1 (eMake (He.ga K "Tour") (sp_Tour_init K) W aN)) (tSeq (sStF [(He.ga K "Tour")] "placed" (eMethD [((He.ga K "Order"), sp_Order_copied K)] "copied" W (eFld [(He.ga K "Tour")] "placed" (eV 0)) aN) (eV 1)) (tSeq (sStF [(He.ga K "Tour")] "both_marks" (eF (cList K) (aC (eFld [(He.ga K "Tour")] "both_marks" (eV 0)) (aN))) (eV 1)) (sRet (eV 1))))
@[irreducible] def sp_Tour_copied (K : PySem.W.Frag) : Sp := fun vs H Q E => vs.length = 1 ∧ t_Tour_copied K (wE E) (endOf Q) (st0 vs 1) H
theorem sp_Tour_copied_i {K : PySem.W.Frag} {a0 : V} {H : Hp} {Q : VK} {E : XK} (h : t_Tour_copied K (wE E) (endOf Q) [some a0, none] H) : sp_Tour_copied K [a0] H Q E := by unfold sp_Tour_copied; exact ⟨rfl, h⟩
def b_law_1 (K : PySem.W.Frag) (W : WX) : TS := sIf (kNot (kT (eCall (sp_L_right K) W (aC (eV 4) (aC (eB (ixX K) (eV 1) (eV 9)) (aC (eB (ixX K) (eV 2) (eV 9)) (aN))))))) (sRet (eC (.bl false))) (tNext)
def b_law_2 (K : PySem.W.Frag) (W : WX) : TS := tSeq (sSet 4 (eCall (sp_L_box K) W (aC (eCall (sp_L_cell_at K) W (aC (eV 0) (aC (eV 3) (aN)))) (aN)))) (tSeq (sSet 5 (eF (cInt) (aC (eB (opEq K) (eCall (sp_L_take K) W (aC (eV 4) (aC (eC (.int 8)) (aN)))) (eC (.int 0))) (aN)))) (tSeq (sSet 6 (eB (opEq K) (eCall (sp_L_take K) W (aC (eV 4) (aC (eC (.int 8)) (aN)))) (eC (.int 0)))) (tSeq (sSet 7 (eB (opDiv) (eF (cLen K) (aC (eB (ixX K) (eB (ixX K) (eV 2) (eV 5)) (eC (.str "row"))) (aN))) (eC (.int 2)))) (tSeq (sSet 8 (eCall (sp_L_one_of K) W (aC (eV 4) (aC (eV 7) (aN))))) (tSeq (sIf (kT (eB (opNe K) (eF (cRepr K) (aC (eMethD [((He.ga K "Tour"), sp_Tour_grow K)] "grow" W (eB (ixX K) (eV 1) (eV 5)) (aC (eV 8) (aN))) (aN))) (eF (cRepr K) (aC (eV 7) (aN))))) (sRet (eC (.bl false))) (tNext)) (tSeq (sDrop (eCall (sp_L_lay K) W (aC (eB (ixX K) (eV 2) (eV 5)) (aC (eCall (sp_L_lay K) W (aC (eB (ixX K) (eV 2) (eV 5)) (aC (eB (opMul) (eC (.int 2)) (eV 8)) (aN)))) (aN))))) (tSeq (sIf (kT (eV 6)) (tSeq (sSetI (eMethD [((He.ga K "Order"), sp_Order_copied K), ((He.ga K "Tour"), sp_Tour_copied K)] "copied" W (eB (ixX K) (eV 1) (eV 5)) aN) (eV 1) (eB (opSub) (eC (.int 1)) (eV 5))) (sSetI (eF (cDict K) (aC (eB (ixX K) (eV 2) (eV 5)) (aN))) (eV 2) (eB (opSub) (eC (.int 1)) (eV 5)))) (tNext)) (sFor (iV K (eL (aC (eV 5) (aC (eB (opSub) (eC (.int 1)) (eV 5)) (aN))))) (gN 9) (b_law_1 K W)))))))))
def t_law (K : PySem.W.Frag) (W : WX) : TS := tSeq (sSet 1 (eL (aC (eMake (He.ga K "Tour") (sp_Tour_init K) W aN) (aC (eMake (He.ga K "Tour") (sp_Tour_init K) W aN) (aN))))) (tSeq (sSet 2 (eL (aC (eDis [(eC (.str "row"), eL (aC (eT (aC (eC (.int 0)) (aC (eC (.int 0)) (aN)))) (aC (eT (aC (eC (.int 1)) (aC (eC (.int 512)) (aN)))) (aN)))), (eC (.str "times"), eC (.int 0))]) (aC (eDis [(eC (.str "row"), eL (aC (eT (aC (eC (.int 0)) (aC (eC (.int 0)) (aN)))) (aC (eT (aC (eC (.int 1)) (aC (eC (.int 512)) (aN)))) (aN)))), (eC (.str "times"), eC (.int 0))]) (aN))))) (tSeq (sFor (iR1 (aC (eF (cMax K) (aC (eC (.int 3)) (aC (eF (cMin K) (aC (eC (.int 60)) (aC (eF (cLen K) (aC (eV 0) (aN))) (aN)))) (aN)))) (aN))) (gN 3) (b_law_2 K W)) (sRet (eC (.bl true)))))
@[irreducible] def sp_law (K : PySem.W.Frag) : Sp := fun vs H Q E => vs.length = 1 ∧ t_law K (wE E) (endOf Q) (st0 vs 9) H
theorem sp_law_i {K : PySem.W.Frag} {a0 : V} {H : Hp} {Q : VK} {E : XK} (h : t_law K (wE E) (endOf Q) [some a0, none, none, none, none, none, none, none, none, none] H) : sp_law K [a0] H Q E := by unfold sp_law; exact ⟨rfl, h⟩
end Lawk16
local macro_rules | `(tactic| walk_at "w") => `(tactic| conv => whnf)
local macro_rules | `(tactic| walk_at "pk") => `(tactic| first | assumption | exact MK.Star.p1 (by assumption) | exact MK.Star.p2 (by assumption) | exact MK.Star.p3 (by assumption) | exact MK.Star.p4 (by assumption) | exact MK.Star.p5 (by assumption) | exact MK.Star.p6 (by assumption) | exact MK.Star.p7 (by assumption) | exact MK.Star.p8 (by assumption) | exact MK.Star.p9 (by assumption))
local macro_rules | `(tactic| walk_at "sd") => `(tactic| first | exact MK.mul1 (by omega) | exact MK.mul2 (by omega) | exact MK.div1 (by omega) | exact MK.pow1 (by omega) | exact MK.rng1 (by omega) | exact MK.sz1 (Nat.le_of_ble_eq_true rfl) | exact MK.Star.getF (by walk_at "pk") | exact MK.Star.get (by walk_at "pk") | exact MK.tyv_l (MK.Star.get (by walk_at "pk")) | assumption | omega | rfl | decide)
local macro_rules | `(tactic| walk_at "ix") => `(tactic| first
  | (refine' MK.ix_l ?hk ?he ?_; (case hk => exact MK.Star.get (by walk_at "pk")); (case he => rfl))
  | (refine' MK.ix_t ?hk ?he ?_; (case hk => exact MK.Star.getF (by walk_at "pk")); (case he => rfl))
  | (refine' MK.Star.ix_sq ?hk ?he ?_; (case hk => walk_at "pk"); (case he => rfl)))
local macro_rules | `(tactic| walk_at "len") => `(tactic| first
  | (refine' MK.len_l ?hk ?_; (case hk => exact MK.Star.get (by walk_at "pk")))
  | (refine' MK.len_t ?hk ?_; (case hk => exact MK.Star.getF (by walk_at "pk")))
  | (refine' MK.len_q ?hk ?_; (case hk => exact MK.Star.getS (by walk_at "pk")))
  | (refine' MK.Star.len_sq ?hk ?_; (case hk => walk_at "pk")))
local macro_rules | `(tactic| walk_at "isi") => `(tactic| first
  | (refine' MK.isi_l ?hk ?_; (case hk => exact MK.Star.get (by walk_at "pk")))
  | (refine' MK.isi_t ?hk ?_; (case hk => exact MK.Star.getF (by walk_at "pk")))
  | (refine' MK.isi_d ?hk ?_; (case hk => exact MK.Star.get (by walk_at "pk")))
  | (refine' MK.Star.isi_sq2 ?hk ?_; (case hk => walk_at "pk")))
local macro_rules | `(tactic| walk_at "mem") => `(tactic| first | exact List.mem_cons_self | exact List.mem_cons_of_mem _ List.mem_cons_self | exact List.mem_cons_of_mem _ (List.mem_cons_of_mem _ List.mem_cons_self))
local macro_rules | `(tactic| walk_at "fld") => `(tactic| (refine' MK.fld_i ?hk ?hc ?hl ?_; (case hk => exact MK.Star.get (by walk_at "pk")); (case hc => walk_at "mem"); (case hl => first | rfl | decide +kernel)))
local macro_rules | `(tactic| walk_at "dsp") => `(tactic| (refine' MK.dsp_i ?hk ?hm ?hl ?_; (case hk => exact MK.Star.get (by walk_at "pk")); (case hm => walk_at "mem"); (case hl => first | rfl | decide +kernel)))
local macro_rules | `(tactic| walk_at "go1") => `(tactic| first | walk_at "fld" | walk_at "dsp" | walk_at "ix" | walk_at "len" | walk_at "isi" | (refine And.intro (by walk_at "sd") ?_))
local macro_rules | `(tactic| walk_at "go") => `(tactic| ((conv => whnf); repeat (walk_at "go1"; (conv => whnf))))
local macro_rules | `(tactic| walk_at "fr") => `(tactic| repeat (first | exact MK.Fr.refl _ | exact MK.Fr.nil _ | apply MK.Fr.c0 | apply MK.Fr.c1 | apply MK.Fr.c2 | apply MK.Fr.c3 | apply MK.Fr.c4 | apply MK.Fr.c5 | apply MK.Fr.c6 | apply MK.Fr.c7 | apply MK.Fr.c8 | apply MK.Fr.c9 | apply MK.Fr.ca | apply MK.Fr.cb | apply MK.Fr.tup | apply MK.Fr.lst | apply MK.Fr.dct | apply MK.Fr.int | apply MK.Fr.bl | apply MK.Fr.non | apply MK.Fr.str | apply MK.Fr.ds0 | apply MK.Fr.dsc | apply MK.Fr.drop))
local macro_rules | `(tactic| walk_at "tn") => `(tactic| (simp only [MK.isB, Bool.not_true, Bool.not_false, cond_true, cond_false]; refine (fun h => h : ∀ {D : L2.Ends} {σ : L2.St} {H : L2.Hp}, D.nx σ H → L2.tNext D σ H) ?_; dsimp only))
namespace Lawk16
open PySem PySem.Spec PyProof.Rows L2 MK
abbrev nV (k : Nat) : V := .int (k : Int)
theorem atI_n {α : Type} {xs : List α} {i : Nat} {x : α} (h : xs[i]? = some x) : atI xs (i : Int) = some x := atI_nat h
end Lawk16

namespace Lawk16
open PySem PySem.Spec PyProof.Rows L2 MK
def wholeD (d : PyData) (lo hi : Int) : Bool := match d with
  | .int i => decide (lo ≤ i) && decide (i ≤ hi)
  | _ => false
theorem wholeD_int (i lo hi : Int) : wholeD (.int i) lo hi = (decide (lo ≤ i) && decide (i ≤ hi)) := rfl
theorem is_whole_ok {K : PySem.W.Frag} {F : List SP} {H : Hp} {v : V} {d : PyData} {lo hi : Int} {Q : VK} {E : XK} (S : Star H (dat v d :: F)) (k : Q (.bl (wholeD d lo hi)) H) : sp_is_whole K [v, .int lo, .int hi] H Q E := by
  refine sp_is_whole_i ?_
  cases d with
  | none =>
    obtain ⟨rfl, S⟩ := dat_n.mp S
    walk_at "go"
    exact k
  | bool b =>
    obtain ⟨rfl, S⟩ := dat_b.mp S
    walk_at "go"
    exact k
  | int i =>
    obtain ⟨rfl, S⟩ := dat_i.mp S
    walk_at "go"
    refine br (fun h => ?_) (fun h => ?_)
    · walk_at "go"
      rw [wholeD_int, h, Bool.true_and] at k
      exact k
    · rw [wholeD_int, h, Bool.false_and] at k
      exact k
  | str x =>
    obtain ⟨rfl, S⟩ := dat_s.mp S
    walk_at "go"
    exact k
  | list ds =>
    obtain ⟨a, xs, rfl, S⟩ := dat_l.mp S
    walk_at "go"
    exact k
  | tuple ds =>
    obtain ⟨a, xs, rfl, S⟩ := dat_t.mp S
    walk_at "go"
    exact k
  | dict kvs =>
    obtain ⟨a, ks, rfl, S⟩ := dat_k.mp S
    walk_at "go"
    exact k
end Lawk16
namespace Lawk16
open PySem PySem.Spec PyProof.Rows L2 MK
def worthD (d : PyData) : Bool := wholeD d (1 - 1000000000000000000000000000000) (1000000000000000000000000000000 - 1)
end Lawk16

namespace Lawk16
open PySem PySem.Spec PyProof.Rows L2 MK
def bxk (a b c : Int) : List (Key × V) := [(.inr "left", .int a), (.inr "seed", .int b), (.inr "turn", .int c)]
/-- a box that is good for n draws more -/
def box2 (q : Addr) (n : Nat) : SP := ex fun a : Int => ex fun b : Int => ex fun c : Int => sep [pr ((0 ≤ b ∧ b < 2147483647) ∧ 0 ≤ c ∧ c + (n : Int) ≤ 1000000000), pt q (.dK (bxk a b c))]
theorem box2_iff {H : Hp} {q : Addr} {n : Nat} {F : List SP} : Star H (box2 q n :: F) ↔ ∃ a b c : Int, ((0 ≤ b ∧ b < 2147483647) ∧ 0 ≤ c ∧ c + (n : Int) ≤ 1000000000) ∧ Star H (pt q (.dK (bxk a b c)) :: F) := by
  unfold box2
  simp only [Star.ex_iff, Star.sep_iff, List.cons_append, List.nil_append, Star.pr_iff]
theorem bxk_left (a b c : Int) : valV (bxk a b c) (.inr "left") = some (.int a) := rfl
theorem bxk_seed (a b c : Int) : valV (bxk a b c) (.inr "seed") = some (.int b) := rfl
theorem bxk_turn (a b c : Int) : valV (bxk a b c) (.inr "turn") = some (.int c) := rfl
theorem bxk_putl (a b c d : Int) : putK (bxk a b c) (.inr "left") (.int d) = bxk d b c := rfl
theorem bxk_putt (a b c d : Int) : putK (bxk a b c) (.inr "turn") (.int d) = bxk a b d := rfl
theorem box2_le {H : Hp} {q : Addr} {n m : Nat} {F : List SP} (h : m ≤ n) (S : Star H (box2 q n :: F)) : Star H (box2 q m :: F) := by
  obtain ⟨a, b, c, ⟨h1, h2, h3⟩, S⟩ := box2_iff.mp S
  exact box2_iff.mpr ⟨a, b, c, ⟨h1, h2, by omega⟩, S⟩
theorem take2_ok {K : PySem.W.Frag} {q : Addr} {F : List SP} {H : Hp} {m : Int} {n : Nat} {Q : VK} {E : XK} (S : Star H (box2 q (n + 1) :: F)) (hm : 0 < m ∧ m < 18446744073709551616) (k : ∀ H' (d : Nat), (d : Int) < m → Star H' (box2 q n :: F) → Q (.int (d : Nat)) H') :
    sp_L_take K [.ref q, .int m] H Q E := by
  obtain ⟨a, b, c, ⟨hb, hc, hn⟩, S⟩ := box2_iff.mp S
  have fin : ∀ {H' : Hp} {z a c : Int}, 0 ≤ c → c + (n : Int) ≤ 1000000000 → Star H' (pt q (.dK (bxk a b c)) :: F) → Q (.int (z % m)) H' := fun {H' z a c} hc hn S => by
    have h0 := Int.emod_nonneg z (show m ≠ 0 by omega)
    obtain ⟨d, hd⟩ := Int.eq_ofNat_of_zero_le h0
    rw [hd]
    exact k H' d (by rw [← hd]; exact Int.emod_lt_of_pos _ hm.1) (box2_iff.mpr ⟨_, _, _, ⟨hb, hc, hn⟩, S⟩)
  refine sp_L_take_i ?_
  walk_at "go"
  refine ixd_s S.get (bxk_left a b c) ?_
  walk_at "go"
  refine brd (fun h => ?_) (fun h => ?_)
  · walk_at "go"
    refine ixd_s S.get (bxk_left a b c) ?_
    walk_at "go"
    refine ixd_s S.get (bxk_left a b c) ?_
    walk_at "go"
    refine setd_s S (show 3 < 16777216 by decide) fun H1 S => ?_
    rw [bxk_putl] at S
    walk_at "go"
    exact fin hc (by omega) S
  · walk_at "go"
    refine ixd_s S.get (bxk_turn a b c) ?_
    walk_at "go"
    refine setd_s S (show 3 < 16777216 by decide) fun H1 S => ?_
    rw [bxk_putt] at S
    obtain ⟨c1, hc1⟩ : ∃ c1, c1 = c + 1 := ⟨_, rfl⟩
    rw [← hc1] at S
    walk_at "go"
    refine ixd_s S.get (bxk_seed a b c1) ?_
    walk_at "go"
    refine ixd_s S.get (bxk_turn a b c1) ?_
    walk_at "go"
    have h0 := Int.emod_nonneg ((b + 7919 * c1) ^ (3 : Int).toNat) (show (2147483629 : Int) ≠ 0 by decide)
    have h1 := Int.emod_lt_of_pos ((b + 7919 * c1) ^ (3 : Int).toNat) (show (0 : Int) < 2147483629 by decide)
    obtain ⟨y, hy⟩ : ∃ y, y = (b + 7919 * c1) ^ (3 : Int).toNat % 2147483629 := ⟨_, rfl⟩
    rw [← hy] at h0 h1
    first
      | rw [← hy]
      | skip
    refine ixd_s S.get (bxk_turn a b c1) ?_
    walk_at "go"
    exact fin (by omega) (by omega) S
theorem box2_ok {K : PySem.W.Frag} {F : List SP} {H : Hp} {z : Int} {Q : VK} {E : XK} (n : Nat) (hn : n ≤ 1000000000) (S : Star H F) (k : ∀ H' q, Star H' (box2 q n :: F) → Q (.ref q) H') : sp_L_box K [.int z] H Q E := by
  refine sp_L_box_i ?_
  walk_at "go"
  refine al_d S fun q H1 S => ?_
  walk_at "go"
  refine dis_S (bxk _ _ _) S rfl rfl (show 3 ≤ 15 by decide) fun H2 S => ?_
  exact k _ _ (box2_iff.mpr ⟨_, _, _, ⟨⟨Int.emod_nonneg _ (by decide), Int.emod_lt_of_pos _ (by decide)⟩, by decide, by omega⟩, S⟩)
theorem cell_at_ok {K : PySem.W.Frag} {a : Addr} {ns : List Int} {F : List SP} {H : Hp} {z : Int} {Q : VK} {E : XK} (S : Star H (scr K a (ns.map V.int) :: F)) (hz : 0 ≤ z) (k : ∀ c, Q (.int c) H) : sp_L_cell_at K [.ref a, .int z] H Q E := by
  refine sp_L_cell_at_i ?_
  walk_at "go"
  refine brd (fun h => ?_) (fun h => ?_)
  · walk_at "go"
    rw [List.length_map] at h
    obtain ⟨j, rfl⟩ := Int.eq_ofNat_of_zero_le hz
    have hj : j < ns.length := by omega
    exact ix_q S.getS (atI_nat (by rw [List.getElem?_map, List.getElem?_eq_getElem hj]; rfl)) (k _)
  · walk_at "go"
    exact k _
end Lawk16

namespace Lawk16
open PySem PySem.Spec PyProof.Rows L2 MK
/-! two things, the first of which is at a place 0 or 1 -/
def two {α : Type} (a : Nat) (x y : α) : List α := match a with
  | 0 => [x, y]
  | _ => [y, x]
theorem two_at {α : Type} {a : Nat} (x y : α) (ha : a < 2) : atI (two a x y) (a : Int) = some x := by
  match a, ha with
  | 0, _ => rfl
  | 1, _ => rfl
theorem two_at1 {α : Type} {a : Nat} (x y : α) (ha : a < 2) : atI (two a x y) (1 - (a : Int)) = some y := by
  match a, ha with
  | 0, _ => rfl
  | 1, _ => rfl
theorem two_len {α : Type} {a : Nat} (x y : α) : (two a x y).length = 2 := by
  match a with
  | 0 => rfl
  | _ + 1 => rfl
theorem two_set {α : Type} {a : Nat} (x y z : α) (ha : a < 2) : ∃ j, ixN (two a x y).length (1 - (a : Int)) = some j ∧ (two a x y).set j z = two a x z := by
  match a, ha with
  | 0, _ => exact ⟨1, rfl, rfl⟩
  | 1, _ => exact ⟨0, rfl, rfl⟩
end Lawk16

namespace Lawk16
open PySem PySem.Spec PyProof.Rows L2 MK
/-! rows of marks: the mark and its label, in their order -/
abbrev mkV (p : Nat × Nat) : V := nV p.1
def lbl (r : List (Nat × Nat)) (i : Nat) : Nat := (r[i]?.map (·.2)).getD 1024
structure OrdOk (r : List (Nat × Nat)) (g : Nat) : Prop where
  ne : 0 < r.length
  len : r.length ≤ 200
  lt : ∀ p ∈ r, p.1 < g
  nd : ∀ (i j : Nat) (p q : Nat × Nat), r[i]? = some p → r[j]? = some q → p.1 = q.1 → i = j
  inc : ∀ (i j : Nat) (p q : Nat × Nat), r[i]? = some p → r[j]? = some q → i < j → p.2 < q.2
  top : ∀ p ∈ r, p.2 < 1024
/-- what the dict of labels holds -/
structure Lab (kvs : List (Key × V)) (r : List (Nat × Nat)) : Prop where
  yes : ∀ p ∈ r, valV kvs (.inl ((p.1 : Nat) : Int)) = some (nV p.2)
  no : ∀ z : Int, (∀ p ∈ r, ((p.1 : Nat) : Int) ≠ z) → valV kvs (.inl z) = none
section
variable {r r' : List (Nat × Nat)} {g i j m l : Nat} {kvs : List (Key × V)} {p : Nat × Nat}
theorem length_putK_in {k : Key} {v w : V} (h : valV kvs k = some w) : (putK kvs k v).length = kvs.length := by
  unfold putK
  rw [valV_any, h]
  simp
theorem Lab.set (h : Lab kvs r) (hi : r[i]? = some (m, l)) (nd : ∀ (i j : Nat) (p q : Nat × Nat), r[i]? = some p → r[j]? = some q → p.1 = q.1 → i = j) (v : Nat) : Lab (putK kvs (.inl (m : Nat)) (nV v)) (r.set i (m, v)) := by
  have hil := (List.getElem?_eq_some_iff.mp hi).1
  refine ⟨fun p hp => ?_, fun z hz => ?_⟩
  · rw [valV_put]
    obtain ⟨j, hj⟩ := List.getElem?_of_mem hp
    by_cases hij : i = j
    · subst hij
      rw [List.getElem?_set_self hil] at hj
      cases hj
      rw [if_pos rfl]
    · rw [List.getElem?_set_ne hij] at hj
      have : ¬ ((Sum.inl ((p.1 : Nat) : Int) : Key) = Sum.inl ((m : Nat) : Int)) := fun e => by
        have e2 : ((p.1 : Nat) : Int) = ((m : Nat) : Int) := Sum.inl.inj e
        exact hij (nd i j (m, l) p hi hj (by show m = p.1; omega))
      rw [if_neg this]
      exact h.yes p (List.mem_of_getElem? hj)
  · rw [valV_put]
    have hm : ((m : Nat) : Int) ≠ z := hz (m, v) (List.mem_of_getElem? (List.getElem?_set_self hil))
    have : ¬ ((Sum.inl z : Key) = Sum.inl ((m : Nat) : Int)) := fun e => hm (Sum.inl.inj e).symm
    rw [if_neg this]
    refine h.no z fun p hp => ?_
    obtain ⟨j, hj⟩ := List.getElem?_of_mem hp
    by_cases hij : i = j
    · subst hij
      rw [hi] at hj
      cases hj
      exact hm
    · exact hz p (List.mem_of_getElem? (by rw [List.getElem?_set_ne hij]; exact hj))
theorem Lab.ins (h : Lab kvs r) (hg : ∀ p ∈ r, p.1 ≠ g) (hr : ∀ p, p ∈ r' ↔ p ∈ r ∨ p = (g, l)) : Lab (putK kvs (.inl (g : Nat)) (nV l)) r' := by
  refine ⟨fun p hp => ?_, fun z hz => ?_⟩
  · rw [valV_put]
    rcases (hr p).mp hp with e | e
    · have : ¬ ((Sum.inl ((p.1 : Nat) : Int) : Key) = Sum.inl ((g : Nat) : Int)) := fun z => by
        have e2 : ((p.1 : Nat) : Int) = ((g : Nat) : Int) := Sum.inl.inj z
        exact hg p e (by omega)
      rw [if_neg this]
      exact h.yes p e
    · subst e
      rw [if_pos rfl]
  · rw [valV_put]
    have : ¬ ((Sum.inl z : Key) = Sum.inl ((g : Nat) : Int)) := fun e => hz (g, l) ((hr _).mpr (.inr rfl)) (Sum.inl.inj e).symm
    rw [if_neg this]
    exact h.no z fun p hp => hz p ((hr p).mpr (.inl hp))
theorem Lab.drop (h : Lab kvs r) (hr : ∀ p, p ∈ r' ↔ p ∈ r ∧ p.1 ≠ m) : Lab (dropK kvs (.inl (m : Nat))) r' := by
  refine ⟨fun p hp => ?_, fun z hz => ?_⟩
  · rw [valV_drop]
    obtain ⟨h1, h2⟩ := (hr p).mp hp
    have : ¬ ((Sum.inl ((p.1 : Nat) : Int) : Key) = Sum.inl ((m : Nat) : Int)) := fun z => by
      have e2 : ((p.1 : Nat) : Int) = ((m : Nat) : Int) := Sum.inl.inj z
      exact h2 (by omega)
    rw [if_neg this]
    exact h.yes p h1
  · rw [valV_drop]
    by_cases e : (Sum.inl z : Key) = Sum.inl ((m : Nat) : Int)
    · rw [if_pos e]
    · rw [if_neg e]
      refine h.no z fun p hp => ?_
      by_cases e2 : p.1 = m
      · intro e3
        exact e (by rw [← e3, e2])
      · exact hz p ((hr p).mpr ⟨hp, e2⟩)
/-! labelling anew -/
def relN (r : List (Nat × Nat)) (s : Nat) : Nat → List (Nat × Nat)
  | 0 => r
  | i + 1 => (relN r s i).set i ((r.getD i (0, 0)).1, i * s)
theorem relN_len (s : Nat) : ∀ i, (relN r s i).length = r.length
  | 0 => rfl
  | i + 1 => by
    show ((relN r s i).set i _).length = _
    rw [List.length_set, relN_len s i]
theorem relN_at (s : Nat) : ∀ i j, (relN r s i)[j]? = if j < i then r[j]?.map (fun p => (p.1, j * s)) else r[j]?
  | 0, j => by
    rw [if_neg (Nat.not_lt_zero _)]
    rfl
  | i + 1, j => by
    show ((relN r s i).set i _)[j]? = _
    by_cases hij : i = j
    · subst hij
      rw [if_pos (Nat.lt_succ_self _)]
      by_cases hl : i < r.length
      · rw [List.getElem?_set_self (by rw [relN_len]; exact hl), List.getElem?_eq_getElem hl]
        have e : r.getD i (0, 0) = r[i] := by simp [List.getD, List.getElem?_eq_getElem hl]
        rw [e]
        rfl
      · rw [List.getElem?_eq_none (by rw [List.length_set, relN_len]; omega), List.getElem?_eq_none (by omega)]
        rfl
    · rw [List.getElem?_set_ne hij, relN_at s i j]
      by_cases h1 : j < i
      · rw [if_pos h1, if_pos (by omega)]
      · rw [if_neg h1, if_neg (by omega)]
def relab (r : List (Nat × Nat)) : List (Nat × Nat) := relN r (1024 / r.length) r.length
theorem relab_len : (relab r).length = r.length := relN_len _ _
theorem relab_at {j : Nat} : (relab r)[j]? = r[j]?.map (fun p => (p.1, j * (1024 / r.length))) := by
  unfold relab
  rw [relN_at]
  by_cases h : j < r.length
  · rw [if_pos h]
  · rw [if_neg h, List.getElem?_eq_none (by omega)]
    rfl
theorem relN_marks (s : Nat) (i : Nat) : (relN r s i).map (·.1) = r.map (·.1) := by
  refine List.ext_getElem? fun j => ?_
  rw [List.getElem?_map, List.getElem?_map, relN_at]
  split
  · cases r[j]? <;> rfl
  · rfl
theorem marks_mkV (h : r.map (·.1) = r'.map (·.1)) : r.map mkV = r'.map mkV := by
  have e : ∀ r : List (Nat × Nat), r.map mkV = (r.map (·.1)).map nV := fun r => by rw [List.map_map]; rfl
  rw [e, e, h]
theorem relab_mkV : (relab r).map mkV = r.map mkV := marks_mkV (relN_marks _ _)
theorem step_pos (o : OrdOk r g) : 5 ≤ 1024 / r.length ∧ r.length * (1024 / r.length) ≤ 1024 := by
  have h1 := o.ne
  have h2 := o.len
  refine ⟨(Nat.le_div_iff_mul_le h1).mpr (by omega), ?_⟩
  rw [Nat.mul_comm]
  exact Nat.div_mul_le_self _ _
theorem relab_ok (o : OrdOk r g) : OrdOk (relab r) g := by
  obtain ⟨h5, hs⟩ := step_pos o
  have at' : ∀ {i p}, (relab r)[i]? = some p → ∃ q, r[i]? = some q ∧ p = (q.1, i * (1024 / r.length)) ∧ i < r.length := fun {i p} h => by
    rw [relab_at] at h
    obtain ⟨q, hq, rfl⟩ := Option.map_eq_some_iff.mp h
    exact ⟨q, hq, rfl, (List.getElem?_eq_some_iff.mp hq).1⟩
  refine ⟨by rw [relab_len]; exact o.ne, by rw [relab_len]; exact o.len, fun p hp => ?_, fun i j p q hi hj e => ?_, fun i j p q hi hj e => ?_, fun p hp => ?_⟩
  · obtain ⟨i, hi⟩ := List.getElem?_of_mem hp
    obtain ⟨q, hq, rfl, _⟩ := at' hi
    exact o.lt q (List.mem_of_getElem? hq)
  · obtain ⟨p', hp', rfl, _⟩ := at' hi
    obtain ⟨q', hq', rfl, _⟩ := at' hj
    exact o.nd i j p' q' hp' hq' e
  · obtain ⟨p', hp', rfl, _⟩ := at' hi
    obtain ⟨q', hq', rfl, _⟩ := at' hj
    exact Nat.mul_lt_mul_of_pos_right e (by omega)
  · obtain ⟨i, hi⟩ := List.getElem?_of_mem hp
    obtain ⟨q, hq, rfl, hl⟩ := at' hi
    have : (i + 1) * (1024 / r.length) ≤ r.length * (1024 / r.length) := Nat.mul_le_mul_right _ hl
    rw [Nat.succ_mul] at this
    show i * (1024 / r.length) < 1024
    omega
theorem lbl_at (h : r[i]? = some p) : lbl r i = p.2 := by
  unfold lbl
  rw [h]
  rfl
theorem lbl_out (h : r.length ≤ i) : lbl r i = 1024 := by
  unfold lbl
  rw [List.getElem?_eq_none h]
  rfl
theorem lbl_lt (o : OrdOk r g) (hi : i < r.length) : lbl r i < lbl r (i + 1) := by
  have h1 : r[i]? = some r[i] := List.getElem?_eq_getElem hi
  rw [lbl_at h1]
  by_cases h : i + 1 < r.length
  · have h2 : r[i + 1]? = some r[i + 1] := List.getElem?_eq_getElem h
    rw [lbl_at h2]
    exact o.inc i (i + 1) _ _ h1 h2 (Nat.lt_succ_self _)
  · rw [lbl_out (by omega)]
    exact o.top _ (List.getElem_mem hi)
theorem lbl_le (r : List (Nat × Nat)) (o : OrdOk r g) (i : Nat) : lbl r i ≤ 1024 := by
  by_cases h : i < r.length
  · rw [lbl_at (List.getElem?_eq_getElem h)]
    exact Nat.le_of_lt (o.top _ (List.getElem_mem h))
  · rw [lbl_out (by omega)]
    exact Nat.le_refl _
/-- a new mark behind spot i: the row ahead of it, perhaps labelled anew -/
def ahd (r : List (Nat × Nat)) (i : Nat) : List (Nat × Nat) := if lbl r (i + 1) - lbl r i < 2 then relab r else r
def anewN (r : List (Nat × Nat)) (i : Nat) : Nat := if lbl r (i + 1) - lbl r i < 2 then 1 else 0
def newL (r : List (Nat × Nat)) (i : Nat) : Nat := (lbl (ahd r i) i + lbl (ahd r i) (i + 1)) / 2
def bhd (r : List (Nat × Nat)) (g i : Nat) : List (Nat × Nat) := (ahd r i).take (i + 1) ++ [(g, newL r i)] ++ (ahd r i).drop (i + 1)
theorem ahd_ok (o : OrdOk r g) : OrdOk (ahd r i) g := by
  unfold ahd
  split
  · exact relab_ok o
  · exact o
theorem ahd_len : (ahd r i).length = r.length := by
  unfold ahd
  split
  · exact relab_len
  · rfl
theorem ahd_mkV : (ahd r i).map mkV = r.map mkV := by
  unfold ahd
  split
  · exact relab_mkV
  · rfl
theorem ahd_mark (h : r[i]? = some (m, l)) : ∃ l', (ahd r j)[i]? = some (m, l') := by
  unfold ahd
  split
  · exact ⟨_, by rw [relab_at, h]; rfl⟩
  · exact ⟨l, h⟩
theorem ahd_gap (o : OrdOk r g) (hi : i < r.length) : lbl (ahd r i) i + 2 ≤ lbl (ahd r i) (i + 1) := by
  have hlt := lbl_lt o hi
  unfold ahd
  split
  · obtain ⟨h5, hs⟩ := step_pos o
    have h1 : (relab r)[i]? = some (r[i].1, i * (1024 / r.length)) := by rw [relab_at, List.getElem?_eq_getElem hi]; rfl
    rw [lbl_at h1]
    by_cases h : i + 1 < r.length
    · have h2 : (relab r)[i + 1]? = some (r[i + 1].1, (i + 1) * (1024 / r.length)) := by rw [relab_at, List.getElem?_eq_getElem h]; rfl
      rw [lbl_at h2]
      show i * (1024 / r.length) + 2 ≤ (i + 1) * (1024 / r.length)
      rw [Nat.succ_mul]
      omega
    · rw [lbl_out (by rw [relab_len]; omega)]
      have : (i + 1) * (1024 / r.length) ≤ r.length * (1024 / r.length) := Nat.mul_le_mul_right _ hi
      rw [Nat.succ_mul] at this
      show i * (1024 / r.length) + 2 ≤ 1024
      omega
  · omega
theorem ins_at {α : Type} {xs : List α} {k j : Nat} {x : α} (hk : k ≤ xs.length) : (xs.take k ++ [x] ++ xs.drop k)[j]? = if j < k then xs[j]? else if j = k then some x else xs[j - 1]? := by
  have hl : (xs.take k).length = k := by rw [List.length_take]; omega
  by_cases h1 : j < k
  · rw [if_pos h1, List.append_assoc, List.getElem?_append_left (by omega), List.getElem?_take_of_lt h1]
  · rw [if_neg h1]
    by_cases h2 : j = k
    · rw [if_pos h2, List.append_assoc, List.getElem?_append_right (by omega), hl, h2, Nat.sub_self]
      rfl
    · rw [if_neg h2, List.getElem?_append_right (by rw [List.length_append, hl]; show k + 1 ≤ j; omega), List.length_append, hl, List.getElem?_drop]
      congr 1
      show k + (j - (k + 1)) = j - 1
      omega
theorem ins_mem {α : Type} {xs : List α} {k : Nat} {x y : α} : y ∈ xs.take k ++ [x] ++ xs.drop k ↔ y ∈ xs ∨ y = x := by
  rw [List.mem_append, List.mem_append, List.mem_singleton]
  constructor
  · rintro ((h | h) | h)
    · exact .inl (List.mem_of_mem_take h)
    · exact .inr h
    · exact .inl (List.mem_of_mem_drop h)
  · rintro (h | h)
    · rw [← List.take_append_drop k xs] at h
      rcases List.mem_append.mp h with z | z
      · exact .inl (.inl z)
      · exact .inr z
    · exact .inl (.inr h)
theorem bhd_at (hi : i < r.length) : (bhd r g i)[j]? = if j < i + 1 then (ahd r i)[j]? else if j = i + 1 then some (g, newL r i) else (ahd r i)[j - 1]? := ins_at (by rw [ahd_len]; exact hi)
theorem bhd_mem (p : Nat × Nat) : p ∈ bhd r g i ↔ p ∈ ahd r i ∨ p = (g, newL r i) := ins_mem
theorem bhd_len (hi : i < r.length) : (bhd r g i).length = r.length + 1 := by
  unfold bhd
  rw [List.length_append, List.length_append, List.length_take, List.length_drop, ahd_len]
  show min (i + 1) r.length + 1 + (r.length - (i + 1)) = r.length + 1
  omega
theorem bhd_mkV : (bhd r g i).map mkV = (r.map mkV).take (i + 1) ++ [nV g] ++ (r.map mkV).drop (i + 1) := by
  unfold bhd
  rw [List.map_append, List.map_append, List.map_take, List.map_drop, ahd_mkV]
  rfl
theorem bhd_ok (o : OrdOk r g) (hi : i < r.length) (hl : r.length < 200) : OrdOk (bhd r g i) (g + 1) := by
  have o2 := ahd_ok (i := i) o
  have hgap := ahd_gap o hi
  have hn1 : lbl (ahd r i) i < newL r i := by unfold newL; omega
  have hn2 : newL r i < lbl (ahd r i) (i + 1) := by unfold newL; omega
  have htop := lbl_le (ahd r i) o2 (i + 1)
  have hal := ahd_len (r := r) (i := i)
  -- an entry: an old one at its spot, or the new one
  have at' : ∀ {j p}, (bhd r g i)[j]? = some p → (∃ j', (ahd r i)[j']? = some p ∧ ((j ≤ i ∧ j' = j) ∨ (i + 1 < j ∧ j' + 1 = j))) ∨ (j = i + 1 ∧ p = (g, newL r i)) := fun {j p} h => by
    rw [bhd_at hi] at h
    split at h
    · exact .inl ⟨j, h, .inl ⟨by omega, rfl⟩⟩
    · split at h
      · cases h
        exact .inr ⟨by assumption, rfl⟩
      · exact .inl ⟨j - 1, h, .inr ⟨by omega, by omega⟩⟩
  have le1 : ∀ {j p}, (ahd r i)[j]? = some p → j ≤ i → p.2 ≤ lbl (ahd r i) i := fun {j p} h hj => by
    have h1 : (ahd r i)[i]? = some (ahd r i)[i] := List.getElem?_eq_getElem (by omega)
    rw [lbl_at h1]
    by_cases e : j = i
    · subst e
      rw [h1] at h
      cases h
      exact Nat.le_refl _
    · exact Nat.le_of_lt (o2.inc j i _ _ h h1 (by omega))
  have ge1 : ∀ {j p}, (ahd r i)[j]? = some p → i < j → lbl (ahd r i) (i + 1) ≤ p.2 := fun {j p} h hj => by
    have hjl := (List.getElem?_eq_some_iff.mp h).1
    have h1 : (ahd r i)[i + 1]? = some (ahd r i)[i + 1] := List.getElem?_eq_getElem (by omega)
    rw [lbl_at h1]
    by_cases e : j = i + 1
    · subst e
      rw [h1] at h
      cases h
      exact Nat.le_refl _
    · exact Nat.le_of_lt (o2.inc (i + 1) j _ _ h1 h (by omega))
  refine ⟨by rw [bhd_len hi]; omega, by rw [bhd_len hi]; omega, fun p hp => ?_, fun a b p q ha hb e => ?_, fun a b p q ha hb e => ?_, fun p hp => ?_⟩
  · rcases (bhd_mem p).mp hp with h | h
    · have := o2.lt p h
      omega
    · subst h
      exact Nat.lt_succ_self _
  · rcases at' ha with ⟨a', ha', ea⟩ | ⟨ea, rfl⟩
    · rcases at' hb with ⟨b', hb', eb⟩ | ⟨eb, rfl⟩
      · have := o2.nd a' b' p q ha' hb' e
        omega
      · have := o2.lt p (List.mem_of_getElem? ha')
        have e2 : p.1 = g := e
        omega
    · rcases at' hb with ⟨b', hb', eb⟩ | ⟨eb, rfl⟩
      · have := o2.lt q (List.mem_of_getElem? hb')
        have e2 : g = q.1 := e
        omega
      · omega
  · rcases at' ha with ⟨a', ha', ea⟩ | ⟨ea, rfl⟩
    · rcases at' hb with ⟨b', hb', eb⟩ | ⟨eb, rfl⟩
      · exact o2.inc a' b' p q ha' hb' (by omega)
      · have := le1 ha' (by omega)
        show p.2 < newL r i
        omega
    · rcases at' hb with ⟨b', hb', eb⟩ | ⟨eb, rfl⟩
      · have := ge1 hb' (by omega)
        show newL r i < q.2
        omega
      · omega
  · rcases (bhd_mem p).mp hp with h | h
    · exact o2.top p h
    · subst h
      show newL r i < 1024
      omega
theorem erase_at {α : Type} {xs : List α} {k j : Nat} : (xs.eraseIdx k)[j]? = if j < k then xs[j]? else xs[j + 1]? := by
  rw [List.getElem?_eraseIdx]
theorem erase_map {α β : Type} {f : α → β} {xs : List α} {k : Nat} : (xs.map f).eraseIdx k = (xs.eraseIdx k).map f := by
  refine List.ext_getElem? fun j => ?_
  rw [erase_at, List.getElem?_map, List.getElem?_map, List.getElem?_map, erase_at]
  split <;> rfl
theorem drop_ok (o : OrdOk r g) (hl : 1 < r.length) : OrdOk (r.eraseIdx i) g := by
  have at' : ∀ {j p}, (r.eraseIdx i)[j]? = some p → ∃ j', r[j']? = some p ∧ ((j < i ∧ j' = j) ∨ (i ≤ j ∧ j' = j + 1)) := fun {j p} h => by
    rw [erase_at] at h
    split at h
    · exact ⟨j, h, .inl ⟨by assumption, rfl⟩⟩
    · exact ⟨j + 1, h, .inr ⟨by omega, rfl⟩⟩
  have hlen : (r.eraseIdx i).length ≤ r.length ∧ r.length ≤ (r.eraseIdx i).length + 1 := by
    rw [List.length_eraseIdx]
    split <;> omega
  have := o.len
  refine ⟨by omega, by omega, fun p hp => ?_, fun a b p q ha hb e => ?_, fun a b p q ha hb e => ?_, fun p hp => ?_⟩
  · exact o.lt p (List.mem_of_mem_eraseIdx hp)
  · obtain ⟨a', ha', ea⟩ := at' ha
    obtain ⟨b', hb', eb⟩ := at' hb
    have := o.nd a' b' p q ha' hb' e
    omega
  · obtain ⟨a', ha', ea⟩ := at' ha
    obtain ⟨b', hb', eb⟩ := at' hb
    exact o.inc a' b' p q ha' hb' (by omega)
  · exact o.top p (List.mem_of_mem_eraseIdx hp)
theorem drop_mem (o : OrdOk r g) (hi : r[i]? = some (m, l)) (p : Nat × Nat) : p ∈ r.eraseIdx i ↔ p ∈ r ∧ p.1 ≠ m := by
  constructor
  · intro h
    obtain ⟨j, hj⟩ := List.getElem?_of_mem h
    rw [erase_at] at hj
    refine ⟨List.mem_of_mem_eraseIdx h, fun e => ?_⟩
    split at hj
    · have := o.nd i j (m, l) p hi hj e.symm
      omega
    · have := o.nd i (j + 1) (m, l) p hi hj e.symm
      omega
  · rintro ⟨h, e⟩
    obtain ⟨j, hj⟩ := List.getElem?_of_mem h
    have hij : j ≠ i := fun z => by
      subst z
      rw [hi] at hj
      cases hj
      exact e rfl
    by_cases hlt : j < i
    · exact List.mem_of_getElem? (i := j) (by rw [erase_at, if_pos hlt]; exact hj)
    · exact List.mem_of_getElem? (i := j - 1) (by rw [erase_at, if_neg (by omega), show j - 1 + 1 = j by omega]; exact hj)
theorem ord1 : OrdOk [(0, 0)] 1 := by
  have at' : ∀ {i p}, ([(0, 0)] : List (Nat × Nat))[i]? = some p → i = 0 ∧ p = (0, 0) := fun {i p} h => by
    cases i with
    | zero => cases h; exact ⟨rfl, rfl⟩
    | succ i => simp at h
  refine ⟨by decide, by decide, fun p hp => ?_, fun i j p q hi hj _ => by have := (at' hi).1; have := (at' hj).1; omega, fun i j p q hi hj h => by have := (at' hi).1; have := (at' hj).1; omega, fun p hp => ?_⟩
  · rw [List.mem_singleton.mp hp]
    decide
  · rw [List.mem_singleton.mp hp]
    decide
theorem lab1 : Lab [(.inl 0, nV 0)] [(0, 0)] := by
  refine ⟨fun p hp => ?_, fun z hz => ?_⟩
  · rw [List.mem_singleton.mp hp]
    rfl
  · have := hz (0, 0) List.mem_cons_self
    exact valV_neg (fun e => this (Sum.inl.inj e))
theorem mk_nd (o : OrdOk r g) (hi : r[i]? = some (m, l)) : ∀ j, j < i → (r.map (·.1))[j]? ≠ some m := fun j hj e => by
  rw [List.getElem?_map] at e
  obtain ⟨q, hq, e2⟩ := Option.map_eq_some_iff.mp e
  have := o.nd j i q (m, l) hq hi e2
  omega
theorem mkV_eq : r.map mkV = (r.map (·.1)).map nV := by rw [List.map_map]; rfl
end
end Lawk16

namespace Lawk16
open PySem PySem.Spec PyProof.Rows L2 MK
section
variable {K : PySem.W.Frag} {F : List SP} {H : Hp} {Q : VK} {E : XK}
theorem idx_S {xs : List Nat} {f : Addr} {x j : Nat} (S : Star H (pt f (.lst (xs.map nV)) :: F)) (hj : xs[j]? = some x) (hn : ∀ i, i < j → xs[i]? ≠ some x) (q : Q (.int (j : Nat)) H) : opIdx K (.ref f) [nV x] H Q := by
  unfold opIdx rIndex
  refine ⟨f, xs.map nV, nV x, j, nV x, rfl, rfl, .of S.get, rfl, ?_, by rw [List.getElem?_map, hj]; rfl, ?_, ?_, q⟩
  · rw [List.all_map]
    exact List.all_eq_true.mpr fun y _ => rfl
  · show decide _ = true
    exact decide_eq_true rfl
  · intro i z' hi e
    rw [List.getElem?_map] at e
    obtain ⟨y, hy, rfl⟩ := Option.map_eq_some_iff.mp e
    have : y ≠ x := fun e2 => hn i hi (by rw [hy, e2])
    show decide _ = false
    refine decide_eq_false fun e3 => this ?_
    have e4 : (y : Int) = (x : Int) := by
      first
        | exact e3
        | (injection e3)
    omega
theorem ni_ints {xs : List Nat} (hz : xs.length ≤ 1000) (hx : ∀ x ∈ xs, x ≤ 1000) : Ni 1 2000 (.list (xs.map fun k => .int (k : Nat))) := by
  refine ni_l (n := 0) (m := 0) (fun d hd => ?_) (by decide) (by rw [List.length_map]; omega)
  obtain ⟨x, h1, rfl⟩ := List.mem_map.mp hd
  have := hx x h1
  exact ni_i (by omega)
theorem repr_ints {xs : List Nat} {f : Addr} (S : Star H (pt f (.lst (xs.map nV)) :: F)) (hz : xs.length ≤ 1000) (hx : ∀ x ∈ xs, x ≤ 1000) (q : Q (.str (PyData.list (xs.map fun k => .int (k : Nat))).shown) H) : reprX K (.ref f) H Q := by
  have Sa : Star H (dat (.ref f) (.list (xs.map fun k => .int (k : Nat))) :: []) := S.fr (Fr.lst (xs := xs.map nV) (Fr.c0 (Fr.ints (Fr.nil _))))
  exact repr_D Sa (ni_ints hz hx).rep q
theorem repr_n {n : Nat} (S : Star H F) (hz : n ≤ 100000) (q : Q (.str (PyData.int (n : Nat)).shown) H) : reprX K (nV n) H Q := repr_D (dat_i.mpr ⟨rfl, S⟩) (Ni.rep (n := 0) (m := 0) (ni_i (by omega))) q
end
end Lawk16

namespace Lawk16
open PySem PySem.Spec PyProof.Rows L2 MK
abbrev Order_o (K : PySem.W.Frag) (t dx s l : Addr) (g tm : Nat) : SP := pt t (.ins (He.ga K "Order") dx [("standing", .ref s), ("labelled", .ref l), ("given", nV g), ("times", nV tm)])
def ord (K : PySem.W.Frag) (t : Addr) (r : List (Nat × Nat)) (g tm : Nat) : SP := ex fun dx : Addr => ex fun s : Addr => ex fun l : Addr => ex fun kvs : List (Key × V) => sep [pr (OrdOk r g ∧ Lab kvs r ∧ kvs.length ≤ g ∧ g ≤ 100000), Order_o K t dx s l g tm, pt s (.lst (r.map mkV)), pt l (.dK kvs)]
section
variable {K : PySem.W.Frag} {F : List SP} {H : Hp} {Q : VK} {E : XK} {t dx s l u : Addr} {r : List (Nat × Nat)} {g tm m lb i : Nat} {kvs : List (Key × V)}
theorem ord_iff : Star H (ord K t r g tm :: F) ↔ ∃ dx s l kvs, (OrdOk r g ∧ Lab kvs r ∧ kvs.length ≤ g ∧ g ≤ 100000) ∧ Star H (Order_o K t dx s l g tm :: pt s (.lst (r.map mkV)) :: pt l (.dK kvs) :: F) := by
  unfold ord
  simp only [Star.ex_iff, Star.sep_iff, List.cons_append, List.nil_append, Star.pr_iff]
theorem ord_i (o : OrdOk r g) (hl : Lab kvs r) (hk : kvs.length ≤ g) (hg : g ≤ 100000) : Fr (Order_o K t dx s l g tm :: pt s (.lst (r.map mkV)) :: pt l (.dK kvs) :: F) (ord K t r g tm :: F) := fun H S => ord_iff.mpr ⟨dx, s, l, kvs, ⟨o, hl, hk, hg⟩, S⟩
theorem ord_ok (S : Star H (ord K t r g tm :: F)) : OrdOk r g := by
  obtain ⟨_, _, _, _, ⟨o, _⟩, _⟩ := ord_iff.mp S
  exact o
theorem ord_g (S : Star H (ord K t r g tm :: F)) : g ≤ 100000 := by
  obtain ⟨_, _, _, _, ⟨_, _, _, h⟩, _⟩ := ord_iff.mp S
  exact h
abbrev isOrd (m : Str) : Prop := m ≠ "standing" ∧ m ≠ "labelled" ∧ m ≠ "given" ∧ m ≠ "times"
theorem look4 {m : Str} {v u x y : V} (h : isOrd m) : List.lookup m [("standing", v), ("labelled", u), ("given", x), ("times", y)] = none := by
  have h1 : (m == ("standing" : Str)) = false := beq_eq_false_iff_ne.mpr h.1
  have h2 : (m == ("labelled" : Str)) = false := beq_eq_false_iff_ne.mpr h.2.1
  have h3 : (m == ("given" : Str)) = false := beq_eq_false_iff_ne.mpr h.2.2.1
  have h4 : (m == ("times" : Str)) = false := beq_eq_false_iff_ne.mpr h.2.2.2
  simp [List.lookup, h1, h2, h3, h4]
theorem dsp_o {spO : Sp} {m : Str} {R : Sp → Prop} (S : Star H (ord K t r g tm :: F)) (h : isOrd m) (q : R spO) : dspX [(He.ga K "Order", spO)] m (.ref t) H R := by
  obtain ⟨dx, s, l, kvs, _, S⟩ := ord_iff.mp S
  exact dsp_i S.get List.mem_cons_self (look4 h) q
theorem Order_init_ok (S : Star H (pt t (.ins (He.ga K "Order") dx []) :: F)) (k : ∀ H', Star H' (ord K t [(0, 0)] 1 0 :: F) → Q .non H') : sp_Order_init K [.ref t] H Q E := by
  refine sp_Order_init_i ?_
  walk_at "go"
  refine al_l S fun s H1 S => ?_
  walk_at "go"
  refine stf_S S.p1 List.mem_cons_self (by decide) fun H1 S => ?_
  walk_at "go"
  refine al_d S fun l H1 S => ?_
  walk_at "go"
  refine dis_S [(.inl 0, .int 0)] S rfl rfl (show 1 ≤ 15 by decide) fun H2 S => ?_
  walk_at "go"
  refine stf_S S.p1 List.mem_cons_self (by show 1 < 1000; decide) fun H1 S => ?_
  walk_at "go"
  refine stf_S S List.mem_cons_self (by show 2 < 1000; decide) fun H1 S => ?_
  walk_at "go"
  refine stf_S S List.mem_cons_self (by show 3 < 1000; decide) fun H1 S => ?_
  walk_at "w"
  refine k _ (Star.fr (ps := Order_o K t dx s l 1 0 :: pt s (.lst ([((0 : Nat), (0 : Nat))].map mkV)) :: pt l (.dK [(.inl 0, nV 0)]) :: F) (S.fr (Fr.c0 (Fr.c1 (Fr.c0 (Fr.refl _))))) (ord_i ord1 lab1 (by decide) (by decide)))
theorem Order_need_ok (S : Star H (Order_o K t dx s l g tm :: pt l (.dK kvs) :: F)) (o : OrdOk r g) (hl : Lab kvs r) (hi : r[i]? = some (m, lb)) (k : Q .non H) : sp_Order_need_mark K [.ref t, nV m] H Q E := by
  have hm := o.lt _ (List.mem_of_getElem? hi)
  have hm : m < g := hm
  refine sp_Order_need_mark_i ?_
  walk_at "go"
  have S1 : Star H (dat (nV m) (.int (m : Nat)) :: F) := S.fr (by walk_at "fr")
  refine is_whole_ok S1 ?_
  rw [wholeD_int, decide_eq_true (by omega), decide_eq_true (by omega)]
  walk_at "go"
  refine in_di S.p1.get ?_
  rw [hl.yes _ (List.mem_of_getElem? hi)]
  walk_at "go"
  exact k
/-- no mark that stands -/
def noMk (r : List (Nat × Nat)) (g : Nat) (d : PyData) : Prop := wholeD d 0 ((g : Nat) - 1 : Int) = false ∨ ∃ z : Int, d = .int z ∧ ∀ p ∈ r, ((p.1 : Nat) : Int) ≠ z
theorem Order_need_bad {v : V} {d : PyData} (S : Star H (dat v d :: Order_o K t dx s l g tm :: pt l (.dK kvs) :: F)) (hl : Lab kvs r) (hb : noMk r g d) (k : ∀ H' e, Star H' (pt e (.xd [("found", v)]) :: dat v d :: Order_o K t dx s l g tm :: pt l (.dK kvs) :: F) → E (.ref (He.ga K "NoMark")) (some e) H') : sp_Order_need_mark K [.ref t, v] H Q E := by
  refine sp_Order_need_mark_i ?_
  walk_at "go"
  refine is_whole_ok S ?_
  have fin : sRaise (He.ga K "NoMark") ["found"] (wE E) (aC (eV 1) aN) (endOf Q) [some (.ref t), some v] H := by
    walk_at "go"
    refine nwx_S (fs' := [("found", v)]) S fun e H1 S => ?_
    exact k _ _ S
  rcases hb with hb | ⟨z, rfl, hz⟩
  · rw [hb]
    exact fin
  · cases hw : wholeD (.int z) 0 ((g : Nat) - 1 : Int) with
    | false => exact fin
    | true =>
      obtain ⟨rfl, _⟩ := dat_i.mp S
      walk_at "go"
      refine in_di S.p2.get ?_
      rw [hl.no z hz]
      exact fin
theorem Order_lbl_ok (S : Star H (Order_o K t dx s l g tm :: pt s (.lst (r.map mkV)) :: pt l (.dK kvs) :: F)) (hl : Lab kvs r) (k : Q (nV (lbl r (i + 1))) H) : sp_Order_label_behind K [.ref t, nV i] H Q E := by
  refine sp_Order_label_behind_i ?_
  walk_at "go"
  rw [List.length_map]
  refine brd (fun hc => ?_) (fun hc => ?_)
  · have hi : i + 1 < r.length := by omega
    have e : r[i + 1]? = some (r[i + 1].1, r[i + 1].2) := List.getElem?_eq_getElem hi
    walk_at "go"
    refine ix_l S.p1.get (v := nV r[i + 1].1) ?_ ?_
    · have e2 : (i : Int) + 1 = ((i + 1 : Nat) : Int) := by omega
      rw [e2]
      exact atI_n (by rw [List.getElem?_map, e]; rfl)
    refine ixd_i S.p2.get (hl.yes _ (List.mem_of_getElem? e)) ?_
    rw [lbl_at e] at k
    exact k
  · walk_at "go"
    rw [lbl_out (by omega)] at k
    exact k
theorem Order_all_ok (S : Star H (Order_o K t dx s l g tm :: pt s (.lst (r.map mkV)) :: pt l (.dK kvs) :: F)) (o : OrdOk r g) (hl : Lab kvs r) (hk : kvs.length ≤ g) (hg : g ≤ 100000)
    (k : ∀ H' kvs', Lab kvs' (relab r) → kvs'.length ≤ g → Star H' (Order_o K t dx s l g (tm + 1) :: pt s (.lst ((relab r).map mkV)) :: pt l (.dK kvs') :: F) → Q .non H') : sp_Order_label_all K [.ref t] H Q E := by
  have h1 := o.ne
  have h2 := o.len
  have h3 : 0 < (r.map mkV).length ∧ (r.map mkV).length ≤ 200 := by
    rw [List.length_map]
    exact ⟨h1, h2⟩
  refine sp_Order_label_all_i ?_
  walk_at "go"
  rw [List.length_map]
  have e1 : (1024 : Int) / ((r.length : Nat) : Int) = ((1024 / r.length : Nat) : Int) := by rw [Int.natCast_ediv]; rfl
  rw [e1]
  refine en_l S.p1.get ?_
  refine Loop.it walk_enum (fun i σ H => ∃ kvs' y2 y3, Lab kvs' (relN r (1024 / r.length) i) ∧ kvs'.length = kvs.length ∧ Star H (Order_o K t dx s l g tm :: pt s (.lst (r.map mkV)) :: pt l (.dK kvs') :: F) ∧ σ = [some (.ref t), some (nV (1024 / r.length)), y2, y3]) ⟨kvs, _, _, hl, rfl, S, rfl⟩ (fun i σ H _ ⟨_, _, _, _, _, z, _⟩ => .of z.p1.get) ?_ ?_
  · rintro i v σ H2 H3 hi ⟨kvs', y2, y3, hl', hk', S, rfl⟩ y
    obtain ⟨T, x, z, rfl, e2, e3, S2⟩ := pair_S S y
    cases e2
    have hi' : i < r.length := by rw [List.length_map] at hi; exact hi
    have e4 : r[i]? = some (r[i].1, r[i].2) := List.getElem?_eq_getElem hi'
    rw [List.getElem?_map, e4] at e3
    cases e3
    unfold gU
    refine unp_t S2.getF rfl ?_
    walk_at "go"
    refine setd_i (S2.p3) (by omega) fun H4 S => ?_
    walk_at "w"
    have e5 : (i : Int) * ((1024 / r.length : Nat) : Int) = ((i * (1024 / r.length) : Nat) : Int) := by rw [Int.natCast_mul]
    rw [e5] at S
    have e6 : (relN r (1024 / r.length) i)[i]? = some (r[i].1, r[i].2) := by rw [relN_at, if_neg (Nat.lt_irrefl _)]; exact e4
    have ndN : ∀ (a b : Nat) (p q : Nat × Nat), (relN r (1024 / r.length) i)[a]? = some p → (relN r (1024 / r.length) i)[b]? = some q → p.1 = q.1 → a = b := fun a b p q ha hb e => by
      have mk : ∀ {a : Nat} {p : Nat × Nat}, (relN r (1024 / r.length) i)[a]? = some p → ∃ p', r[a]? = some p' ∧ p'.1 = p.1 := fun {a p} h => by
        rw [relN_at] at h
        split at h
        · obtain ⟨p', hp', rfl⟩ := Option.map_eq_some_iff.mp h
          exact ⟨p', hp', rfl⟩
        · exact ⟨p, h, rfl⟩
      obtain ⟨p', hp', e1⟩ := mk ha
      obtain ⟨q', hq', e2⟩ := mk hb
      exact o.nd a b p' q' hp' hq' (by rw [e1, e2, e])
    have hset := hl'.set e6 ndN (i * (1024 / r.length))
    have e7 : relN r (1024 / r.length) (i + 1) = (relN r (1024 / r.length) i).set i (r[i].1, i * (1024 / r.length)) := by
      show (relN r (1024 / r.length) i).set i ((r.getD i (0, 0)).1, _) = _
      simp [List.getD, e4]
    refine ⟨_, _, _, by rw [e7]; exact hset, ?_, S.fr (by walk_at "fr"), rfl⟩
    rw [length_putK_in (hl'.yes _ (List.mem_of_getElem? e6)), hk']
  · rintro σ H2 ⟨kvs', y2, y3, hl', hk', S, rfl⟩
    rw [List.length_map] at hl'
    walk_at "go"
    refine stf_S S List.mem_cons_self (by show 4 < 1000; decide) fun H3 S => ?_
    walk_at "w"
    rw [← relab_mkV] at S
    exact k _ kvs' hl' (by omega) (S.fr (Fr.c0 (Fr.refl _)))
theorem Order_behind_ok (S : Star H (ord K t r g tm :: F)) (hi : r[i]? = some (m, lb)) (hl : r.length < 200) (hg : g < 100000) (k : ∀ H', Star H' (ord K t (bhd r g i) (g + 1) (tm + anewN r i) :: F) → Q (nV g) H') : sp_Order_behind K [.ref t, nV m] H Q E := by
  obtain ⟨dx, s, l, kvs, ⟨o, la, hk, _⟩, S⟩ := ord_iff.mp S
  have hil := (List.getElem?_eq_some_iff.mp hi).1
  refine sp_Order_behind_i ?_
  walk_at "go"
  refine Order_need_ok (S.fr (by walk_at "fr")) o la hi ?_
  walk_at "go"
  rw [List.length_map]
  refine brd (fun hc => absurd hc (by omega)) (fun _ => ?_)
  walk_at "go"
  refine idx_S (f := s) (xs := r.map (·.1)) (j := i) (by rw [← mkV_eq]; exact S.p1) (by rw [List.getElem?_map, hi]; rfl) (mk_nd o hi) ?_
  dsimp only
  refine seq_cut (fun σ H => ∃ kvs', Lab kvs' (ahd r i) ∧ kvs'.length ≤ g ∧ Star H (Order_o K t dx s l g (tm + anewN r i) :: pt s (.lst ((ahd r i).map mkV)) :: pt l (.dK kvs') :: F) ∧ σ = [some (.ref t), some (nV m), some (nV i), none]) (fun kk => ?_) ?_
  · walk_at "go"
    refine Order_lbl_ok S la ?_
    walk_at "go"
    refine ixd_i S.p2.get (la.yes _ (List.mem_of_getElem? hi)) ?_
    have hlt := lbl_lt o hil
    rw [lbl_at hi] at hlt
    walk_at "go"
    refine brd (fun hc => ?_) (fun hc => ?_)
    · have hlt2 : lbl r (i + 1) - lbl r i < 2 := by
        rw [lbl_at hi]
        have : ((lbl r (i + 1) : Nat) : Int) - ((lb : Nat) : Int) < 2 := hc
        show lbl r (i + 1) - lb < 2
        omega
      walk_at "go"
      refine Order_all_ok S o la hk (by omega) fun H1 kvs' la' hk' S => ?_
      walk_at "w"
      refine kk _ _ ⟨kvs', ?_, hk', ?_, rfl⟩
      · unfold ahd
        rw [if_pos hlt2]
        exact la'
      · unfold ahd anewN
        rw [if_pos hlt2, if_pos hlt2]
        exact S
    · have hlt2 : ¬ lbl r (i + 1) - lbl r i < 2 := by
        rw [lbl_at hi]
        have : ¬ ((lbl r (i + 1) : Nat) : Int) - ((lb : Nat) : Int) < 2 := hc
        have : lb < lbl r (i + 1) := hlt
        show ¬ lbl r (i + 1) - lb < 2
        omega
      walk_at "w"
      refine kk _ _ ⟨kvs, ?_, hk, ?_, rfl⟩
      · unfold ahd
        rw [if_neg hlt2]
        exact la
      · unfold ahd anewN
        rw [if_neg hlt2, if_neg hlt2]
        exact S
  · rintro σ H1 ⟨kvs', la', hk', S, rfl⟩
    obtain ⟨lb', hi'⟩ := ahd_mark (j := i) hi
    have o2 := ahd_ok (i := i) o
    have hal := ahd_len (r := r) (i := i)
    walk_at "go"
    refine ixd_i S.p2.get (la'.yes _ (List.mem_of_getElem? hi')) ?_
    walk_at "go"
    refine Order_lbl_ok S la' ?_
    walk_at "go"
    have e1 : (((lb' : Nat) : Int) + ((lbl (ahd r i) (i + 1) : Nat) : Int)) / 2 = ((newL r i : Nat) : Int) := by
      unfold newL
      rw [lbl_at hi', Int.natCast_ediv, Int.natCast_add]
      rfl
    have e1' : (((m, lb').2 : Nat) : Int) = ((lb' : Nat) : Int) := rfl
    first
      | rw [e1]
      | (rw [e1'] ; rw [e1])
    refine setd_i S.p2 (by omega) fun H2 S => ?_
    walk_at "go"
    have e2 : (i : Int) + 1 = ((i + 1 : Nat) : Int) := by omega
    rw [e2]
    have S : Star H2 (pt s (.lst ((ahd r i).map mkV)) :: Order_o K t dx s l g (tm + anewN r i) :: pt l (.dK (putK kvs' (.inl (g : Nat)) (nV (newL r i)))) :: F) := S.fr (by walk_at "fr")
    refine ins_S S (by rw [List.length_map]; omega) (by rw [List.length_map]; omega) fun H3 S => ?_
    walk_at "go"
    refine stf_S S.p1 List.mem_cons_self (by show 4 < 1000; decide) fun H4 S => ?_
    walk_at "w"
    have e3 : ((ahd r i).map mkV).take (i + 1) ++ [nV g] ++ ((ahd r i).map mkV).drop (i + 1) = (bhd r g i).map mkV := by rw [bhd_mkV, ahd_mkV]
    rw [e3] at S
    have la2 : Lab (putK kvs' (.inl (g : Nat)) (nV (newL r i))) (bhd r g i) := la'.ins (fun p hp => by have := o2.lt p hp; omega) (fun p => bhd_mem p)
    have hk2 := length_putK kvs' (.inl (g : Nat)) (nV (newL r i))
    refine k _ (Star.fr (ps := Order_o K t dx s l (g + 1) (tm + anewN r i) :: pt s (.lst ((bhd r g i).map mkV)) :: pt l (.dK (putK kvs' (.inl (g : Nat)) (nV (newL r i)))) :: F) (S.fr (Fr.c0 (Fr.c0 (Fr.c0 (Fr.refl _))))) (ord_i (bhd_ok o hil hl) la2 (by omega) (by omega)))
theorem Order_behind_full (S : Star H (ord K t r g tm :: F)) (hi : r[i]? = some (m, lb)) (hl : r.length = 200) (k : ∀ H' e, Star H' (pt e (.xd [("count", .int 201)]) :: ord K t r g tm :: F) → E (.ref (He.ga K "TooMany")) (some e) H') : sp_Order_behind K [.ref t, nV m] H Q E := by
  obtain ⟨dx, s, l, kvs, ⟨o, la, hk, hg⟩, S⟩ := ord_iff.mp S
  refine sp_Order_behind_i ?_
  walk_at "go"
  refine Order_need_ok (S.fr (by walk_at "fr")) o la hi ?_
  walk_at "go"
  rw [List.length_map]
  refine brd (fun _ => ?_) (fun hc => absurd (by omega) hc)
  walk_at "go"
  refine nwx_S (fs' := [("count", .int 201)]) S fun e H1 S => ?_
  exact k _ _ (S.fr (Fr.c0 (ord_i o la hk hg)))
theorem Order_many_ok (S : Star H (ord K t r g tm :: F)) (k : Q (nV r.length) H) : sp_Order_many K [.ref t] H Q E := by
  obtain ⟨dx, s, l, kvs, _, S⟩ := ord_iff.mp S
  refine sp_Order_many_i ?_
  walk_at "go"
  rw [List.length_map]
  exact k
theorem Order_marks_ok (S : Star H (ord K t r g tm :: F)) (k : ∀ H' f, Star H' (pt f (.lst (r.map mkV)) :: ord K t r g tm :: F) → Q (.ref f) H') : sp_Order_marks K [.ref t] H Q E := by
  obtain ⟨dx, s, l, kvs, ⟨o, la, hk, hg⟩, S⟩ := ord_iff.mp S
  refine sp_Order_marks_i ?_
  walk_at "go"
  refine list_S S S.p1.get fun f H1 S => ?_
  exact k _ _ (S.fr (Fr.c0 (ord_i o la hk hg)))
theorem Order_label_ok (S : Star H (ord K t r g tm :: F)) (hi : r[i]? = some (m, lb)) (k : Q (nV lb) H) : sp_Order_label K [.ref t, nV m] H Q E := by
  obtain ⟨dx, s, l, kvs, ⟨o, la, hk, hg⟩, S⟩ := ord_iff.mp S
  refine sp_Order_label_i ?_
  walk_at "go"
  refine Order_need_ok (S.fr (by walk_at "fr")) o la hi ?_
  walk_at "go"
  exact ixd_i S.p2.get (la.yes _ (List.mem_of_getElem? hi)) k
theorem Order_anew_ok (S : Star H (ord K t r g tm :: F)) (k : Q (nV tm) H) : sp_Order_anew K [.ref t] H Q E := by
  obtain ⟨dx, s, l, kvs, _, S⟩ := ord_iff.mp S
  refine sp_Order_anew_i ?_
  walk_at "go"
  exact k
theorem Order_copied_ok (S : Star H (ord K t r g tm :: F)) (k : ∀ H' u, Star H' (ord K u r g tm :: ord K t r g tm :: F) → Q (.ref u) H') : sp_Order_copied K [.ref t] H Q E := by
  obtain ⟨dx, s, l, kvs, ⟨o, la, hk, hg⟩, S⟩ := ord_iff.mp S
  refine sp_Order_copied_i ?_
  walk_at "w"
  intro x dx1 hx hd hne
  refine Order_init_ok (S.mkI hx hd hne) fun H1 S => ?_
  obtain ⟨dx2, s2, l2, kvs2, _, S⟩ := ord_iff.mp S
  walk_at "go"
  refine list_S S S.p4.get fun s3 H1 S => ?_
  walk_at "go"
  refine stf_S S.p1 List.mem_cons_self (by show 4 < 1000; decide) fun H1 S => ?_
  walk_at "go"
  refine dct_S S S.p6.get fun l3 H1 S => ?_
  walk_at "go"
  refine stf_S S.p1 List.mem_cons_self (by show 4 < 1000; decide) fun H1 S => ?_
  walk_at "go"
  refine stf_S S List.mem_cons_self (by show 4 < 1000; decide) fun H1 S => ?_
  walk_at "go"
  refine stf_S S List.mem_cons_self (by show 4 < 1000; decide) fun H1 S => ?_
  walk_at "w"
  have S2 : Star H1 (Order_o K x dx2 s3 l3 g tm :: pt s3 (.lst (r.map mkV)) :: pt l3 (.dK kvs) :: Order_o K t dx s l g tm :: pt s (.lst (r.map mkV)) :: pt l (.dK kvs) :: F) := S.fr (Fr.c0 (Fr.c1 (Fr.c0 (by walk_at "fr"))))
  exact k _ _ ((S2.fr (ord_i o la hk hg)).fr (Fr.c0 (ord_i o la hk hg)))
end
end Lawk16

namespace Lawk16
open PySem PySem.Spec PyProof.Rows L2 MK
/-! pairs of numbers as tuples, held by nobody -/
def TP (H : Hp) (vs : List V) (r : List (Nat × Nat)) : Prop := vs.length = r.length ∧ ∀ (i : Nat) (p : Nat × Nat), r[i]? = some p → ∃ T, vs[i]? = some (.ref T) ∧ H T = some (.tup [nV p.1, nV p.2])
def tps (vs : List V) (r : List (Nat × Nat)) : SP where
  P := fun H A => A = [] ∧ TP H vs r
  dom := fun H A h b hb => by
    rw [h.1] at hb
    cases hb
  st := fun H H' A h _ k => ⟨h.1, h.2.1, fun i p e => by
    obtain ⟨T, h1, h2⟩ := h.2.2 i p e
    exact ⟨T, h1, by rw [k T (by rw [h2]; exact True.intro), h2]⟩⟩
def tupD (p : Nat × Nat) : PyData := .tuple [.int (p.1 : Nat), .int (p.2 : Nat)]
section
variable {K : PySem.W.Frag} {F : List SP} {H : Hp} {Q : VK} {vs ws : List V} {r q : List (Nat × Nat)} {i : Nat} {p : Nat × Nat}
theorem tps_iff : Star H (tps vs r :: F) ↔ TP H vs r ∧ Star H F :=
  ⟨fun S => by
    obtain ⟨A1, A2, n, ⟨_, h1⟩, h2⟩ := Star.split.mp S
    exact ⟨h1, S.tail⟩, fun ⟨h, A, n, hA⟩ => Star.split.mpr ⟨[], A, n, ⟨rfl, h⟩, hA⟩⟩
theorem _root_.MK.Star.tp (S : Star H (tps vs r :: F)) : TP H vs r := (tps_iff.mp S).1
theorem _root_.MK.Star.tadd (S : Star H F) (h : TP H vs r) : Star H (tps vs r :: F) := tps_iff.mpr ⟨h, S⟩
theorem TP.nil : TP H [] [] := ⟨rfl, fun i p e => by simp at e⟩
theorem TP.snoc {T : Addr} (h : TP H vs r) (e : H T = some (.tup [nV p.1, nV p.2])) : TP H (vs ++ [.ref T]) (r ++ [p]) := by
  refine ⟨by rw [List.length_append, List.length_append, h.1]; rfl, fun i p' hi => ?_⟩
  by_cases hl : i < r.length
  · rw [List.getElem?_append_left hl] at hi
    obtain ⟨T', h1, h2⟩ := h.2 i p' hi
    exact ⟨T', by rw [List.getElem?_append_left (by rw [h.1]; exact hl)]; exact h1, h2⟩
  · have e1 : i = r.length := by
      have := (List.getElem?_eq_some_iff.mp hi).1
      simp at this
      omega
    subst e1
    rw [List.getElem?_concat_length] at hi
    cases hi
    exact ⟨T, by rw [← h.1, List.getElem?_concat_length], e⟩
theorem TP.app (h : TP H vs r) (h2 : TP H ws q) : TP H (vs ++ ws) (r ++ q) := by
  refine ⟨by rw [List.length_append, List.length_append, h.1, h2.1], fun i p hi => ?_⟩
  by_cases hl : i < r.length
  · rw [List.getElem?_append_left hl] at hi
    rw [List.getElem?_append_left (by rw [h.1]; exact hl)]
    exact h.2 i p hi
  · rw [List.getElem?_append_right (by omega)] at hi
    rw [List.getElem?_append_right (by rw [h.1]; omega), h.1]
    exact h2.2 _ p hi
theorem TP.take (h : TP H vs r) (k : Nat) : TP H (vs.take k) (r.take k) := by
  refine ⟨by rw [List.length_take, List.length_take, h.1], fun i p hi => ?_⟩
  have hl := (List.getElem?_eq_some_iff.mp hi).1
  rw [List.length_take] at hl
  rw [List.getElem?_take_of_lt (by omega)] at hi ⊢
  exact h.2 i p hi
theorem TP.drop (h : TP H vs r) (k : Nat) : TP H (vs.drop k) (r.drop k) := by
  refine ⟨by rw [List.length_drop, List.length_drop, h.1], fun i p hi => ?_⟩
  rw [List.getElem?_drop] at hi ⊢
  exact h.2 _ p hi
theorem TP.erase (h : TP H vs r) (k : Nat) : TP H (vs.eraseIdx k) (r.eraseIdx k) := by
  refine ⟨by rw [List.length_eraseIdx, List.length_eraseIdx, h.1], fun i p hi => ?_⟩
  rw [erase_at] at hi ⊢
  split
  · rw [if_pos (by assumption)] at hi
    exact h.2 _ p hi
  · rw [if_neg (by assumption)] at hi
    exact h.2 _ p hi
theorem tps_dats : ∀ {r : List (Nat × Nat)} {vs : List V} {F : List SP}, TP H vs r → Star H F → Star H (dats vs (r.map tupD) :: F)
  | [], vs, F, h, S => by
    have : vs = [] := List.length_eq_zero_iff.mp h.1
    subst this
    exact dats_n.mpr ⟨rfl, S⟩
  | p :: r, [], F, h, S => by
    have := h.1
    simp at this
  | p :: r, v :: vs, F, h, S => by
    obtain ⟨T, h1, h2⟩ := h.2 0 p rfl
    cases h1
    have ht : TP H vs r := ⟨Nat.succ.inj h.1, fun i p' e => h.2 (i + 1) p' e⟩
    refine dats_c.mpr ⟨_, _, rfl, ?_⟩
    show Star H (dat (.ref T) (.tuple [.int (p.1 : Nat), .int (p.2 : Nat)]) :: dats vs (r.map tupD) :: F)
    refine dat_t.mpr ⟨T, [nV p.1, nV p.2], rfl, ?_⟩
    have S2 := tps_dats (r := r) (vs := vs) ht S
    have S3 : Star H (dats [nV p.1, nV p.2] [.int (p.1 : Nat), .int (p.2 : Nat)] :: dats vs (r.map tupD) :: F) := dats_c.mpr ⟨_, _, rfl, dat_i.mpr ⟨rfl, dats_c.mpr ⟨_, _, rfl, dat_i.mpr ⟨rfl, dats_n.mpr ⟨rfl, S2⟩⟩⟩⟩⟩
    obtain ⟨A, n, hA⟩ := S3
    exact ⟨A, n, [], A, rfl, ⟨rfl, h2, True.intro⟩, hA⟩
theorem tups_ni (hl : r.length ≤ 300) (hx : ∀ p ∈ r, p.1 ≤ 100000 ∧ p.2 ≤ 100000) : Ni 2 4000 (.list (r.map tupD)) := by
  refine ni_l (n := 1) (m := 10) (fun d hd => ?_) (by decide) (by rw [List.length_map]; omega)
  obtain ⟨p, hp, rfl⟩ := List.mem_map.mp hd
  have := hx p hp
  exact ni_t (n := 0) (m := 0) (fa1 (ni_i (by omega)) (fa1 (ni_i (by omega)) fa0)) (by decide) (show 2 * (0 + 1) ≤ 10 by decide)
theorem repr_tups {f : Addr} (S : Star H (pt f (.lst vs) :: tps vs r :: F)) (hl : r.length ≤ 300) (hx : ∀ p ∈ r, p.1 ≤ 100000 ∧ p.2 ≤ 100000) (k : Q (.str (PyData.list (r.map tupD)).shown) H) : reprX K (.ref f) H Q := by
  have S1 := tps_dats S.p1.tp S
  have Sa : Star H (dat (.ref f) (.list (r.map tupD)) :: []) := S1.fr (Fr.lst (xs := vs) (Fr.c1 (Fr.c0 (Fr.nil _))))
  exact repr_D Sa (tups_ni hl hx).rep k
end
end Lawk16

namespace Lawk16
open PySem PySem.Spec PyProof.Rows L2 MK
/-! what is no mark is refused at each door -/
section
variable {K : PySem.W.Frag} {F G : List SP} {H : Hp} {Q : VK} {E : XK} {t u f : Addr} {r : List (Nat × Nat)} {g tm m lb i : Nat} {v x : V} {d : PyData}
theorem ordbad_i {e : Addr} {dx s l : Addr} {kvs : List (Key × V)} (o : OrdOk r g) (la : Lab kvs r) (hk : kvs.length ≤ g) (hg : g ≤ 100000) (k : ∀ H' e, Star H' (pt e (.xd [("found", v)]) :: dat v d :: ord K t r g tm :: F) → E (.ref (He.ga K "NoMark")) (some e) H') :
    ∀ H' e, Star H' (pt e (.xd [("found", v)]) :: dat v d :: Order_o K t dx s l g tm :: pt l (.dK kvs) :: pt s (.lst (r.map mkV)) :: F) → E (.ref (He.ga K "NoMark")) (some e) H' := fun H' e S => k H' e (Star.fr (ord_iff.mpr ⟨dx, s, l, kvs, ⟨o, la, hk, hg⟩, S.fr (by walk_at "fr")⟩) (by walk_at "fr"))
theorem Order_behind_bad (S : Star H (dat v d :: ord K t r g tm :: F)) (hb : noMk r g d) (k : ∀ H' e, Star H' (pt e (.xd [("found", v)]) :: dat v d :: ord K t r g tm :: F) → E (.ref (He.ga K "NoMark")) (some e) H') : sp_Order_behind K [.ref t, v] H Q E := by
  obtain ⟨dx, s, l, kvs, ⟨o, la, hk, hg⟩, S⟩ := ord_iff.mp S.p1
  refine sp_Order_behind_i ?_
  walk_at "go"
  exact Order_need_bad (S.fr (by walk_at "fr")) la hb (ordbad_i (e := t) o la hk hg k)
theorem Order_label_bad (S : Star H (dat v d :: ord K t r g tm :: F)) (hb : noMk r g d) (k : ∀ H' e, Star H' (pt e (.xd [("found", v)]) :: dat v d :: ord K t r g tm :: F) → E (.ref (He.ga K "NoMark")) (some e) H') : sp_Order_label K [.ref t, v] H Q E := by
  obtain ⟨dx, s, l, kvs, ⟨o, la, hk, hg⟩, S⟩ := ord_iff.mp S.p1
  refine sp_Order_label_i ?_
  walk_at "go"
  exact Order_need_bad (S.fr (by walk_at "fr")) la hb (ordbad_i (e := t) o la hk hg k)
/-- the labels as a dict -/
def labK (r : List (Nat × Nat)) : List (Key × V) := r.map fun p => (.inl ((p.1 : Nat) : Int), nV p.2)
theorem marks_nodup (o : OrdOk r g) : (r.map (·.1)).Nodup := by
  refine List.pairwise_iff_getElem.mpr fun a b ha hb hab e => ?_
  rw [List.length_map] at ha hb
  have h1 : r[a]? = some r[a] := List.getElem?_eq_getElem ha
  have h2 : r[b]? = some r[b] := List.getElem?_eq_getElem hb
  have := o.nd a b _ _ h1 h2 (by simpa using e)
  omega
theorem lab_of : ∀ {r : List (Nat × Nat)}, (r.map (·.1)).Nodup → Lab (labK r) r
  | [], _ => ⟨fun p hp => (by cases hp), fun z _ => rfl⟩
  | p :: r, h => by
    rw [List.map_cons, List.nodup_cons] at h
    have ih := lab_of h.2
    refine ⟨fun p' hp' => ?_, fun z hz => ?_⟩
    · by_cases e : p'.1 = p.1
      · rcases List.mem_cons.mp hp' with e2 | e2
        · subst e2
          exact valV_pos rfl
        · exact absurd (List.mem_map.mpr ⟨p', e2, e⟩) h.1
      · rcases List.mem_cons.mp hp' with e2 | e2
        · exact absurd (by rw [e2]) e
        · show valV ((.inl ((p.1 : Nat) : Int), nV p.2) :: labK r) _ = _
          rw [valV_neg (fun z => e (by have := Sum.inl.inj z; omega))]
          exact ih.yes p' e2
    · show valV ((.inl ((p.1 : Nat) : Int), nV p.2) :: labK r) _ = _
      rw [valV_neg (fun e => hz p List.mem_cons_self (Sum.inl.inj e))]
      exact ih.no z fun p' hp' => hz p' (List.mem_cons_of_mem _ hp')
theorem merge_lab : ∀ {r q : List (Nat × Nat)}, ((q ++ r).map (·.1)).Nodup → mergeK (labK q) (labK r) = labK (q ++ r)
  | [], q, _ => by
    rw [List.append_nil]
    rfl
  | p :: r, q, h => by
    have h2 : (((q ++ [p]) ++ r).map (·.1)).Nodup := by rw [List.append_assoc]; exact h
    have hq : (q.map (·.1)).Nodup := by
      rw [List.map_append] at h
      exact (List.nodup_append.mp h).1
    have hn : valV (labK q) (.inl ((p.1 : Nat) : Int)) = none := (lab_of hq).no _ fun p' hp' e => by
      rw [List.map_append, List.map_cons] at h
      exact (List.nodup_append.mp h).2.2 p'.1 (List.mem_map.mpr ⟨p', hp', rfl⟩) p.1 List.mem_cons_self (by omega)
    show mergeK (putK (labK q) (.inl ((p.1 : Nat) : Int)) (nV p.2)) (labK r) = _
    rw [putK_new _ hn]
    have e : labK q ++ [((.inl ((p.1 : Nat) : Int) : Key), nV p.2)] = labK (q ++ [p]) := by
      unfold labK
      rw [List.map_append]
      rfl
    rw [e, merge_lab h2, List.append_assoc]
    rfl
theorem merge_lab0 (o : OrdOk r g) : mergeK [] (labK r) = labK r := merge_lab (q := []) (by rw [List.nil_append]; exact marks_nodup o)
theorem labK_len : (labK r).length = r.length := by
  unfold labK
  rw [List.length_map]
theorem labK_mem {p : Key × V} (h : p ∈ labK r) : ∃ p' ∈ r, p = (.inl ((p'.1 : Nat) : Int), nV p'.2) := by
  obtain ⟨p', hp', rfl⟩ := List.mem_map.mp h
  exact ⟨p', hp', rfl⟩
theorem drop_labK_len (o : OrdOk r g) (hi : r[i]? = some (m, lb)) : (dropK (labK r) (.inl ((m : Nat) : Int))).length = (r.eraseIdx i).length := by
  have hil := (List.getElem?_eq_some_iff.mp hi).1
  have hk : ((labK r).map (·.1)).Nodup := by
    have e : (labK r).map (·.1) = (r.map (·.1)).map fun n => (Sum.inl ((n : Nat) : Int) : Key) := by
      unfold labK
      rw [List.map_map, List.map_map]
      rfl
    rw [e]
    exact (marks_nodup o).map _ fun a b hab z => hab (by have := Sum.inl.inj z; omega)
  have hm : (Sum.inl ((m : Nat) : Int) : Key) ∈ (labK r).map (·.1) := List.mem_map.mpr ⟨_, List.mem_map.mpr ⟨(m, lb), List.mem_of_getElem? hi, rfl⟩, rfl⟩
  have := dropK_len hk hm
  rw [labK_len] at this
  rw [List.length_eraseIdx, if_pos hil]
  omega
theorem tps_paired : ∀ {r : List (Nat × Nat)} {acc : List V}, TP H acc r → ∃ ps : List Addr, acc = ps.map V.ref ∧ Paired (fun p kv => SqT K H p [kV kv.1, kv.2]) ps (labK r)
  | [], acc, h => ⟨[], List.length_eq_zero_iff.mp h.1, .nil⟩
  | p :: r, [], h => absurd h.1 (by simp)
  | p :: r, v :: acc, h => by
    obtain ⟨T, h1, h2⟩ := h.2 0 p rfl
    cases h1
    obtain ⟨ps, e, hp⟩ := tps_paired (r := r) (acc := acc) ⟨Nat.succ.inj h.1, fun i p' e => h.2 (i + 1) p' e⟩
    exact ⟨T :: ps, by rw [e]; rfl, .cons (.of h2) hp⟩
theorem list_eq {xs : List Nat} (S : Star H (pt f (.lst (xs.map nV)) :: F)) (S2 : Star H (pt u (.lst (xs.map nV)) :: G)) (hz : xs.length ≤ 1000) (hx : ∀ x ∈ xs, x ≤ 1000) (q : Q (.bl true) H) : eqX K (.ref f) (.ref u) H Q := by
  have Sa : Star H (dat (.ref f) (.list (xs.map fun k => .int (k : Nat))) :: []) := S.fr (Fr.lst (xs := xs.map nV) (Fr.c0 (Fr.ints (Fr.nil _))))
  have Sb : Star H (dat (.ref u) (.list (xs.map fun k => .int (k : Nat))) :: []) := S2.fr (Fr.lst (xs := xs.map nV) (Fr.c0 (Fr.ints (Fr.nil _))))
  have hp : Pl (.list (xs.map fun k => PyData.int (k : Nat))) := pl_l fun d hd => by
    obtain ⟨x, _, rfl⟩ := List.mem_map.mp hd
    rfl
  have hs := (ni_ints hz hx).shd hp
  refine eq_d (Sa.dp hp.nd) (Sb.dp hp.nd) hs hs ?_
  rw [PySem.SeqAt.eqv_refl _ hp]
  exact q
theorem list_ne {xs : List Nat} (S : Star H (pt f (.lst (xs.map nV)) :: F)) (S2 : Star H (pt u (.lst (xs.map nV)) :: G)) (hz : xs.length ≤ 1000) (hx : ∀ x ∈ xs, x ≤ 1000) (q : Q (.bl false) H) : neX K (.ref f) (.ref u) H Q := by
  have Sa : Star H (dat (.ref f) (.list (xs.map fun k => .int (k : Nat))) :: []) := S.fr (Fr.lst (xs := xs.map nV) (Fr.c0 (Fr.ints (Fr.nil _))))
  have Sb : Star H (dat (.ref u) (.list (xs.map fun k => .int (k : Nat))) :: []) := S2.fr (Fr.lst (xs := xs.map nV) (Fr.c0 (Fr.ints (Fr.nil _))))
  have hp : Pl (.list (xs.map fun k => PyData.int (k : Nat))) := pl_l fun d hd => by
    obtain ⟨x, _, rfl⟩ := List.mem_map.mp hd
    rfl
  have hs := (ni_ints hz hx).shd hp
  refine ne_d (Sa.dp hp.nd) (Sb.dp hp.nd) hs hs ?_
  rw [PySem.SeqAt.eqv_refl _ hp]
  exact q
theorem marks_small (o : OrdOk r g) (hg : g ≤ 1000) : (r.map (·.1)).length ≤ 1000 ∧ ∀ x ∈ r.map (·.1), x ≤ 1000 := by
  refine ⟨by rw [List.length_map]; have := o.len; omega, fun x hx => ?_⟩
  obtain ⟨p, hp, rfl⟩ := List.mem_map.mp hx
  have := o.lt p hp
  omega
theorem mem_cutV {xs : List V} {lo hi : Option Int} {x : V} (h : x ∈ cutV xs lo hi) : x ∈ xs := by
  unfold cutV at h
  exact List.mem_of_mem_drop (List.mem_of_mem_take h)
theorem len_cutV {xs : List V} {lo hi : Option Int} : (cutV xs lo hi).length ≤ xs.length := by
  unfold cutV
  rw [List.length_take, List.length_drop]
  omega
end
end Lawk16

namespace Lawk16
open PySem PySem.Spec PyProof.Rows L2 MK
section
variable {K : PySem.W.Frag} {F G : List SP} {H : Hp} {Q : VK} {a D : Addr} {σ : L2.St} {g : TG} {tt : TT} {te : TE} {vs : List Nat}
theorem cutT {t : TT} {σ : L2.St} {H : Hp} {R : Bool → Hp → Prop} (b : Bool) (H' : Hp) (h : R b H') (i : ∀ R : Bool → Hp → Prop, R b H' → t σ H R) : t σ H R := i R h
/-- [f(x) for x in xs if p(x)], over whole numbers -/
theorem lc_nats {xs : List Nat} (gx : V → L2.St) (p : Nat → Bool) (f : Nat → Nat) (S : Star H (pt a (.lst (xs.map nV)) :: G)) (hz : xs.length ≤ 16777216) (hD : H D = none) (hg : ∀ x H Q, Q (gx x) H → g x (wipe σ vs) H Q) (hw : ∀ x, wipe (gx x) vs = wipe σ vs)
    (ht : ∀ (x : Nat) H D acc (R : Bool → Hp → Prop), x ∈ xs → Star H (pt D (.lst acc) :: pt a (.lst (xs.map nV)) :: G) → R (p x) H → tt (gx (nV x)) H R)
    (he : ∀ (x : Nat) H D acc (R : VK), x ∈ xs → p x = true → Star H (pt D (.lst acc) :: pt a (.lst (xs.map nV)) :: G) → R (nV (f x)) H → te (gx (nV x)) H R)
    (q : ∀ H1, Star H1 (pt D (.lst (((xs.filter p).map f).map nV)) :: pt a (.lst (xs.map nV)) :: G) → Q (.ref D) H1) : LoopC (Itl K a) g tt te vs σ D H Q := by
  refine LoopC.it (walk_list (a := a) (xs := xs.map nV)) (fun j H => Star H (pt D (.lst ((((xs.take j).filter p).map f).map nV)) :: pt a (.lst (xs.map nV)) :: G)) (S.newL hD) (fun j H _ z => .of z.p1.get) ?_ ?_
  · rintro j v H1 H2 hj S ⟨rfl, hv⟩
    rw [List.getElem?_map] at hv
    obtain ⟨x, hx, rfl⟩ := Option.map_eq_some_iff.mp hv
    have hm := List.mem_of_getElem? hx
    refine hg _ _ _ ⟨hw _, ?_⟩
    refine ht x _ D _ _ hm S ?_
    have hl : ((((xs.take j).filter p).map f).map nV).length ≤ j := by
      rw [List.length_map, List.length_map]
      exact Nat.le_trans (List.length_filter_le _ _) (by rw [List.length_take]; omega)
    rw [List.length_map] at hj
    have e : xs.take (j + 1) = xs.take j ++ [x] := by rw [List.take_succ, hx]; rfl
    cases hp : p x with
    | true =>
      rw [if_pos rfl]
      refine he x _ D _ _ hm hp S ⟨_, S.get, by rw [sizeLine_eq]; omega, ?_⟩
      rw [e, List.filter_append, List.filter_cons_of_pos hp, List.filter_nil, List.map_append, List.map_append]
      exact S.updL
    | false =>
      rw [if_neg Bool.false_ne_true, e, List.filter_append, List.filter_cons_of_neg (by rw [hp]; exact Bool.false_ne_true), List.filter_nil, List.append_nil]
      exact S
  · intro H1 S
    rw [List.length_map, List.take_length] at S
    exact q H1 S
end
end Lawk16

namespace Lawk16
open PySem PySem.Spec PyProof.Rows L2 MK
/-! tours: the makes' two marks in an order -/
def mks (n : Nat) : List (Nat × Nat) := (List.range n).map fun k => (2 * k, 2 * k + 1)
theorem mks_len (n : Nat) : (mks n).length = n := by
  unfold mks
  rw [List.length_map, List.length_range]
theorem mks_at {n k : Nat} (h : k < n) : (mks n)[k]? = some (2 * k, 2 * k + 1) := by
  unfold mks
  rw [List.getElem?_map, List.getElem?_range h]
  rfl
theorem mks_succ (n : Nat) : mks (n + 1) = mks n ++ [(2 * n, 2 * n + 1)] := by
  unfold mks
  rw [List.range_succ, List.map_append]
  rfl
/-- all marks below g stand -/
structure Full (r : List (Nat × Nat)) (g : Nat) : Prop where
  len : r.length = g
  all : ∀ m : Nat, m < g → ∃ i lb : Nat, r[i]? = some (m, lb)
section
variable {r : List (Nat × Nat)} {g i m lb : Nat}
theorem Full.bhd (h : Full r g) (o : OrdOk r g) (hi : i < r.length) : Full (bhd r g i) (g + 1) := by
  refine ⟨by rw [bhd_len hi, h.len], fun m hm => ?_⟩
  by_cases e : m = g
  · subst e
    exact ⟨i + 1, newL r i, by rw [bhd_at hi, if_neg (by omega), if_pos rfl]⟩
  · obtain ⟨j, lb, hj⟩ := h.all m (by omega)
    obtain ⟨lb', hj'⟩ := ahd_mark (j := i) hj
    by_cases hji : j < i + 1
    · exact ⟨j, lb', by rw [bhd_at hi, if_pos hji]; exact hj'⟩
    · exact ⟨j + 1, lb', by rw [bhd_at hi, if_neg (by omega), if_neg (by omega)]; exact hj'⟩
theorem bhd_new (hi : i < r.length) : (bhd r g i)[i + 1]? = some (g, newL r i) := by rw [bhd_at hi, if_neg (by omega), if_pos rfl]
theorem full2 : Full (bhd [(0, 0)] 1 0) 2 := Full.bhd (r := [(0, 0)]) (g := 1) (i := 0) ⟨rfl, fun m hm => ⟨0, 0, by
  have e : m = 0 := by omega
  subst e
  rfl⟩⟩ ord1 (by decide)
theorem bhd2 : bhd [(0, 0)] 1 0 = [(0, 0), (1, 512)] := by decide
theorem anew2 : anewN [(0, 0)] 0 = 0 := by decide
end
/-- two marks behind a make's coming -/
def grw (r : List (Nat × Nat)) (g i : Nat) : List (Nat × Nat) := bhd (bhd r g i) (g + 1) (i + 1)
def grwN (r : List (Nat × Nat)) (g i : Nat) : Nat := anewN r i + anewN (bhd r g i) (i + 1)
abbrev Tour_o (K : PySem.W.Frag) (t dx o bm : Addr) : SP := pt t (.ins (He.ga K "Tour") dx [("placed", .ref o), ("both_marks", .ref bm)])
def tour (K : PySem.W.Frag) (t : Addr) (r : List (Nat × Nat)) (n tm : Nat) : SP := ex fun dx : Addr => ex fun o : Addr => ex fun bm : Addr => ex fun vs : List V => sep [pr (Full r (2 * n) ∧ 1 ≤ n), Tour_o K t dx o bm, ord K o r (2 * n) tm, pt bm (.lst vs), tps vs (mks n)]
section
variable {K : PySem.W.Frag} {F : List SP} {H : Hp} {Q : VK} {E : XK} {t dx o bm : Addr} {r : List (Nat × Nat)} {n tm m lb i : Nat} {vs : List V}
theorem tour_iff : Star H (tour K t r n tm :: F) ↔ ∃ dx o bm vs, (Full r (2 * n) ∧ 1 ≤ n) ∧ Star H (Tour_o K t dx o bm :: ord K o r (2 * n) tm :: pt bm (.lst vs) :: tps vs (mks n) :: F) := by
  unfold tour
  simp only [Star.ex_iff, Star.sep_iff, List.cons_append, List.nil_append, Star.pr_iff]
theorem tour_i (h : Full r (2 * n) ∧ 1 ≤ n) : Fr (Tour_o K t dx o bm :: ord K o r (2 * n) tm :: pt bm (.lst vs) :: tps vs (mks n) :: F) (tour K t r n tm :: F) := fun H S => tour_iff.mpr ⟨dx, o, bm, vs, h, S⟩
theorem tour_ok (S : Star H (tour K t r n tm :: F)) : (Full r (2 * n) ∧ 1 ≤ n) ∧ OrdOk r (2 * n) := by
  obtain ⟨_, _, _, _, h, S⟩ := tour_iff.mp S
  exact ⟨h, ord_ok S.p1⟩
abbrev isTour (m : Str) : Prop := m ≠ "placed" ∧ m ≠ "both_marks"
theorem lookT {m : Str} {v u : V} (h : isTour m) : List.lookup m [("placed", v), ("both_marks", u)] = none := by
  have h1 : (m == ("placed" : Str)) = false := beq_eq_false_iff_ne.mpr h.1
  have h2 : (m == ("both_marks" : Str)) = false := beq_eq_false_iff_ne.mpr h.2
  simp [List.lookup, h1, h2]
theorem dsp_t {spT : Sp} {m : Str} {R : Sp → Prop} (S : Star H (tour K t r n tm :: F)) (h : isTour m) (q : R spT) : dspX [(He.ga K "Tour", spT)] m (.ref t) H R := by
  obtain ⟨dx, o, bm, vs, _, S⟩ := tour_iff.mp S
  exact dsp_i S.get List.mem_cons_self (lookT h) q
theorem dsp_ot {spO spT : Sp} {m : Str} {R : Sp → Prop} (S : Star H (tour K t r n tm :: F)) (h : isTour m) (q : R spT) : dspX [(He.ga K "Order", spO), (He.ga K "Tour", spT)] m (.ref t) H R := by
  obtain ⟨dx, o, bm, vs, _, S⟩ := tour_iff.mp S
  exact dsp_i S.get (List.mem_cons_of_mem _ List.mem_cons_self) (lookT h) q
theorem Tour_init_ok (S : Star H (pt t (.ins (He.ga K "Tour") dx []) :: F)) (k : ∀ H', Star H' (tour K t [(0, 0), (1, 512)] 1 0 :: F) → Q .non H') : sp_Tour_init K [.ref t] H Q E := by
  refine sp_Tour_init_i ?_
  walk_at "w"
  intro x dx1 hx hd hne
  refine Order_init_ok (S.mkI hx hd hne) fun H1 S => ?_
  walk_at "go"
  refine stf_S S.p1 List.mem_cons_self (by decide) fun H1 S => ?_
  walk_at "go"
  refine dsp_o S.p1 (by decide +kernel) ?_
  walk_at "go"
  refine Order_behind_ok (t := x) (i := 0) (m := 0) (lb := 0) S.p1 rfl (by decide) (by decide) fun H2 S => ?_
  rw [bhd2, anew2] at S
  walk_at "go"
  refine al_t S fun T H3 S => ?_
  walk_at "go"
  refine al_l S fun bm H4 S => ?_
  walk_at "go"
  refine stf_S S.p3 List.mem_cons_self (by show 1 < 1000; decide) fun H5 S => ?_
  walk_at "w"
  have hT : TP H5 ([] ++ [.ref T]) ([] ++ [((0 : Nat), (1 : Nat))]) := TP.nil.snoc (p := (0, 1)) (Star.getF (o := .tup [nV 0, nV 1]) (S.fr (by walk_at "fr")))
  have hf : Full [(0, 0), (1, 512)] (2 * 1) ∧ 1 ≤ 1 := by
    have := full2
    rw [bhd2] at this
    exact ⟨this, Nat.le_refl _⟩
  exact k _ (tour_iff.mpr ⟨dx, x, bm, [.ref T], hf, (S.tadd hT).fr (Fr.c1 (Fr.c3 (Fr.c1 (Fr.c0 (by walk_at "fr")))))⟩)
theorem Tour_many_ok (S : Star H (tour K t r n tm :: F)) (k : Q (nV n) H) : sp_Tour_many K [.ref t] H Q E := by
  obtain ⟨dx, o, bm, vs, _, S⟩ := tour_iff.mp S
  have hv := S.p3.tp.1
  rw [mks_len] at hv
  refine sp_Tour_many_i ?_
  walk_at "go"
  rw [hv]
  exact k
theorem Tour_need_ok (S : Star H (Tour_o K t dx o bm :: pt bm (.lst vs) :: F)) (hv : vs.length = n) (hm : m < n) (k : Q .non H) : sp_Tour_need_make K [.ref t, nV m] H Q E := by
  refine sp_Tour_need_make_i ?_
  walk_at "go"
  have S1 : Star H (dat (nV m) (.int (m : Nat)) :: F) := S.fr (by walk_at "fr")
  refine is_whole_ok S1 ?_
  rw [wholeD_int, decide_eq_true (by omega), decide_eq_true (by omega)]
  walk_at "go"
  exact k
theorem Tour_need_bad {v : V} {d : PyData} (S : Star H (dat v d :: Tour_o K t dx o bm :: pt bm (.lst vs) :: F)) (hv : vs.length = n) (hb : wholeD d 0 ((n : Nat) - 1 : Int) = false) (k : ∀ H' e, Star H' (pt e (.xd [("found", v)]) :: dat v d :: Tour_o K t dx o bm :: pt bm (.lst vs) :: F) → E (.ref (He.ga K "NoMake")) (some e) H') : sp_Tour_need_make K [.ref t, v] H Q E := by
  refine sp_Tour_need_make_i ?_
  walk_at "go"
  refine is_whole_ok S ?_
  rw [hv, hb]
  walk_at "go"
  refine nwx_S (fs' := [("found", v)]) S fun e H1 S => ?_
  exact k _ _ S
theorem Tour_marks_of_ok (S : Star H (tour K t r n tm :: F)) (hm : m < n) (k : ∀ T, H T = some (.tup [nV (2 * m), nV (2 * m + 1)]) → Q (.ref T) H) : sp_Tour_marks_of K [.ref t, nV m] H Q E := by
  obtain ⟨dx, o, bm, vs, _, S⟩ := tour_iff.mp S
  have hT := S.p3.tp
  have hv := hT.1
  rw [mks_len] at hv
  obtain ⟨T, h1, h2⟩ := hT.2 m _ (mks_at hm)
  refine sp_Tour_marks_of_i ?_
  walk_at "go"
  refine Tour_need_ok (S.fr (by walk_at "fr")) hv hm ?_
  walk_at "go"
  exact ix_l S.p2.get (atI_n h1) (k T h2)
theorem Tour_grow_ok (S : Star H (tour K t r n tm :: F)) (hi : r[i]? = some (2 * m, lb)) (hm : m < n) (hn : n < 64) (k : ∀ H', Star H' (tour K t (grw r (2 * n) i) (n + 1) (tm + grwN r (2 * n) i) :: F) → Q (nV n) H') : sp_Tour_grow K [.ref t, nV m] H Q E := by
  obtain ⟨dx, o, bm, vs, ⟨hf, h1⟩, S⟩ := tour_iff.mp S
  have oo := ord_ok S.p1
  have hT := S.p3.tp
  have hv := hT.1
  rw [mks_len] at hv
  have hil := (List.getElem?_eq_some_iff.mp hi).1
  have hrl := hf.len
  obtain ⟨T, h2, h3⟩ := hT.2 m _ (mks_at hm)
  refine sp_Tour_grow_i ?_
  walk_at "go"
  refine Tour_need_ok (S.fr (by walk_at "fr")) hv hm ?_
  walk_at "go"
  rw [hv]
  refine brd (fun hc => absurd hc (by omega)) (fun _ => ?_)
  walk_at "go"
  refine dsp_o S.p1 (by decide +kernel) ?_
  walk_at "go"
  refine ix_l S.p2.get (atI_n h2) ?_
  walk_at "go"
  refine ix_t h3 (show atI [nV (2 * m), nV (2 * m + 1)] 0 = some (nV (2 * m)) from rfl) ?_
  refine Order_behind_ok (t := o) (r := r) (g := 2 * n) (tm := tm) (S.fr (by walk_at "fr")) hi (by omega) (by omega) fun H1 S => ?_
  walk_at "go"
  refine dsp_o S (by decide +kernel) ?_
  walk_at "go"
  refine Order_behind_ok (t := o) S (bhd_new hil) (by rw [bhd_len hil]; omega) (by omega) fun H2 S => ?_
  walk_at "go"
  refine al_t S fun T2 H3 S => ?_
  walk_at "go"
  refine app_S (a := bm) (xs := vs) (S.fr (by walk_at "fr")) (by omega) fun H4 S => ?_
  walk_at "go"
  rw [List.length_append, List.length_singleton, hv]
  have e : ((n + 1 : Nat) : Int) - 1 = ((n : Nat) : Int) := by omega
  rw [e]
  have hT2 : TP H4 (vs ++ [.ref T2]) (mks (n + 1)) := by
    rw [mks_succ]
    exact (Star.tp (vs := vs) (r := mks n) (S.fr (by walk_at "fr"))).snoc (p := (2 * n, 2 * n + 1)) (Star.getF (o := .tup [nV (2 * n), nV (2 * n + 1)]) (S.fr (by walk_at "fr")))
  have ob := bhd_ok oo hil (by omega)
  have hf2 : Full (grw r (2 * n) i) (2 * (n + 1)) := (hf.bhd oo hil).bhd ob (by rw [bhd_len hil]; omega)
  have e2 : 2 * (n + 1) = 2 * n + 1 + 1 := by omega
  have e3 : tm + grwN r (2 * n) i = tm + anewN r i + anewN (bhd r (2 * n) i) (i + 1) := by
    unfold grwN
    omega
  refine k _ (tour_iff.mpr ⟨dx, o, bm, vs ++ [.ref T2], ⟨hf2, by omega⟩, ?_⟩)
  rw [e2, e3]
  exact (S.tadd hT2).fr (by walk_at "fr")
theorem Tour_order_ok (S : Star H (tour K t r n tm :: F)) (k : ∀ H' u, Star H' (ord K u r (2 * n) tm :: tour K t r n tm :: F) → Q (.ref u) H') : sp_Tour_order K [.ref t] H Q E := by
  obtain ⟨dx, o, bm, vs, hf, S⟩ := tour_iff.mp S
  refine sp_Tour_order_i ?_
  walk_at "go"
  refine dsp_o S.p1 (by decide +kernel) ?_
  walk_at "go"
  refine Order_copied_ok S.p1 fun H1 u S => ?_
  exact k _ u (Star.p1 (tour_iff.mpr ⟨dx, o, bm, vs, hf, S.fr (by walk_at "fr")⟩))
theorem Tour_copied_ok (S : Star H (tour K t r n tm :: F)) (k : ∀ H' u, Star H' (tour K u r n tm :: tour K t r n tm :: F) → Q (.ref u) H') : sp_Tour_copied K [.ref t] H Q E := by
  obtain ⟨dx, o, bm, vs, hf, S⟩ := tour_iff.mp S
  refine sp_Tour_copied_i ?_
  walk_at "w"
  intro x dx1 hx hd hne
  refine Tour_init_ok (S.mkI hx hd hne) fun H1 S => ?_
  obtain ⟨dx2, o2, bm2, vs2, _, S⟩ := tour_iff.mp S
  walk_at "go"
  refine dsp_o (t := o) (r := r) (g := 2 * n) (tm := tm) (S.fr (by walk_at "fr")) (by decide +kernel) ?_
  walk_at "go"
  refine Order_copied_ok (t := o) (r := r) (g := 2 * n) (tm := tm) (S.fr (by walk_at "fr")) fun H2 u S => ?_
  walk_at "go"
  refine stf_S (a := x) (C := He.ga K "Tour") (dx := dx2) (fs := [("placed", .ref o2), ("both_marks", .ref bm2)]) (S.fr (by walk_at "fr")) List.mem_cons_self (by show 2 < 1000; decide) fun H1 S => ?_
  walk_at "go"
  refine list_S (a := bm) (xs := vs) S (S.fr (qs := [pt bm (.lst vs)]) (by walk_at "fr")).get fun bm3 H3 S => ?_
  walk_at "go"
  refine stf_S S.p1 List.mem_cons_self (by show 2 < 1000; decide) fun H1 S => ?_
  walk_at "w"
  have hT := Star.tp (vs := vs) (r := mks n) (S.fr (by walk_at "fr"))
  have S2 : Star H1 (tour K x r n tm :: Tour_o K t dx o bm :: ord K o r (2 * n) tm :: pt bm (.lst vs) :: tps vs (mks n) :: F) := tour_iff.mpr ⟨dx2, u, bm3, vs, hf, (S.tadd hT).fr (Fr.c1 (Fr.c2 (Fr.c1 (Fr.c0 (by walk_at "fr")))))⟩
  exact k _ _ (Star.p1 (tour_iff.mpr ⟨dx, o, bm, vs, hf, S2.fr (by walk_at "fr")⟩))
/-- the makes by the marks of one side -/
def side (s : Nat) (r : List (Nat × Nat)) : List Nat := ((r.map (·.1)).filter fun m => decide (m % 2 = s)).map (· / 2)
def ownr (n s : Nat) : List (Nat × Nat) := (List.range n).map fun k => (2 * k + s, k)
theorem ownr_nd (n s : Nat) : ((ownr n s).map (·.1)).Nodup := by
  have e : (ownr n s).map (·.1) = (List.range n).map fun k => 2 * k + s := by
    unfold ownr
    rw [List.map_map]
    rfl
  rw [e]
  exact List.nodup_range.map _ fun a b hab z => hab (by have : 2 * a + s = 2 * b + s := z; omega)
theorem ownr_lab (n s : Nat) : Lab (labK (ownr n s)) (ownr n s) := lab_of (ownr_nd n s)
theorem ownr_yes {k s : Nat} (hk : k < n) : valV (labK (ownr n s)) (.inl ((2 * k + s : Nat) : Int)) = some (nV k) := (ownr_lab n s).yes (2 * k + s, k) (List.mem_map.mpr ⟨k, List.mem_range.mpr hk, rfl⟩)
theorem ownr_no {m s : Nat} (hs : s < 2) (h : m % 2 ≠ s) : valV (labK (ownr n s)) (.inl ((m : Nat) : Int)) = none := (ownr_lab n s).no _ fun p hp e => by
  obtain ⟨k, _, rfl⟩ := List.mem_map.mp hp
  have : 2 * k + s = m := by omega
  omega
theorem Tour_by_ok {s : Nat} (S : Star H (tour K t r n tm :: F)) (hs : s < 2) (hn : n ≤ 64) (k : ∀ H' f, Star H' (pt f (.lst ((side s r).map nV)) :: tour K t r n tm :: F) → Q (.ref f) H') : sp_Tour_by_marks K [.ref t, nV s] H Q E := by
  obtain ⟨dx, o, bm, vs, ⟨hf, h1⟩, S⟩ := tour_iff.mp S
  have oo := ord_ok S.p1
  have hv := S.p3.tp.1
  rw [mks_len] at hv
  refine sp_Tour_by_marks_i ?_
  walk_at "go"
  refine en_l S.p2.get ?_
  intro D hD
  refine LoopC.it walk_enum (fun j H => ∃ acc, Star H (pt D (.lst acc) :: tps acc ((ownr n s).take j) :: Tour_o K t dx o bm :: ord K o r (2 * n) tm :: pt bm (.lst vs) :: tps vs (mks n) :: F)) ⟨[], Star.p1 ((S.newL (ys := []) hD).tadd (vs := []) (r := (ownr n s).take 0) TP.nil)⟩ (fun j H _ ⟨acc, z⟩ => .of z.p4.get) ?_ ?_
  · rintro j v H1 H2 hj ⟨acc, S⟩ y
    obtain ⟨T0, x, z, rfl, e2, e3, S⟩ := pair_S S y
    cases e2
    have hj' : j < n := by omega
    obtain ⟨T1, h3, h4⟩ := (S.p6.tp).2 j _ (mks_at hj')
    have e4 : z = .ref T1 := by
      have e5 : vs[j]? = some z := e3
      rw [e5] at h3
      exact Option.some.inj h3
    subst e4
    unfold gU
    refine unp_t S.getF rfl ⟨rfl, ?_⟩
    unfold tYes
    show (if true = true then _ else _)
    rw [if_pos rfl]
    walk_at "go"
    refine ix_t h4 (v := nV (2 * j + s)) (atI_n ?_) ?_
    · match s, hs with
      | 0, _ => rfl
      | 1, _ => rfl
    walk_at "go"
    refine al_t S fun T2 H3 S => ?_
    have e7 : (ownr n s).take (j + 1) = (ownr n s).take j ++ [(2 * j + s, j)] := by
      rw [List.take_succ]
      unfold ownr
      rw [List.getElem?_map, List.getElem?_range hj']
      rfl
    have hal := (S.p3.tp).1
    rw [List.length_take] at hal
    refine ⟨acc, S.p2.get, by rw [sizeLine_eq]; omega, acc ++ [.ref T2], ?_⟩
    have S3 : Star (upd H3 D (.lst (acc ++ [.ref T2]))) (pt D (.lst (acc ++ [.ref T2])) :: fx T2 (.tup [nV (2 * j + s), nV j]) :: tps acc ((ownr n s).take j) :: Tour_o K t dx o bm :: ord K o r (2 * n) tm :: pt bm (.lst vs) :: tps vs (mks n) :: F) := Star.updL (S.fr (by walk_at "fr"))
    have S4 := S3.tadd ((S3.p2.tp).snoc (p := (2 * j + s, j)) S3.p1.getF)
    rw [← e7] at S4
    exact S4.fr (Fr.c1 (Fr.c0 (by walk_at "fr")))
  · rintro H1 ⟨acc, S⟩
    have hol : (ownr n s).length = n := by
      unfold ownr
      rw [List.length_map, List.length_range]
    rw [show (ownr n s).take vs.length = ownr n s from List.take_of_length_le (by omega)] at S
    obtain ⟨ps, eps, hps⟩ : ∃ ps : List Addr, acc = ps.map V.ref ∧ Paired (fun p kv => SqT K H1 p [kV kv.1, kv.2]) ps (labK (ownr n s)) := tps_paired S.p1.tp
    walk_at "go"
    refine dctp_S (a := D) (ps := ps) (kvs := labK (ownr n s)) S (by rw [← eps]; exact S.get) hps fun d H2 S => ?_
    have em : mergeK [] (labK (ownr n s)) = labK (ownr n s) := merge_lab (q := []) (by rw [List.nil_append]; exact ownr_nd n s)
    rw [em] at S
    have S : Star H2 (ord K o r (2 * n) tm :: pt d (.dK (labK (ownr n s))) :: Tour_o K t dx o bm :: pt bm (.lst vs) :: tps vs (mks n) :: F) := S.fr (Fr.c4 (Fr.c0 (Fr.c2 (Fr.c2 (Fr.c2 (by walk_at "fr"))))))
    walk_at "go"
    refine dsp_o S (by decide +kernel) ?_
    walk_at "go"
    refine Order_marks_ok S fun H3 f S => ?_
    rw [mkV_eq] at S
    have hrl := hf.len
    walk_at "w"
    refine it_l S.get ?_
    intro D2 hD2
    refine lc_nats (K := K) (xs := r.map (·.1)) _ (fun m => decide (m % 2 = s)) (· / 2) S (by rw [List.length_map]; omega) hD2 (fun x H Q q => q) (fun x => rfl) ?_ ?_ fun H4 S => ?_
    · intro m H D3 acc R hm S q
      obtain ⟨p, hp, rfl⟩ := List.mem_map.mp hm
      have hpl := oo.lt p hp
      refine cutT (decide (p.1 % 2 = s)) H q fun R h => ?_
      walk_at "go"
      refine in_di (S.p3.get) ?_
      by_cases z : p.1 % 2 = s
      · rw [decide_eq_true z] at h
        have e : p.1 = 2 * (p.1 / 2) + s := by omega
        have := ownr_yes (n := n) (s := s) (k := p.1 / 2) (by omega)
        rw [← e] at this
        rw [this]
        exact h
      · rw [decide_eq_false z] at h
        rw [ownr_no hs z]
        exact h
    · intro m H D3 acc R hm hp S q
      obtain ⟨p, hp', rfl⟩ := List.mem_map.mp hm
      have hpl := oo.lt p hp'
      have z : p.1 % 2 = s := of_decide_eq_true hp
      have e : p.1 = 2 * (p.1 / 2) + s := by omega
      have hy := ownr_yes (n := n) (s := s) (k := p.1 / 2) (by omega)
      rw [← e] at hy
      walk_at "go"
      exact ixd_i S.p3.get hy q
    · have S5 : Star H4 (Tour_o K t dx o bm :: ord K o r (2 * n) tm :: pt bm (.lst vs) :: tps vs (mks n) :: pt D2 (.lst ((side s r).map nV)) :: F) := S.fr (by walk_at "fr")
      exact k _ _ (Star.p1 (tour_iff.mpr ⟨dx, o, bm, vs, ⟨hf, h1⟩, S5⟩))
theorem Tour_coming_ok (S : Star H (tour K t r n tm :: F)) (hn : n ≤ 64) (k : ∀ H' f, Star H' (pt f (.lst ((side 0 r).map nV)) :: tour K t r n tm :: F) → Q (.ref f) H') : sp_Tour_coming K [.ref t] H Q E := by
  refine sp_Tour_coming_i ?_
  walk_at "go"
  refine dsp_t S (by decide +kernel) ?_
  walk_at "go"
  exact Tour_by_ok (s := 0) S (by decide) hn k
theorem Tour_leaving_ok (S : Star H (tour K t r n tm :: F)) (hn : n ≤ 64) (k : ∀ H' f, Star H' (pt f (.lst ((side 1 r).map nV)) :: tour K t r n tm :: F) → Q (.ref f) H') : sp_Tour_leaving K [.ref t] H Q E := by
  refine sp_Tour_leaving_i ?_
  walk_at "go"
  refine dsp_t S (by decide +kernel) ?_
  walk_at "go"
  exact Tour_by_ok (s := 1) S (by decide) hn k
end
end Lawk16


namespace Lawk16
open PySem PySem.Spec PyProof.Rows L2 MK
def mdk2 (rr : Addr) (tm : Nat) : List (Key × V) := [(.inr "row", .ref rr), (.inr "times", nV tm)]
section
variable {K : PySem.W.Frag} {F G : List SP} {H : Hp} {Q : VK} {E : XK} {t p q rr f u : Addr} {r : List (Nat × Nat)} {g tm n m lb i : Nat} {vs ws : List V}
theorem md2_row (rr : Addr) (tm : Nat) : valV (mdk2 rr tm) (.inr "row") = some (.ref rr) := rfl
theorem md2_times (rr : Addr) (tm : Nat) : valV (mdk2 rr tm) (.inr "times") = some (nV tm) := rfl
theorem md2_putt (rr : Addr) (tm : Nat) : putK (mdk2 rr tm) (.inr "times") (.int ((tm : Nat) + 1 : Int)) = mdk2 rr (tm + 1) := rfl
theorem md2_putr (rr rn : Addr) (tm : Nat) : putK (mdk2 rr tm) (.inr "row") (.ref rn) = mdk2 rn tm := rfl
theorem tups_ne (S : Star H (pt f (.lst ws) :: tps ws r :: F)) (S2 : Star H (pt u (.lst vs) :: tps vs r :: G)) (hl : r.length ≤ 300) (hx : ∀ p ∈ r, p.1 ≤ 100000 ∧ p.2 ≤ 100000) (k : Q (.bl false) H) : neX K (.ref f) (.ref u) H Q := by
  have Sa : Star H (dat (.ref f) (.list (r.map tupD)) :: []) := (tps_dats S.p1.tp S).fr (Fr.lst (xs := ws) (Fr.c1 (Fr.c0 (Fr.nil _))))
  have Sb : Star H (dat (.ref u) (.list (r.map tupD)) :: []) := (tps_dats S2.p1.tp S2).fr (Fr.lst (xs := vs) (Fr.c1 (Fr.c0 (Fr.nil _))))
  have hp : Pl (.list (r.map tupD)) := pl_l fun d hd => by
    obtain ⟨x, _, rfl⟩ := List.mem_map.mp hd
    rfl
  have hs := (tups_ni hl hx).shd hp
  refine ne_d (Sa.dp hp.nd) (Sb.dp hp.nd) hs hs ?_
  rw [PySem.SeqAt.eqv_refl _ hp]
  exact k
theorem L_end_ok (S : Star H (pt rr (.lst vs) :: tps vs r :: F)) (k : Q (nV (lbl r (i + 1))) H) : sp_L_end K [.ref rr, nV i] H Q E := by
  have h := S.p1.tp
  have hl := h.1
  refine sp_L_end_i ?_
  walk_at "go"
  refine brd (fun hc => ?_) (fun hc => ?_)
  · have hi : i + 1 < r.length := by omega
    obtain ⟨T, h1, h2⟩ := h.2 (i + 1) _ (List.getElem?_eq_getElem hi)
    have e2 : (i : Int) + 1 = ((i + 1 : Nat) : Int) := by omega
    walk_at "go"
    rw [e2]
    refine ix_l S.get (atI_n h1) ?_
    walk_at "go"
    refine ix_t h2 (show atI [nV r[i + 1].1, nV r[i + 1].2] 1 = some (nV r[i + 1].2) from rfl) ?_
    rw [lbl_at (List.getElem?_eq_getElem hi)] at k
    exact k
  · walk_at "go"
    rw [lbl_out (by omega)] at k
    exact k
theorem L_lay_ok (S : Star H (pt p (.dK (mdk2 rr tm)) :: pt rr (.lst vs) :: tps vs r :: F)) (o : OrdOk r g) (hg : r.length = g) (hi : r[i]? = some (m, lb))
    (k : ∀ H' rn ws, Star H' (pt p (.dK (mdk2 rn (tm + anewN r i))) :: pt rn (.lst ws) :: tps ws (bhd r g i) :: pt rr (.lst vs) :: tps vs r :: F) → Q (nV g) H') : sp_L_lay K [.ref p, nV m] H Q E := by
  have h := S.p2.tp
  have hvl := h.1
  have hil := (List.getElem?_eq_some_iff.mp hi).1
  have h0 := o.ne
  have h200 := o.len
  obtain ⟨T, h1, h2⟩ := h.2 i _ hi
  refine sp_L_lay_i ?_
  walk_at "go"
  refine ixd_s S.get (md2_row rr tm) ?_
  walk_at "go"
  refine it_l S.p1.get ?_
  intro D0 hD0
  refine LoopC.it (walk_list (a := rr) (xs := vs)) (fun j H => Star H (pt D0 (.lst ((r.take j).map mkV)) :: pt p (.dK (mdk2 rr tm)) :: pt rr (.lst vs) :: tps vs r :: F)) (S.newL hD0) (fun j H _ z => .of z.p2.get) ?_ ?_
  · rintro j v H1 H2 hj S ⟨rfl, hv⟩
    have hj' : j < r.length := by omega
    obtain ⟨T, h1, h2⟩ := S.p3.tp.2 j _ (List.getElem?_eq_getElem hj')
    rw [hv] at h1
    cases h1
    unfold gU
    refine unp_t h2 rfl ⟨rfl, ?_⟩
    unfold tYes
    show (if true = true then _ else _)
    rw [if_pos rfl]
    walk_at "w"
    refine ⟨_, S.get, by rw [sizeLine_eq, List.length_map, List.length_take]; omega, ?_⟩
    have e7 : (r.take (j + 1)).map mkV = (r.take j).map mkV ++ [nV r[j].1] := by
      rw [List.take_succ, List.getElem?_eq_getElem hj', List.map_append]
      rfl
    rw [e7]
    exact S.updL
  intro H1 S
  rw [show r.take vs.length = r by rw [hvl, List.take_length]] at S
  obtain ⟨T, h1, h2⟩ := S.p3.tp.2 i _ hi
  walk_at "go"
  rw [mkV_eq] at S
  refine idx_S (f := D0) (xs := r.map (·.1)) (x := m) (j := i) S (by rw [List.getElem?_map, hi]; rfl) (mk_nd o hi) ?_
  have S : Star H1 (pt p (.dK (mdk2 rr tm)) :: pt rr (.lst vs) :: tps vs r :: F) := S.fr (by walk_at "fr")
  dsimp only
  refine seq_cut (fun σ H => ∃ (r1 : Addr) (ws : List V) (tm' : Nat) (X : SP) (y4 y5 y6 y7 : Option V), tm' = tm + anewN r i ∧ Star H (pt p (.dK (mdk2 rr tm')) :: pt r1 (.lst ws) :: tps ws (ahd r i) :: X :: F) ∧ (∀ F', Fr (pt r1 (.lst ws) :: tps ws (ahd r i) :: X :: F') (pt rr (.lst vs) :: tps vs r :: F')) ∧ σ = [some (.ref p), some (nV m), some (.ref r1), some (nV i), y4, y5, y6, y7]) (fun kk => ?_) ?_
  · walk_at "go"
    refine L_end_ok (rr := rr) (vs := vs) (r := r) (S.fr (by walk_at "fr")) ?_
    walk_at "go"
    refine ix_l S.p1.get (atI_n h1) ?_
    walk_at "go"
    refine ix_t h2 (show atI [nV m, nV lb] 1 = some (nV lb) from rfl) ?_
    have hlt := lbl_lt o hil
    rw [lbl_at hi] at hlt
    have hlt : lb < lbl r (i + 1) := hlt
    walk_at "go"
    refine brd (fun hc => ?_) (fun hc => ?_)
    · have hlt2 : lbl r (i + 1) - lbl r i < 2 := by
        rw [lbl_at hi]
        show lbl r (i + 1) - lb < 2
        omega
      have hv3 : 0 < vs.length ∧ vs.length ≤ 200 := by omega
      walk_at "go"
      rw [hvl]
      have e1 : (1024 : Int) / ((r.length : Nat) : Int) = ((1024 / r.length : Nat) : Int) := by rw [Int.natCast_ediv]; rfl
      rw [e1]
      obtain ⟨st, est⟩ : ∃ st, st = 1024 / r.length := ⟨_, rfl⟩
      rw [← est]
      have hst : st ≤ 1024 := by rw [est]; exact Nat.div_le_self _ _
      refine en_l S.p1.get ?_
      intro D hD
      refine LoopC.it walk_enum (fun j H => ∃ acc, Star H (pt D (.lst acc) :: tps acc ((relab r).take j) :: pt p (.dK (mdk2 rr tm)) :: pt rr (.lst vs) :: tps vs r :: F)) ⟨[], by
        have S2 := S.newL (ys := []) hD
        exact (Star.p1 (S2.tadd (vs := []) (r := (relab r).take 0) TP.nil))⟩ (fun j H _ ⟨acc, z⟩ => .of z.p3.get) ?_ ?_
      · rintro j v H1 H2 hj ⟨acc, S⟩ y
        obtain ⟨T0, x, z, rfl, e2, e3, S⟩ := pair_S S y
        cases e2
        have hj' : j < r.length := by omega
        obtain ⟨T1, h3, h4⟩ := (S.p5.tp).2 j _ (List.getElem?_eq_getElem hj')
        have e4 : z = .ref T1 := by
          have e5 : vs[j]? = some z := e3
          rw [e5] at h3
          exact Option.some.inj h3
        subst e4
        unfold gUN
        refine unq_t S.getF rfl (gs_c ?_)
        refine gs_c ?_
        unfold gU
        refine unp_t h4 rfl (gs_n ?_)
        refine ⟨rfl, ?_⟩
        unfold tYes
        show (if true = true then _ else _)
        rw [if_pos rfl]
        walk_at "go"
        refine al_t S fun T2 H3 S => ?_
        have e6 : (j : Int) * (st : Int) = ((j * st : Nat) : Int) := by rw [Int.natCast_mul]
        rw [e6] at S
        have hacc := S.p3.tp
        have e7 : (relab r).take (j + 1) = (relab r).take j ++ [(r[j].1, j * st)] := by
          rw [List.take_succ, relab_at, List.getElem?_eq_getElem hj', est]
          rfl
        have hal := hacc.1
        rw [List.length_take, relab_len] at hal
        refine ⟨acc, S.p2.get, by rw [sizeLine_eq]; omega, acc ++ [.ref T2], ?_⟩
        have S3 : Star (upd H3 D (.lst (acc ++ [.ref T2]))) (pt D (.lst (acc ++ [.ref T2])) :: fx T2 (.tup [nV r[j].1, nV (j * st)]) :: tps acc ((relab r).take j) :: pt p (.dK (mdk2 rr tm)) :: pt rr (.lst vs) :: tps vs r :: F) := Star.updL (S.fr (by walk_at "fr"))
        have S4 := S3.tadd ((S3.p2.tp).snoc (p := (r[j].1, j * st)) S3.p1.getF)
        rw [← e7] at S4
        exact S4.fr (by walk_at "fr")
      · rintro H1 ⟨acc, S⟩
        rw [show (relab r).take vs.length = relab r by rw [hvl, ← relab_len (r := r), List.take_length]] at S
        walk_at "go"
        refine ixd_s (a := p) (S.fr (qs := [pt p (.dK (mdk2 rr tm))]) (by walk_at "fr")).get (md2_times rr tm) ?_
        walk_at "go"
        refine setd_s (a := p) (kvs := mdk2 rr tm) (S.fr (by walk_at "fr")) (show 2 < 16777216 by decide) fun H2 S => ?_
        rw [md2_putt] at S
        walk_at "w"
        refine kk _ _ ⟨D, acc, tm + 1, sep [pt rr (.lst vs), tps vs r], _, _, _, _, ?_, ?_, fun F' H S => ?_, rfl⟩
        · unfold anewN
          rw [if_pos hlt2]
        · unfold ahd
          rw [if_pos hlt2]
          have S : Star H2 (pt rr (.lst vs) :: tps vs r :: pt p (.dK (mdk2 rr (tm + 1))) :: pt D (.lst acc) :: tps acc (relab r) :: F) := S.fr (by walk_at "fr")
          exact (Star.sep_iff.mpr S).fr (by walk_at "fr")
        · exact Star.sep_iff.mp (S.fr (qs := sep [pt rr (.lst vs), tps vs r] :: F') (by walk_at "fr"))
    · have hlt2 : ¬ lbl r (i + 1) - lbl r i < 2 := by
        rw [lbl_at hi]
        show ¬ lbl r (i + 1) - lb < 2
        omega
      walk_at "w"
      refine kk _ _ ⟨rr, vs, tm, pr True, _, _, _, _, ?_, ?_, fun F' H S => ?_, rfl⟩
      · unfold anewN
        rw [if_neg hlt2]
        rfl
      · unfold ahd
        rw [if_neg hlt2]
        have S : Star H1 (pr True :: pt p (.dK (mdk2 rr tm)) :: pt rr (.lst vs) :: tps vs r :: F) := Star.pr_iff.mpr ⟨True.intro, S⟩
        exact S.fr (by walk_at "fr")
      · unfold ahd at S
        rw [if_neg hlt2] at S
        exact S.fr (by walk_at "fr")
  · rintro σ H1 ⟨r1, ws, tm', X, y4, y5, y6, y7, etm, S, hX, rfl⟩
    rw [← etm] at k
    obtain ⟨lb', hi'⟩ := ahd_mark (j := i) hi
    have hal := ahd_len (r := r) (i := i)
    have h' := S.p2.tp
    have hwl := h'.1
    obtain ⟨T', h3, h4⟩ := h'.2 i _ hi'
    have e2 : (i : Int) + 1 = ((i + 1 : Nat) : Int) := by omega
    walk_at "go"
    refine ⟨_, rfl, ?_⟩
    walk_at "w"
    rw [e2]
    refine sl_S S S.p1.get fun f1 H2 S => ?_
    rw [cut_to] at S
    walk_at "go"
    refine ix_l (a := r1) (xs := ws) (S.fr (qs := [pt r1 (.lst ws)]) (by walk_at "fr")).get (atI_n h3) ?_
    have h4' : H2 T' = some (.tup [nV m, nV lb']) := by
      obtain ⟨T'', h5, h6⟩ := (Star.tp (vs := ws) (r := ahd r i) (S.fr (by walk_at "fr"))).2 i _ hi'
      rw [h3] at h5
      cases h5
      exact h6
    walk_at "go"
    refine ix_t h4' (show atI [nV m, nV lb'] 1 = some (nV lb') from rfl) ?_
    walk_at "go"
    refine L_end_ok (rr := r1) (vs := ws) (r := ahd r i) (S.fr (by walk_at "fr")) ?_
    have e1 : (((lb' : Nat) : Int) + ((lbl (ahd r i) (i + 1) : Nat) : Int)) / 2 = ((newL r i : Nat) : Int) := by
      unfold newL
      rw [lbl_at hi', Int.natCast_ediv, Int.natCast_add]
      rfl
    walk_at "go"
    rw [e1, hwl, hal, hg]
    refine al_t S fun T2 H3 S => ?_
    walk_at "go"
    refine al_l S fun f2 H4 S => ?_
    walk_at "go"
    refine add_S S (S.fr (qs := [pt f1 (.lst (ws.take (i + 1)))]) (by walk_at "fr")).get S.get (by rw [List.length_take]; show min (i + 1) ws.length + 1 ≤ 16777216; omega) fun f3 H5 S => ?_
    walk_at "go"
    refine ⟨_, rfl, ?_⟩
    walk_at "w"
    rw [e2]
    refine sl_S S (S.fr (qs := [pt r1 (.lst ws)]) (by walk_at "fr")).get fun f4 H6 S => ?_
    rw [cut_from] at S
    walk_at "w"
    refine add_S S S.p1.get S.get (by rw [List.length_append, List.length_take, List.length_drop]; show min (i + 1) ws.length + 1 + (ws.length - (i + 1)) ≤ 16777216; omega) fun f5 H7 S => ?_
    walk_at "go"
    refine setd_s (a := p) (kvs := mdk2 rr tm') (S.fr (by walk_at "fr")) (show 2 < 16777216 by decide) fun H8 S => ?_
    rw [md2_putr] at S
    walk_at "go"
    rw [hwl, hal, hg]
    have S : Star H8 (pt r1 (.lst ws) :: tps ws (ahd r i) :: X :: fx T2 (.tup [nV g, nV (newL r i)]) :: pt p (.dK (mdk2 f5 tm')) :: pt f5 (.lst (ws.take (i + 1) ++ [.ref T2] ++ ws.drop (i + 1))) :: F) := S.fr (by walk_at "fr")
    have hb : TP H8 (ws.take (i + 1) ++ [.ref T2] ++ ws.drop (i + 1)) (bhd r g i) := (TP.snoc (p := (g, newL r i)) (S.p1.tp.take (i + 1)) S.p3.getF).app (S.p1.tp.drop (i + 1))
    have S2 := (hX _ _ S).tadd hb
    exact k _ _ _ (S2.fr (Fr.c4 (Fr.c4 (Fr.c0 (by walk_at "fr")))))
end
end Lawk16

namespace Lawk16
open PySem PySem.Spec PyProof.Rows L2 MK
section
variable {K : PySem.W.Frag} {F G : List SP} {H : Hp} {Q : VK} {E : XK} {t p q rr f u : Addr} {r : List (Nat × Nat)} {g tm n m lb i : Nat} {vs ws : List V}
theorem side_small {s : Nat} (h : (r.map (·.1)).length ≤ 1000 ∧ ∀ x ∈ r.map (·.1), x ≤ 1000) : (side s r).length ≤ 1000 ∧ ∀ x ∈ side s r, x ≤ 1000 := by
  unfold side
  refine ⟨?_, fun x hx => ?_⟩
  · rw [List.length_map]
    exact Nat.le_trans (List.length_filter_le _ _) h.1
  · obtain ⟨y, hy, rfl⟩ := List.mem_map.mp hx
    have := h.2 y (List.mem_filter.mp hy).1
    omega
theorem row_small (o : OrdOk r g) (hg : g ≤ 100000) : r.length ≤ 300 ∧ ∀ p ∈ r, p.1 ≤ 100000 ∧ p.2 ≤ 100000 := by
  have h1 := o.len
  refine ⟨by omega, fun p hp => ?_⟩
  have h2 := o.lt p hp
  have h3 := o.top p hp
  exact ⟨by omega, by omega⟩
theorem ord_iso {tbl : List (Addr × Bool)} {b : Bool} (S : Star H (ord K t r g tm :: F)) (hm : (He.ga K "Order", b) ∈ tbl) (q : Q (.bl b) H) : isoX tbl (.ref t) H Q := by
  obtain ⟨dx, s, l, kvs, _, S⟩ := ord_iff.mp S
  exact iso_i S.get hm q
/-- the makes of one side, read off the row -/
theorem side_ok {s : Nat} {D : Addr} {σ : L2.St} {te : TE} {tt : TT} {gg : TG} {ws' : List Nat} (gx : V → L2.St) (S : Star H (pt f (.lst ((r.map (·.1)).map nV)) :: F)) (hz : r.length ≤ 1000) (hD : H D = none)
    (hg : ∀ x H Q, Q (gx x) H → gg x (wipe σ ws') H Q) (hw : ∀ x, wipe (gx x) ws' = wipe σ ws')
    (ht : ∀ (x : Nat) H (R : Bool → Hp → Prop), R (decide (((x : Nat) : Int) % 2 = (s : Nat))) H → tt (gx (nV x)) H R)
    (he : ∀ (x : Nat) H (R : VK), R (.int ((x : Nat) / 2 : Int)) H → te (gx (nV x)) H R)
    (k : ∀ H1, Star H1 (pt D (.lst ((side s r).map nV)) :: pt f (.lst ((r.map (·.1)).map nV)) :: F) → Q (.ref D) H1) : LoopC (Itl K f) gg tt te ws' σ D H Q := by
  refine lc_nats (K := K) (xs := r.map (·.1)) gx (fun m => decide (m % 2 = s)) (· / 2) S (by rw [List.length_map]; omega) hD hg hw ?_ ?_ k
  · intro x H D acc R _ _ q
    refine ht x H R ?_
    have e : decide (((x : Nat) : Int) % 2 = (s : Nat)) = decide (x % 2 = s) := by
      by_cases z : x % 2 = s
      · rw [decide_eq_true z, decide_eq_true (by omega)]
      · rw [decide_eq_false z, decide_eq_false (by omega)]
    rw [e]
    exact q
  · intro x H D acc R _ _ _ q
    refine he x H R ?_
    have e : (x : Int) / 2 = ((x / 2 : Nat) : Int) := by omega
    rw [e]
    exact q
theorem L_lists_ok (S : Star H (tour K t r n tm :: pt p (.dK (mdk2 rr tm)) :: pt rr (.lst vs) :: tps vs r :: F)) (hn : n ≤ 64) (k : ∀ H', Star H' (tour K t r n tm :: pt p (.dK (mdk2 rr tm)) :: pt rr (.lst vs) :: tps vs r :: F) → Q (.bl true) H') : sp_L_lists_right K [.ref t, .ref p] H Q E := by
  obtain ⟨⟨hf, h1⟩, o⟩ := tour_ok S
  have hvl := (Star.tp (vs := vs) (r := r) (S.fr (by walk_at "fr"))).1
  have hrl := hf.len
  obtain ⟨hs1, hs2⟩ := row_small o (by omega)
  have hms := marks_small o (by omega)
  refine sp_L_lists_right_i ?_
  walk_at "go"
  refine ixd_s (a := p) (S.fr (qs := [pt p (.dK (mdk2 rr tm))]) (by walk_at "fr")).get (md2_row rr tm) ?_
  refine it_l (S.fr (qs := [pt rr (.lst vs)]) (by walk_at "fr")).get ?_
  intro D0 hD0
  refine LoopC.it (walk_list (a := rr) (xs := vs)) (fun j H => Star H (pt D0 (.lst ((r.take j).map mkV)) :: tour K t r n tm :: pt p (.dK (mdk2 rr tm)) :: pt rr (.lst vs) :: tps vs r :: F)) (S.newL hD0) (fun j H _ z => .of z.p3.get) ?_ ?_
  · rintro j v H1 H2 hj S ⟨rfl, hv⟩
    have hj' : j < r.length := by omega
    obtain ⟨T, h1, h2⟩ := S.p4.tp.2 j _ (List.getElem?_eq_getElem hj')
    rw [hv] at h1
    cases h1
    unfold gU
    refine unp_t h2 rfl ⟨rfl, ?_⟩
    unfold tYes
    show (if true = true then _ else _)
    rw [if_pos rfl]
    walk_at "w"
    refine ⟨_, S.get, by rw [sizeLine_eq, List.length_map, List.length_take]; omega, ?_⟩
    have e7 : (r.take (j + 1)).map mkV = (r.take j).map mkV ++ [nV r[j].1] := by
      rw [List.take_succ, List.getElem?_eq_getElem hj', List.map_append]
      rfl
    rw [e7]
    exact S.updL
  intro H1 S
  rw [show r.take vs.length = r by rw [hvl, List.take_length], mkV_eq] at S
  walk_at "go"
  refine Loop.range (fun j σ H => ∃ (y3 y4 y5 y6 y7 y8 : Option V), Star H (pt D0 (.lst ((r.map (·.1)).map nV)) :: tour K t r n tm :: pt p (.dK (mdk2 rr tm)) :: pt rr (.lst vs) :: tps vs r :: F) ∧ σ = [some (.ref t), some (.ref p), some (.ref D0), y3, y4, y5, y6, y7, y8]) ⟨_, _, _, _, _, _, S, rfl⟩ ?_ ?_
  · rintro j σ H2 hj ⟨y3, y4, y5, y6, y7, y8, S, rfl⟩
    walk_at "go"
    refine dsp_t (t := t) S.p1 (by decide +kernel) ?_
    walk_at "go"
    refine Tour_order_ok (t := t) S.p1 fun H3 u S => ?_
    have S : Star H3 (tour K t r n tm :: ord K u r (2 * n) tm :: pt D0 (.lst ((r.map (·.1)).map nV)) :: pt p (.dK (mdk2 rr tm)) :: pt rr (.lst vs) :: tps vs r :: F) := S.fr (by walk_at "fr")
    walk_at "go"
    refine dsp_t (t := t) S (by decide +kernel) ?_
    walk_at "go"
    refine Tour_coming_ok (t := t) S hn fun H4 fc S => ?_
    walk_at "go"
    refine dsp_t (t := t) S.p1 (by decide +kernel) ?_
    walk_at "go"
    refine Tour_leaving_ok (t := t) S.p1 hn fun H5 fl S => ?_
    have S : Star H5 (ord K u r (2 * n) tm :: pt fc (.lst ((side 0 r).map nV)) :: pt fl (.lst ((side 1 r).map nV)) :: tour K t r n tm :: pt D0 (.lst ((r.map (·.1)).map nV)) :: pt p (.dK (mdk2 rr tm)) :: pt rr (.lst vs) :: tps vs r :: F) := S.fr (by walk_at "fr")
    walk_at "go"
    refine ord_iso (t := u) S List.mem_cons_self ?_
    walk_at "go"
    refine dsp_o (t := u) S (by decide +kernel) ?_
    walk_at "go"
    refine Order_marks_ok (t := u) S fun H6 fm S => ?_
    rw [mkV_eq] at S
    walk_at "go"
    refine repr_ints (f := fm) (xs := r.map (·.1)) S hms.1 hms.2 ?_
    walk_at "go"
    refine repr_ints (f := D0) (xs := r.map (·.1)) (S.fr (by walk_at "fr")) hms.1 hms.2 ?_
    walk_at "go"
    refine brn (fun h => absurd rfl h) (fun _ => ?_)
    have S : Star H6 (pt D0 (.lst ((r.map (·.1)).map nV)) :: ord K u r (2 * n) tm :: pt fc (.lst ((side 0 r).map nV)) :: pt fl (.lst ((side 1 r).map nV)) :: tour K t r n tm :: pt p (.dK (mdk2 rr tm)) :: pt rr (.lst vs) :: tps vs r :: F) := S.fr (by walk_at "fr")
    walk_at "go"
    refine it_l S.get ?_
    intro D1 hD1
    refine lc_turns _ (fun x H Q q => q) (walk_list (a := D0) (xs := (r.map (·.1)).map nV)) (by rw [List.length_map, List.length_map]; omega) hD1 (fun i acc => tps acc (r.take i) :: pt D0 (.lst ((r.map (·.1)).map nV)) :: ord K u r (2 * n) tm :: pt fc (.lst ((side 0 r).map nV)) :: pt fl (.lst ((side 1 r).map nV)) :: tour K t r n tm :: pt p (.dK (mdk2 rr tm)) :: pt rr (.lst vs) :: tps vs r :: F) (S.tadd TP.nil) (fun i acc H1 S => .of S.p2.get) (fun x => rfl) ?_ ?_
    · intro i x H1 acc R hx ha S kk
      rw [List.getElem?_map] at hx
      obtain ⟨m0, hp0, e⟩ := Option.map_eq_some_iff.mp hx
      subst e
      rw [List.getElem?_map] at hp0
      obtain ⟨pr0, hp, e⟩ := Option.map_eq_some_iff.mp hp0
      subst e
      walk_at "go"
      refine dsp_o (t := u) (r := r) (g := 2 * n) (tm := tm) (S.fr (by walk_at "fr")) (by decide +kernel) ?_
      walk_at "go"
      refine Order_label_ok (t := u) (r := r) (g := 2 * n) (tm := tm) (lb := pr0.2) (S.fr (by walk_at "fr")) hp ?_
      walk_at "go"
      refine al_t S fun T H2 S => ?_
      have hT := S.p2.tp.snoc (p := pr0) S.getF
      have e7 : r.take (i + 1) = r.take i ++ [pr0] := by rw [List.take_succ, hp]; rfl
      rw [← e7] at hT
      exact kk _ _ ((S.tadd hT).fr (by walk_at "fr"))
    intro H7 acc ha S
    rw [show r.take ((r.map (·.1)).map nV).length = r by rw [List.length_map, List.length_map, List.take_length]] at S
    walk_at "go"
    refine ixd_s (a := p) (S.fr (qs := [pt p (.dK (mdk2 rr tm))]) (by walk_at "fr")).get (md2_row rr tm) ?_
    refine tups_ne (f := D1) (u := rr) (ws := acc) (vs := vs) (r := r) S (S.fr (by walk_at "fr")) hs1 hs2 ?_
    walk_at "go"
    have S : Star H7 (ord K u r (2 * n) tm :: pt D0 (.lst ((r.map (·.1)).map nV)) :: pt fc (.lst ((side 0 r).map nV)) :: pt fl (.lst ((side 1 r).map nV)) :: tour K t r n tm :: pt p (.dK (mdk2 rr tm)) :: pt rr (.lst vs) :: tps vs r :: F) := S.fr (by walk_at "fr")
    refine dsp_o (t := u) S (by decide +kernel) ?_
    walk_at "go"
    refine Order_anew_ok (t := u) S ?_
    walk_at "go"
    refine ixd_s (a := p) (S.fr (qs := [pt p (.dK (mdk2 rr tm))]) (by walk_at "fr")).get (md2_times rr tm) ?_
    walk_at "go"
    refine brn (fun h => absurd rfl h) (fun _ => ?_)
    walk_at "go"
    refine repr_ints (f := fc) (xs := side 0 r) (S.fr (by walk_at "fr")) (side_small hms).1 (side_small hms).2 ?_
    walk_at "go"
    refine it_l S.p1.get ?_
    intro D2 hD2
    refine side_ok (s := 0) (f := D0) (r := r) _ (S.p1) (by omega) hD2 (fun x H Q q => q) (fun x => rfl) (fun x H R q => by walk_at "go"; exact q) (fun x H R q => by walk_at "go"; exact q) fun H8 S => ?_
    walk_at "go"
    refine repr_ints (f := D2) (xs := side 0 r) (S.fr (by walk_at "fr")) (side_small hms).1 (side_small hms).2 ?_
    walk_at "go"
    refine brn (fun h => absurd rfl h) (fun _ => ?_)
    have S : Star H8 (pt D0 (.lst ((r.map (·.1)).map nV)) :: ord K u r (2 * n) tm :: pt fc (.lst ((side 0 r).map nV)) :: pt fl (.lst ((side 1 r).map nV)) :: tour K t r n tm :: pt p (.dK (mdk2 rr tm)) :: pt rr (.lst vs) :: tps vs r :: F) := S.fr (by walk_at "fr")
    walk_at "go"
    refine repr_ints (f := fl) (xs := side 1 r) (S.fr (by walk_at "fr")) (side_small hms).1 (side_small hms).2 ?_
    walk_at "go"
    refine it_l S.get ?_
    intro D3 hD3
    refine side_ok (s := 1) (f := D0) (r := r) _ S (by omega) hD3 (fun x H Q q => q) (fun x => rfl) (fun x H R q => by walk_at "go"; exact q) (fun x H R q => by walk_at "go"; exact q) fun H9 S => ?_
    walk_at "go"
    refine repr_ints (f := D3) (xs := side 1 r) S (side_small hms).1 (side_small hms).2 ?_
    walk_at "go"
    refine brn (fun h => absurd rfl h) (fun _ => ?_)
    walk_at "go"
    refine dsp_o (t := u) S.p2 (by decide +kernel) ?_
    walk_at "go"
    have ehl : (((((r.map (·.1)).map nV).length : Nat) : Int)) / 2 = ((r.length / 2 : Nat) : Int) := by
      rw [List.length_map, List.length_map]
      omega
    rw [ehl]
    have hml : r.length / 2 < r.length := by omega
    have em : ((r.map (·.1)).map nV)[r.length / 2]? = some (nV r[r.length / 2].1) := by
      rw [List.getElem?_map, List.getElem?_map, List.getElem?_eq_getElem hml]
      rfl
    refine ix_l S.p1.get (atI_n em) ?_
    refine Order_behind_ok (t := u) (r := r) (g := 2 * n) (tm := tm) (m := r[r.length / 2].1) (lb := r[r.length / 2].2) S.p2 (List.getElem?_eq_getElem hml) (by omega) (by omega) fun H10 S => ?_
    have S : Star H10 (pt fc (.lst ((side 0 r).map nV)) :: pt fl (.lst ((side 1 r).map nV)) :: pt D0 (.lst ((r.map (·.1)).map nV)) :: tour K t r n tm :: pt p (.dK (mdk2 rr tm)) :: pt rr (.lst vs) :: tps vs r :: F) := S.fr (by walk_at "fr")
    walk_at "go"
    refine clr_S S fun H11 S => ?_
    walk_at "go"
    refine app_S (a := fl) S.p1 (by rw [List.length_map]; have := (side_small (s := 1) hms).1; omega) fun H12 S => ?_
    walk_at "w"
    exact ⟨_, _, _, _, _, _, S.fr (by walk_at "fr"), rfl⟩
  · rintro σ H2 ⟨y3, y4, y5, y6, y7, y8, S, rfl⟩
    walk_at "go"
    exact k _ (S.fr (by walk_at "fr"))
end
end Lawk16

namespace Lawk16
open PySem PySem.Spec PyProof.Rows L2 MK
section
variable {K : PySem.W.Frag} {F G : List SP} {H : Hp} {Q : VK} {E : XK} {t p q rr f u : Addr} {r : List (Nat × Nat)} {g tm n m lb i : Nat} {vs ws : List V}
theorem L_one_ok {c : Nat} (S : Star H (box2 q (i + 2) :: F)) (hc : 1 ≤ c ∧ c ≤ 100) (k : ∀ H' m, m < c → Star H' (box2 q i :: F) → Q (nV m) H') : sp_L_one_of K [.ref q, nV c] H Q E := by
  refine sp_L_one_of_i ?_
  walk_at "go"
  refine take2_ok S (by decide) fun H1 w hw S => ?_
  walk_at "go"
  refine take2_ok S (by omega) fun H2 d hd S => ?_
  walk_at "go"
  have e1 : ((c : Nat) : Int) - 1 = ((c - 1 : Nat) : Int) := by omega
  have e2 : max 0 (((c : Nat) : Int) - 2) = ((c - 2 : Nat) : Int) := by omega
  first
    | rw [e1]
    | skip
  first
    | rw [e2]
    | skip
  refine al_l S fun gx H3 S => ?_
  walk_at "go"
  have hw4 : w < 4 := by omega
  obtain ⟨z, hz, e⟩ : ∃ z, z < c ∧ atI [nV d, .int 0, nV (c - 1), nV (c - 2)] ((w : Nat) : Int) = some (nV z) := by
    match w, hw4 with
    | 0, _ => exact ⟨d, by omega, rfl⟩
    | 1, _ => exact ⟨0, by omega, rfl⟩
    | 2, _ => exact ⟨c - 1, by omega, rfl⟩
    | 3, _ => exact ⟨c - 2, by omega, rfl⟩
  refine ix_l S.get e ?_
  exact k _ _ hz (S.fr (by walk_at "fr"))
theorem marks_repr {T T2 : Addr} (S : Star H (fx T (.tup [nV m, nV n]) :: F)) (hm : m ≤ 1000 ∧ n ≤ 1000) (k : Q (.str (PyData.tuple [.int (m : Nat), .int (n : Nat)]).shown) H) : reprX K (.ref T) H Q := by
  have Sa : Star H (dat (.ref T) (.tuple [.int (m : Nat), .int (n : Nat)]) :: []) := S.fr (by walk_at "fr")
  exact repr_D Sa (Ni.rep (n := 1) (m := 10) (ni_t (n := 0) (m := 0) (fa1 (ni_i (by omega)) (fa1 (ni_i (by omega)) fa0)) (by decide) (show 2 * (0 + 1) ≤ 10 by decide))) k
theorem L_right_ok (S : Star H (box2 q (i + 2) :: tour K t r n tm :: pt p (.dK (mdk2 rr tm)) :: pt rr (.lst vs) :: tps vs r :: F)) (hn : n ≤ 64) (k : ∀ H', Star H' (box2 q i :: tour K t r n tm :: pt p (.dK (mdk2 rr tm)) :: pt rr (.lst vs) :: tps vs r :: F) → Q (.bl true) H') : sp_L_right K [.ref q, .ref t, .ref p] H Q E := by
  obtain ⟨⟨hf, h1⟩, o⟩ := tour_ok S.p1
  have hvl := (Star.tp (vs := vs) (r := r) (S.fr (by walk_at "fr"))).1
  have hrl := hf.len
  refine sp_L_right_i ?_
  walk_at "go"
  refine ixd_s (a := p) (S.fr (qs := [pt p (.dK (mdk2 rr tm))]) (by walk_at "fr")).get (md2_row rr tm) ?_
  walk_at "go"
  have e1 : (((vs.length : Nat) : Int)) / 2 = ((n : Nat) : Int) := by omega
  rw [e1]
  refine dsp_ot (t := t) S.p1 (by decide +kernel) ?_
  walk_at "go"
  refine Tour_many_ok (t := t) S.p1 ?_
  walk_at "go"
  refine repr_n S (by omega) ?_
  walk_at "go"
  refine repr_n S (by omega) ?_
  walk_at "go"
  refine brn (fun h => absurd rfl h) (fun _ => ?_)
  walk_at "go"
  refine Loop.range (fun j σ H => ∃ (y4 y5 : Option V), Star H (box2 q (i + 2 - j) :: tour K t r n tm :: pt p (.dK (mdk2 rr tm)) :: pt rr (.lst vs) :: tps vs r :: F) ∧ σ = [some (.ref q), some (.ref t), some (.ref p), some (nV n), y4, y5]) ⟨_, _, S, rfl⟩ ?_ ?_
  · rintro j σ H2 hj ⟨y4, y5, S, rfl⟩
    have hj2 : j < 2 := hj
    have e : i + 2 - j = (i + 2 - (j + 1)) + 1 := by omega
    rw [e] at S
    walk_at "go"
    refine take2_ok S (by omega) fun H3 d hd S => ?_
    have hd' : d < n := by omega
    walk_at "go"
    refine dsp_t (t := t) S.p1 (by decide +kernel) ?_
    walk_at "go"
    refine Tour_marks_of_ok (t := t) S.p1 hd' fun T hT => ?_
    have S1 : Star H3 (fx T (.tup [nV (2 * d), nV (2 * d + 1)]) :: []) := ⟨[], List.nodup_nil, [], [], rfl, ⟨rfl, hT, True.intro⟩, rfl⟩
    walk_at "go"
    refine marks_repr (T2 := T) S1 (by omega) ?_
    walk_at "go"
    refine al_t S fun T2 H4 S => ?_
    have e1 : (2 : Int) * ((d : Nat) : Int) = ((2 * d : Nat) : Int) := by omega
    have e2 : ((2 * d : Nat) : Int) + 1 = ((2 * d + 1 : Nat) : Int) := by omega
    rw [e1, e2] at S
    walk_at "go"
    refine marks_repr (T2 := T2) S (by omega) ?_
    walk_at "go"
    refine brn (fun h => absurd rfl h) (fun _ => ?_)
    walk_at "w"
    exact ⟨_, _, S.fr (by walk_at "fr"), rfl⟩
  · rintro σ H2 ⟨y4, y5, S, rfl⟩
    walk_at "go"
    refine L_lists_ok (t := t) (p := p) (rr := rr) (vs := vs) (r := r) (n := n) (tm := tm) (S.fr (by walk_at "fr")) hn fun H3 S => ?_
    exact k _ (S.fr (by walk_at "fr"))
end
end Lawk16

namespace Lawk16
open PySem PySem.Spec PyProof.Rows L2 MK
section
variable {K : PySem.W.Frag} {F G : List SP} {H : Hp} {Q : VK} {E : XK} {t p t2 p2 q rr a b : Addr} {r r2 : List (Nat × Nat)} {g tm n m lb i N M : Nat} {vs ws : List V}
/-- one row, or two, held for two models -/
def rw1 (a : Addr) (r : List (Nat × Nat)) : SP := ex fun vs : List V => sep [pt a (.lst vs), tps vs r]
theorem rw1_iff : Star H (rw1 a r :: F) ↔ ∃ vs, Star H (pt a (.lst vs) :: tps vs r :: F) := by
  unfold rw1
  simp only [Star.ex_iff, Star.sep_iff, List.cons_append, List.nil_append, Star.pr_iff]
def both (a : Addr) (r : List (Nat × Nat)) (b : Addr) (r2 : List (Nat × Nat)) : SP := ex fun X : SP => sep [pr ((∀ F', Fr (rw1 a r :: X :: F') (rw1 b r2 :: F')) ∧ ∃ Y : SP, ∀ F', Fr (rw1 a r :: X :: F') (rw1 b r2 :: Y :: F') ∧ Fr (rw1 b r2 :: Y :: F') (rw1 a r :: X :: F')), rw1 a r, X]
theorem both_iff : Star H (both a r b r2 :: F) ↔ ∃ X : SP, ((∀ F', Fr (rw1 a r :: X :: F') (rw1 b r2 :: F')) ∧ ∃ Y : SP, ∀ F', Fr (rw1 a r :: X :: F') (rw1 b r2 :: Y :: F') ∧ Fr (rw1 b r2 :: Y :: F') (rw1 a r :: X :: F')) ∧ Star H (rw1 a r :: X :: F) := by
  unfold both
  simp only [Star.ex_iff, Star.sep_iff, List.cons_append, List.nil_append, Star.pr_iff]
theorem both_swap (S : Star H (both a r b r2 :: F)) : Star H (both b r2 a r :: F) := by
  obtain ⟨X, ⟨h1, Y, h2⟩, S⟩ := both_iff.mp S
  exact both_iff.mpr ⟨Y, ⟨fun F' H S => ((h2 F').2 H S).fr (by walk_at "fr"), X, fun F' => ⟨(h2 F').2, (h2 F').1⟩⟩, (h2 F).1 H S⟩
theorem both_two (S : Star H (rw1 a r :: rw1 b r2 :: F)) : Star H (both a r b r2 :: F) :=
  both_iff.mpr ⟨rw1 b r2, ⟨fun F' H S => S.fr (by walk_at "fr"), rw1 a r, fun F' => ⟨fun H S => S.fr (by walk_at "fr"), fun H S => S.fr (by walk_at "fr")⟩⟩, S⟩
theorem both_one (S : Star H (rw1 a r :: F)) : Star H (both a r a r :: F) :=
  both_iff.mpr ⟨pr True, ⟨fun F' H S => S.fr (by walk_at "fr"), pr True, fun F' => ⟨fun H S => S, fun H S => S⟩⟩, (Star.pr_iff.mpr ⟨True.intro, S⟩ : Star H (pr True :: rw1 a r :: F)).fr (by walk_at "fr")⟩
/-- two tours and their models -/
def duo (K : PySem.W.Frag) (t p t2 p2 : Addr) (N : Nat) : SP := ex fun r : List (Nat × Nat) => ex fun n : Nat => ex fun tm : Nat => ex fun rr : Addr => ex fun r2 : List (Nat × Nat) => ex fun n2 : Nat => ex fun tm2 : Nat => ex fun rr2 : Addr =>
  sep [pr (n ≤ N ∧ n2 ≤ N), tour K t r n tm, pt p (.dK (mdk2 rr tm)), tour K t2 r2 n2 tm2, pt p2 (.dK (mdk2 rr2 tm2)), both rr r rr2 r2]
theorem duo_iff : Star H (duo K t p t2 p2 N :: F) ↔ ∃ r n tm rr r2 n2 tm2 rr2, (n ≤ N ∧ n2 ≤ N) ∧ Star H (tour K t r n tm :: pt p (.dK (mdk2 rr tm)) :: tour K t2 r2 n2 tm2 :: pt p2 (.dK (mdk2 rr2 tm2)) :: both rr r rr2 r2 :: F) := by
  unfold duo
  simp only [Star.ex_iff, Star.sep_iff, List.cons_append, List.nil_append, Star.pr_iff]
theorem duo_swap (S : Star H (duo K t p t2 p2 N :: F)) : Star H (duo K t2 p2 t p N :: F) := by
  obtain ⟨r, n, tm, rr, r2, n2, tm2, rr2, ⟨h1, h2⟩, S⟩ := duo_iff.mp S
  have S1 := both_swap (a := rr) (r := r) (b := rr2) (r2 := r2) (F := tour K t r n tm :: pt p (.dK (mdk2 rr tm)) :: tour K t2 r2 n2 tm2 :: pt p2 (.dK (mdk2 rr2 tm2)) :: F) (S.fr (by walk_at "fr"))
  exact duo_iff.mpr ⟨r2, n2, tm2, rr2, r, n, tm, rr, ⟨h2, h1⟩, S1.fr (by walk_at "fr")⟩
theorem duo_up (h : N ≤ M) (S : Star H (duo K t p t2 p2 N :: F)) : Star H (duo K t p t2 p2 M :: F) := by
  obtain ⟨r, n, tm, rr, r2, n2, tm2, rr2, ⟨h1, h2⟩, S⟩ := duo_iff.mp S
  exact duo_iff.mpr ⟨r, n, tm, rr, r2, n2, tm2, rr2, ⟨by omega, by omega⟩, S⟩
theorem duo_right (S : Star H (box2 q (i + 2) :: duo K t p t2 p2 N :: F)) (hN : N ≤ 64) (k : ∀ H', Star H' (box2 q i :: duo K t p t2 p2 N :: F) → Q (.bl true) H') : sp_L_right K [.ref q, .ref t, .ref p] H Q E := by
  obtain ⟨r, n, tm, rr, r2, n2, tm2, rr2, ⟨h1, h2⟩, S⟩ := duo_iff.mp (S.fr (qs := duo K t p t2 p2 N :: box2 q (i + 2) :: F) (by walk_at "fr"))
  obtain ⟨X, hX, S⟩ := both_iff.mp (S.fr (qs := both rr r rr2 r2 :: tour K t r n tm :: pt p (.dK (mdk2 rr tm)) :: tour K t2 r2 n2 tm2 :: pt p2 (.dK (mdk2 rr2 tm2)) :: box2 q (i + 2) :: F) (by walk_at "fr"))
  obtain ⟨vs, S⟩ := rw1_iff.mp S
  refine L_right_ok (i := i) (t := t) (p := p) (rr := rr) (vs := vs) (r := r) (n := n) (tm := tm) (S.fr (by walk_at "fr")) (by omega) fun H1 S => ?_
  have S1 : Star H1 (rw1 rr r :: X :: tour K t r n tm :: pt p (.dK (mdk2 rr tm)) :: tour K t2 r2 n2 tm2 :: pt p2 (.dK (mdk2 rr2 tm2)) :: box2 q i :: F) := rw1_iff.mpr ⟨vs, S.fr (by walk_at "fr")⟩
  have S2 := both_iff.mpr ⟨X, hX, S1⟩
  have S3 : Star H1 (duo K t p t2 p2 N :: box2 q i :: F) := duo_iff.mpr ⟨r, n, tm, rr, r2, n2, tm2, rr2, ⟨h1, h2⟩, S2.fr (by walk_at "fr")⟩
  exact k _ (S3.fr (by walk_at "fr"))
theorem mod_ok (S : Star H F) (σ : L2.St) (k : ∀ H' p rr, Star H' (pt p (.dK (mdk2 rr 0)) :: rw1 rr [(0, 0), (1, 512)] :: F) → Q (.ref p) H') : eDis [(eC (.str "row"), eL (aC (eT (aC (eC (.int 0)) (aC (eC (.int 0)) (aN)))) (aC (eT (aC (eC (.int 1)) (aC (eC (.int 512)) (aN)))) (aN)))), (eC (.str "times"), eC (.int 0))] σ H Q := by
  walk_at "go"
  refine al_d S fun p H1 S => ?_
  walk_at "go"
  refine al_t S fun T H2 S => ?_
  walk_at "go"
  refine al_t S fun T2 H3 S => ?_
  walk_at "go"
  refine al_l S fun rr H4 S => ?_
  have hT : TP H4 [.ref T, .ref T2] [(0, 0), (1, 512)] := TP.snoc (p := (1, 512)) (TP.snoc (p := (0, 0)) TP.nil (S.p2.getF)) S.p1.getF
  walk_at "go"
  refine dis_S (mdk2 rr 0) (S.fr (by walk_at "fr")) rfl rfl (show 2 ≤ 15 by decide) fun H5 S => ?_
  have hT : TP H5 [.ref T, .ref T2] [(0, 0), (1, 512)] := TP.snoc (p := (1, 512)) (TP.snoc (p := (0, 0)) TP.nil S.p3.getF) S.p2.getF
  have S3 : Star H5 (rw1 rr [(0, 0), (1, 512)] :: pt p (.dK (mdk2 rr 0)) :: F) := rw1_iff.mpr ⟨[.ref T, .ref T2], (S.tadd hT).fr (Fr.c2 (Fr.c0 (by walk_at "fr")))⟩
  exact k _ _ _ (S3.fr (by walk_at "fr"))
theorem duo_pick {gO gM ta pa tb pb : Addr} {d : Nat} (hd : d < 2) (S : Star H (duo K ta pa tb pb N :: pt gO (.lst (two d (.ref ta) (.ref tb))) :: pt gM (.lst (two d (.ref pa) (.ref pb))) :: F)) : ∃ t0 t1 p0 p1, Star H (duo K t0 p0 t1 p1 N :: pt gO (.lst [.ref t0, .ref t1]) :: pt gM (.lst [.ref p0, .ref p1]) :: F) := by
  match d, hd with
  | 0, _ => exact ⟨ta, tb, pa, pb, S⟩
  | 1, _ => exact ⟨tb, ta, pb, pa, duo_swap S⟩
theorem law_ok {K : PySem.W.Frag} {H : Hp} {a : Addr} {ns : List Int} (S : Star H [scr K a (ns.map V.int)]) : sp_law K [.ref a] H (fun v _ => v = .bl true) fun _ _ _ => False := by
  refine sp_law_i ?_
  walk_at "w"
  intro x dx hx hd hne
  refine Tour_init_ok (S.mkI hx hd hne) fun H1 S => ?_
  walk_at "go"
  intro x2 dx2 hx2 hd2 hne2
  refine Tour_init_ok (S.mkI hx2 hd2 hne2) fun H2 S => ?_
  walk_at "go"
  refine al_l S fun gO H3 S => ?_
  dsimp only
  unfold tSeq
  dsimp only
  refine mod_ok S _ fun H4 p0 r0 S => ?_
  refine mod_ok S _ fun H5 p1 r1 S => ?_
  walk_at "go"
  refine al_l S fun gM H6 S => ?_
  have S0 : Star H6 (both r0 [(0, 0), (1, 512)] r1 [(0, 0), (1, 512)] :: tour K x [(0, 0), (1, 512)] 1 0 :: pt p0 (.dK (mdk2 r0 0)) :: tour K x2 [(0, 0), (1, 512)] 1 0 :: pt p1 (.dK (mdk2 r1 0)) :: pt gO (.lst [.ref x, .ref x2]) :: pt gM (.lst [.ref p0, .ref p1]) :: scr K a (ns.map V.int) :: []) := both_two (S.fr (by walk_at "fr"))
  have S1 : Star H6 (duo K x p0 x2 p1 1 :: pt gO (.lst [.ref x, .ref x2]) :: pt gM (.lst [.ref p0, .ref p1]) :: scr K a (ns.map V.int) :: []) := duo_iff.mpr ⟨_, 1, 0, r0, _, 1, 0, r1, ⟨Nat.le_refl _, Nat.le_refl _⟩, S0.fr (by walk_at "fr")⟩
  walk_at "go"
  refine Loop.range (fun i σ H => ∃ (t0 t1 p0 p1 : Addr) (y3 y4 y5 y6 y7 y8 y9 : Option V), Star H (duo K t0 p0 t1 p1 (1 + i) :: pt gO (.lst [.ref t0, .ref t1]) :: pt gM (.lst [.ref p0, .ref p1]) :: scr K a (ns.map V.int) :: []) ∧ σ = [some (.ref a), some (.ref gO), some (.ref gM), y3, y4, y5, y6, y7, y8, y9]) ⟨x, x2, p0, p1, _, _, _, _, _, _, _, S1, rfl⟩ ?_ ?_
  · rintro i σ H7 hi ⟨t0, t1, p0, p1, y3, y4, y5, y6, y7, y8, y9, S, rfl⟩
    have hi60 : i < 60 := by omega
    have ei : (0 : Int) + (i : Nat) = (i : Nat) := by omega
    rw [ei]
    walk_at "go"
    refine cell_at_ok (S.fr (by walk_at "fr")) (by omega) fun c => ?_
    walk_at "go"
    refine box2_ok 100 (by decide) S fun H8 q S => ?_
    walk_at "go"
    refine take2_ok S (by decide) fun H8 d0 hd0 S => ?_
    walk_at "go"
    obtain ⟨d, hd2, ed⟩ : ∃ d : Nat, d < 2 ∧ (if decide ((d0 : Int) = 0) = true then (1 : Int) else 0) = (d : Int) := by
      by_cases z : (d0 : Int) = 0
      · exact ⟨1, by decide, by rw [decide_eq_true z]; rfl⟩
      · exact ⟨0, by decide, by rw [decide_eq_false z]; rfl⟩
    rw [ed]
    refine take2_ok S (by decide) fun H8 cp hcp S => ?_
    obtain ⟨ta, tb, pa, pb, eO, eM, S⟩ : ∃ ta tb pa pb, two d (V.ref ta) (V.ref tb) = [.ref t0, .ref t1] ∧ two d (V.ref pa) (V.ref pb) = [.ref p0, .ref p1] ∧ Star H8 (duo K ta pa tb pb (1 + i) :: box2 q 98 :: pt gO (.lst [.ref t0, .ref t1]) :: pt gM (.lst [.ref p0, .ref p1]) :: scr K a (ns.map V.int) :: []) := by
      have S : Star H8 (duo K t0 p0 t1 p1 (1 + i) :: box2 q 98 :: pt gO (.lst [.ref t0, .ref t1]) :: pt gM (.lst [.ref p0, .ref p1]) :: scr K a (ns.map V.int) :: []) := S.fr (by walk_at "fr")
      match d, hd2 with
      | 0, _ => exact ⟨t0, t1, p0, p1, rfl, rfl, S⟩
      | 1, _ => exact ⟨t1, t0, p1, p0, rfl, rfl, duo_swap S⟩
    rw [← eO, ← eM] at S
    obtain ⟨r, n, tm, rr, r2, n2, tm2, rr2, ⟨h1, h2⟩, S⟩ := duo_iff.mp S
    obtain ⟨⟨hf, hn1⟩, o⟩ := tour_ok S
    obtain ⟨X, hX, S⟩ := both_iff.mp (S.fr (qs := both rr r rr2 r2 :: tour K ta r n tm :: pt pa (.dK (mdk2 rr tm)) :: tour K tb r2 n2 tm2 :: pt pb (.dK (mdk2 rr2 tm2)) :: box2 q 98 :: pt gO (.lst (two d (.ref ta) (.ref tb))) :: pt gM (.lst (two d (.ref pa) (.ref pb))) :: scr K a (ns.map V.int) :: []) (by walk_at "fr"))
    obtain ⟨vs, S⟩ := rw1_iff.mp S
    have hvl := (Star.tp (vs := vs) (r := r) (S.fr (by walk_at "fr"))).1
    have hrl := hf.len
    walk_at "go"
    refine ix_l (a := gM) (S.fr (qs := [pt gM (.lst (two d (.ref pa) (.ref pb)))]) (by walk_at "fr")).get (two_at _ _ hd2) ?_
    walk_at "go"
    refine ixd_s (a := pa) (S.fr (qs := [pt pa (.dK (mdk2 rr tm))]) (by walk_at "fr")).get (md2_row rr tm) ?_
    walk_at "go"
    have e1 : (((vs.length : Nat) : Int)) / 2 = ((n : Nat) : Int) := by omega
    rw [e1]
    refine L_one_ok (i := 96) (c := n) (S.fr (by walk_at "fr")) (by omega) fun H9 m hm S => ?_
    walk_at "go"
    refine ix_l (a := gO) (S.fr (qs := [pt gO (.lst (two d (.ref ta) (.ref tb)))]) (by walk_at "fr")).get (two_at _ _ hd2) ?_
    walk_at "go"
    refine dsp_t (t := ta) (r := r) (n := n) (tm := tm) (S.fr (by walk_at "fr")) (by decide +kernel) ?_
    walk_at "go"
    obtain ⟨im, lb, him⟩ := hf.all (2 * m) (by omega)
    have himl := (List.getElem?_eq_some_iff.mp him).1
    refine Tour_grow_ok (t := ta) (r := r) (n := n) (tm := tm) (m := m) (i := im) (lb := lb) (S.fr (by walk_at "fr")) him hm (by omega) fun H10 S => ?_
    walk_at "go"
    refine repr_n S (by omega) ?_
    walk_at "go"
    refine repr_n S (by omega) ?_
    walk_at "go"
    refine brn (fun h => absurd rfl h) (fun _ => ?_)
    walk_at "go"
    refine ix_l (a := gM) (S.fr (qs := [pt gM (.lst (two d (.ref pa) (.ref pb)))]) (by walk_at "fr")).get (two_at _ _ hd2) ?_
    walk_at "go"
    refine ix_l (a := gM) (S.fr (qs := [pt gM (.lst (two d (.ref pa) (.ref pb)))]) (by walk_at "fr")).get (two_at _ _ hd2) ?_
    walk_at "go"
    have e2 : (2 : Int) * ((m : Nat) : Int) = ((2 * m : Nat) : Int) := by omega
    rw [e2]
    refine L_lay_ok (p := pa) (rr := rr) (vs := vs) (r := r) (g := 2 * n) (tm := tm) (i := im) (m := 2 * m) (lb := lb) (S.fr (by walk_at "fr")) o hrl him fun H11 rn ws S => ?_
    walk_at "go"
    refine L_lay_ok (p := pa) (rr := rn) (vs := ws) (r := bhd r (2 * n) im) (g := 2 * n + 1) (tm := tm + anewN r im) (i := im + 1) (m := 2 * n) (lb := newL r im) (S.fr (by walk_at "fr")) (bhd_ok o himl (by omega)) (by rw [bhd_len himl, hrl]) (bhd_new himl) fun H12 rn2 ws2 S => ?_
    have e3 : tm + anewN r im + anewN (bhd r (2 * n) im) (im + 1) = tm + grwN r (2 * n) im := by
      unfold grwN
      omega
    rw [e3] at S
    have S : Star H12 (rw1 rn2 (grw r (2 * n) im) :: pt rr (.lst vs) :: tps vs r :: X :: tour K ta (grw r (2 * n) im) (n + 1) (tm + grwN r (2 * n) im) :: pt pa (.dK (mdk2 rn2 (tm + grwN r (2 * n) im))) :: tour K tb r2 n2 tm2 :: pt pb (.dK (mdk2 rr2 tm2)) :: box2 q 96 :: pt gO (.lst (two d (.ref ta) (.ref tb))) :: pt gM (.lst (two d (.ref pa) (.ref pb))) :: scr K a (ns.map V.int) :: []) :=
      rw1_iff.mpr ⟨ws2, S.fr (by walk_at "fr")⟩
    have S : Star H12 (rw1 rr r :: X :: rw1 rn2 (grw r (2 * n) im) :: tour K ta (grw r (2 * n) im) (n + 1) (tm + grwN r (2 * n) im) :: pt pa (.dK (mdk2 rn2 (tm + grwN r (2 * n) im))) :: tour K tb r2 n2 tm2 :: pt pb (.dK (mdk2 rr2 tm2)) :: box2 q 96 :: pt gO (.lst (two d (.ref ta) (.ref tb))) :: pt gM (.lst (two d (.ref pa) (.ref pb))) :: scr K a (ns.map V.int) :: []) :=
      rw1_iff.mpr ⟨vs, S.fr (by walk_at "fr")⟩
    have S := hX.1 _ _ S
    dsimp only
    refine seq_cut (fun σ H => ∃ (tb pb : Addr), Star H (duo K ta pa tb pb (1 + (i + 1)) :: box2 q 96 :: pt gO (.lst (two d (.ref ta) (.ref tb))) :: pt gM (.lst (two d (.ref pa) (.ref pb))) :: scr K a (ns.map V.int) :: []) ∧ σ = [some (.ref a), some (.ref gO), some (.ref gM), some (nV i), some (.ref q), some (nV d), some (.bl (decide ((cp : Int) = 0))), some (nV n), some (nV m), y9]) (fun kk => ?_) ?_
    · walk_at "go"
      refine br (fun hc => ?_) (fun hc => ?_)
      · walk_at "go"
        refine ix_l (a := gO) (S.fr (qs := [pt gO (.lst (two d (.ref ta) (.ref tb)))]) (by walk_at "fr")).get (two_at _ _ hd2) ?_
        walk_at "go"
        refine dsp_ot (t := ta) (r := grw r (2 * n) im) (n := n + 1) (tm := tm + grwN r (2 * n) im) (S.fr (by walk_at "fr")) (by decide +kernel) ?_
        walk_at "go"
        refine Tour_copied_ok (t := ta) (r := grw r (2 * n) im) (n := n + 1) (tm := tm + grwN r (2 * n) im) (S.fr (by walk_at "fr")) fun H13 u S => ?_
        walk_at "go"
        obtain ⟨j, hj1, hj2⟩ := two_set (V.ref ta) (V.ref tb) (V.ref u) hd2
        refine set_S (a := gO) (xs := two d (.ref ta) (.ref tb)) (S.fr (by walk_at "fr")) hj1 fun H14 S => ?_
        rw [hj2] at S
        walk_at "go"
        refine ix_l (a := gM) (S.fr (qs := [pt gM (.lst (two d (.ref pa) (.ref pb)))]) (by walk_at "fr")).get (two_at _ _ hd2) ?_
        walk_at "go"
        refine dct_S (a := pa) (kvs := mdk2 rn2 (tm + grwN r (2 * n) im)) S (S.fr (qs := [pt pa (.dK (mdk2 rn2 (tm + grwN r (2 * n) im)))]) (by walk_at "fr")).get fun pn H15 S => ?_
        walk_at "go"
        obtain ⟨j, hj1, hj2⟩ := two_set (V.ref pa) (V.ref pb) (V.ref pn) hd2
        refine set_S (a := gM) (xs := two d (.ref pa) (.ref pb)) (S.fr (by walk_at "fr")) hj1 fun H16 S => ?_
        rw [hj2] at S
        walk_at "w"
        have S1 : Star H16 (both rn2 (grw r (2 * n) im) rn2 (grw r (2 * n) im) :: tour K ta (grw r (2 * n) im) (n + 1) (tm + grwN r (2 * n) im) :: pt pa (.dK (mdk2 rn2 (tm + grwN r (2 * n) im))) :: tour K u (grw r (2 * n) im) (n + 1) (tm + grwN r (2 * n) im) :: pt pn (.dK (mdk2 rn2 (tm + grwN r (2 * n) im))) :: box2 q 96 :: pt gO (.lst (two d (.ref ta) (.ref u))) :: pt gM (.lst (two d (.ref pa) (.ref pn))) :: scr K a (ns.map V.int) :: []) := both_one (S.fr (by walk_at "fr"))
        refine kk _ _ ⟨u, pn, duo_iff.mpr ⟨_, n + 1, _, rn2, _, n + 1, _, rn2, ⟨by omega, by omega⟩, S1.fr (by walk_at "fr")⟩, rfl⟩
      · walk_at "w"
        have S1 : Star H12 (both rn2 (grw r (2 * n) im) rr2 r2 :: tour K ta (grw r (2 * n) im) (n + 1) (tm + grwN r (2 * n) im) :: pt pa (.dK (mdk2 rn2 (tm + grwN r (2 * n) im))) :: tour K tb r2 n2 tm2 :: pt pb (.dK (mdk2 rr2 tm2)) :: box2 q 96 :: pt gO (.lst (two d (.ref ta) (.ref tb))) :: pt gM (.lst (two d (.ref pa) (.ref pb))) :: scr K a (ns.map V.int) :: []) := both_two (S.fr (by walk_at "fr"))
        refine kk _ _ ⟨tb, pb, duo_iff.mpr ⟨_, n + 1, _, rn2, r2, n2, tm2, rr2, ⟨by omega, by omega⟩, S1.fr (by walk_at "fr")⟩, rfl⟩
    · rintro σ H13 ⟨tb, pb, S, rfl⟩
      walk_at "go"
      refine al_l S fun gx H14 S => ?_
      have S : Star H14 (box2 q 96 :: duo K ta pa tb pb (1 + (i + 1)) :: pt gO (.lst (two d (.ref ta) (.ref tb))) :: pt gM (.lst (two d (.ref pa) (.ref pb))) :: pt gx (.lst [nV d, .int (1 - (d : Nat))]) :: scr K a (ns.map V.int) :: []) := S.fr (by walk_at "fr")
      refine it_l (a := gx) (xs := [nV d, .int (1 - (d : Nat))]) (S.fr (qs := [pt gx (.lst [nV d, .int (1 - (d : Nat))])]) (by walk_at "fr")).get ?_
      refine Loop.list (fun j σ H => ∃ y9, Star H (box2 q (96 - 2 * j) :: duo K ta pa tb pb (1 + (i + 1)) :: pt gO (.lst (two d (.ref ta) (.ref tb))) :: pt gM (.lst (two d (.ref pa) (.ref pb))) :: pt gx (.lst [nV d, .int (1 - (d : Nat))]) :: scr K a (ns.map V.int) :: []) ∧ σ = [some (.ref a), some (.ref gO), some (.ref gM), some (nV i), some (.ref q), some (nV d), some (.bl (decide ((cp : Int) = 0))), some (nV n), some (nV m), y9]) ⟨_, S, rfl⟩ (fun j σ H _ ⟨_, z, _⟩ => .of (z.p4.get)) ?_ ?_
      · rintro j v σ H15 hv ⟨y9, S, rfl⟩
        match j, hv with
        | 0, hv =>
          cases hv
          walk_at "go"
          refine ix_l (a := gO) (S.fr (qs := [pt gO (.lst (two d (.ref ta) (.ref tb)))]) (by walk_at "fr")).get (two_at _ _ hd2) ?_
          walk_at "go"
          refine ix_l (a := gM) (S.fr (qs := [pt gM (.lst (two d (.ref pa) (.ref pb)))]) (by walk_at "fr")).get (two_at _ _ hd2) ?_
          walk_at "go"
          refine duo_right (q := q) (i := 94) S (by omega) fun H16 S => ?_
          walk_at "w"
          exact ⟨_, S, rfl⟩
        | 1, hv =>
          cases hv
          have S : Star H15 (duo K ta pa tb pb (1 + (i + 1)) :: box2 q 94 :: pt gO (.lst (two d (.ref ta) (.ref tb))) :: pt gM (.lst (two d (.ref pa) (.ref pb))) :: pt gx (.lst [nV d, .int (1 - (d : Nat))]) :: scr K a (ns.map V.int) :: []) := S.fr (by walk_at "fr")
          have S := duo_swap S
          walk_at "go"
          refine ix_l (a := gO) (S.fr (qs := [pt gO (.lst (two d (.ref ta) (.ref tb)))]) (by walk_at "fr")).get (two_at1 _ _ hd2) ?_
          walk_at "go"
          refine ix_l (a := gM) (S.fr (qs := [pt gM (.lst (two d (.ref pa) (.ref pb)))]) (by walk_at "fr")).get (two_at1 _ _ hd2) ?_
          walk_at "go"
          refine duo_right (q := q) (i := 92) (t := tb) (p := pb) (t2 := ta) (p2 := pa) (N := 1 + (i + 1)) (S.fr (by walk_at "fr")) (by omega) fun H16 S => ?_
          walk_at "w"
          have S := duo_swap (S.fr (qs := duo K tb pb ta pa (1 + (i + 1)) :: box2 q 92 :: pt gO (.lst (two d (.ref ta) (.ref tb))) :: pt gM (.lst (two d (.ref pa) (.ref pb))) :: pt gx (.lst [nV d, .int (1 - (d : Nat))]) :: scr K a (ns.map V.int) :: []) (by walk_at "fr"))
          exact ⟨_, S.fr (by walk_at "fr"), rfl⟩
        | j + 2, hv => simp at hv
      · rintro σ H15 ⟨y9, S, rfl⟩
        obtain ⟨t0, t1, p0, p1, S⟩ := duo_pick (ta := ta) (tb := tb) (pa := pa) (pb := pb) (gO := gO) (gM := gM) (N := 1 + (i + 1)) hd2 (S.fr (by walk_at "fr"))
        walk_at "w"
        exact ⟨t0, t1, p0, p1, _, _, _, _, _, _, _, S.fr (by walk_at "fr"), rfl⟩
  · rintro σ H7 ⟨t0, t1, p0, p1, y3, y4, y5, y6, y7, y8, y9, S, rfl⟩
    walk_at "go"
end
end Lawk16

namespace Lawk16
open PySem PySem.Spec PyProof.Rows L2 MK
/-! the text by places -/
def top (i : Nat) : Stmt := PySem.Challenge.pw_makeskept_k16_tours_by_coming_and_leavin.main.body.getD i (.Pass ⟨0, 0, 0, 0⟩)
abbrev s_Order_init : Stmt := clsAt (top 11) 0
abbrev s_is_whole : Stmt := top 7
abbrev s_MakesError_init : Stmt := clsAt (top 2) 0
abbrev s_Order_label_behind : Stmt := clsAt (top 11) 2
abbrev s_Order_label_all : Stmt := clsAt (top 11) 3
abbrev s_L_cell_at : Stmt := top 16
abbrev s_L_box : Stmt := top 17
abbrev s_L_take : Stmt := top 18
abbrev s_L_end : Stmt := top 19
abbrev s_Tour_many : Stmt := clsAt (top 14) 2
abbrev s_Order_many : Stmt := clsAt (top 11) 6
abbrev s_Order_marks : Stmt := clsAt (top 11) 7
abbrev s_Order_anew : Stmt := clsAt (top 11) 10
abbrev s_NoMark_init : Stmt := clsAt (top 4) 0
abbrev s_TooMany_init : Stmt := clsAt (top 5) 0
abbrev s_L_one_of : Stmt := top 21
abbrev s_NoMake_init : Stmt := clsAt (top 3) 0
abbrev s_L_lay : Stmt := top 20
abbrev s_Tour_by_marks : Stmt := clsAt (top 14) 6
abbrev s_Order_copied : Stmt := clsAt (top 11) 11
abbrev s_Tour_coming : Stmt := clsAt (top 14) 7
abbrev s_Tour_leaving : Stmt := clsAt (top 14) 8
abbrev s_Order_need_mark : Stmt := clsAt (top 11) 1
abbrev s_Tour_need_make : Stmt := clsAt (top 14) 1
abbrev s_Tour_order : Stmt := clsAt (top 14) 5
abbrev s_Order_behind : Stmt := clsAt (top 11) 4
abbrev s_Tour_marks_of : Stmt := clsAt (top 14) 4
abbrev s_Order_label : Stmt := clsAt (top 11) 9
abbrev s_Tour_init : Stmt := clsAt (top 14) 0
abbrev s_Tour_grow : Stmt := clsAt (top 14) 3
abbrev s_L_lists_right : Stmt := top 22
abbrev s_L_right : Stmt := top 23
abbrev s_Tour_copied : Stmt := clsAt (top 14) 11
abbrev s_law : Stmt := top 24
abbrev N_Order_init : List Str := ["self"]
theorem sc_Order_init : FnScope N_Order_init ["self"] (defScope s_Order_init) := ⟨rfl, rfl, rfl, by decide +kernel, rfl, by decide +kernel, by decide +kernel⟩
abbrev N_is_whole : List Str := ["thing", "low", "high"]
theorem sc_is_whole : FnScope N_is_whole ["thing", "low", "high"] (defScope s_is_whole) := ⟨rfl, rfl, rfl, by decide +kernel, rfl, by decide +kernel, by decide +kernel⟩
abbrev N_MakesError_init : List Str := ["self", "text"]
theorem sc_MakesError_init : FnScope N_MakesError_init ["self", "text"] (defScope s_MakesError_init) := ⟨rfl, rfl, rfl, by decide +kernel, rfl, by decide +kernel, by decide +kernel⟩
abbrev N_Order_label_behind : List Str := ["self", "at"]
theorem sc_Order_label_behind : FnScope N_Order_label_behind ["self", "at"] (defScope s_Order_label_behind) := ⟨rfl, rfl, rfl, by decide +kernel, rfl, by decide +kernel, by decide +kernel⟩
abbrev N_Order_label_all : List Str := ["self", "step", "at", "mark"]
theorem sc_Order_label_all : FnScope N_Order_label_all ["self"] (defScope s_Order_label_all) := ⟨rfl, rfl, rfl, by decide +kernel, rfl, by decide +kernel, by decide +kernel⟩
abbrev N_L_cell_at : List Str := ["_law_script", "_law_k"]
theorem sc_L_cell_at : FnScope N_L_cell_at ["_law_script", "_law_k"] (defScope s_L_cell_at) := ⟨rfl, rfl, rfl, by decide +kernel, rfl, by decide +kernel, by decide +kernel⟩
abbrev N_L_box : List Str := ["_law_cell"]
theorem sc_L_box : FnScope N_L_box ["_law_cell"] (defScope s_L_box) := ⟨rfl, rfl, rfl, by decide +kernel, rfl, by decide +kernel, by decide +kernel⟩
abbrev N_L_take : List Str := ["_law_box_here", "_law_many", "_law_digit", "_law_number"]
theorem sc_L_take : FnScope N_L_take ["_law_box_here", "_law_many"] (defScope s_L_take) := ⟨rfl, rfl, rfl, by decide +kernel, rfl, by decide +kernel, by decide +kernel⟩
abbrev N_L_end : List Str := ["_law_row", "_law_at"]
theorem sc_L_end : FnScope N_L_end ["_law_row", "_law_at"] (defScope s_L_end) := ⟨rfl, rfl, rfl, by decide +kernel, rfl, by decide +kernel, by decide +kernel⟩
abbrev N_Tour_many : List Str := ["self"]
theorem sc_Tour_many : FnScope N_Tour_many ["self"] (defScope s_Tour_many) := ⟨rfl, rfl, rfl, by decide +kernel, rfl, by decide +kernel, by decide +kernel⟩
abbrev N_Order_many : List Str := ["self"]
theorem sc_Order_many : FnScope N_Order_many ["self"] (defScope s_Order_many) := ⟨rfl, rfl, rfl, by decide +kernel, rfl, by decide +kernel, by decide +kernel⟩
abbrev N_Order_marks : List Str := ["self"]
theorem sc_Order_marks : FnScope N_Order_marks ["self"] (defScope s_Order_marks) := ⟨rfl, rfl, rfl, by decide +kernel, rfl, by decide +kernel, by decide +kernel⟩
abbrev N_Order_anew : List Str := ["self"]
theorem sc_Order_anew : FnScope N_Order_anew ["self"] (defScope s_Order_anew) := ⟨rfl, rfl, rfl, by decide +kernel, rfl, by decide +kernel, by decide +kernel⟩
abbrev N_NoMark_init : List Str := ["self", "found"]
theorem sc_NoMark_init : FnScope N_NoMark_init ["self", "found"] (defScope s_NoMark_init) := ⟨rfl, rfl, rfl, by decide +kernel, rfl, by decide +kernel, by decide +kernel⟩
abbrev N_TooMany_init : List Str := ["self", "count"]
theorem sc_TooMany_init : FnScope N_TooMany_init ["self", "count"] (defScope s_TooMany_init) := ⟨rfl, rfl, rfl, by decide +kernel, rfl, by decide +kernel, by decide +kernel⟩
abbrev N_L_one_of : List Str := ["_law_box_here", "_law_many", "_law_way", "_law_at"]
theorem sc_L_one_of : FnScope N_L_one_of ["_law_box_here", "_law_many"] (defScope s_L_one_of) := ⟨rfl, rfl, rfl, by decide +kernel, rfl, by decide +kernel, by decide +kernel⟩
abbrev N_NoMake_init : List Str := ["self", "found"]
theorem sc_NoMake_init : FnScope N_NoMake_init ["self", "found"] (defScope s_NoMake_init) := ⟨rfl, rfl, rfl, by decide +kernel, rfl, by decide +kernel, by decide +kernel⟩
abbrev N_L_lay : List Str := ["_law_model", "_law_mark", "_law_row", "_law_at", "_law_one", "_law_label", "_law_step", "_law_k"]
theorem sc_L_lay : FnScope N_L_lay ["_law_model", "_law_mark"] (defScope s_L_lay) := ⟨rfl, rfl, rfl, by decide +kernel, rfl, by decide +kernel, by decide +kernel⟩
abbrev N_Tour_by_marks : List Str := ["self", "side", "owners", "make", "marks", "mark"]
theorem sc_Tour_by_marks : FnScope N_Tour_by_marks ["self", "side"] (defScope s_Tour_by_marks) := ⟨rfl, rfl, rfl, by decide +kernel, rfl, by decide +kernel, by decide +kernel⟩
abbrev N_Order_copied : List Str := ["self", "other"]
theorem sc_Order_copied : FnScope N_Order_copied ["self"] (defScope s_Order_copied) := ⟨rfl, rfl, rfl, by decide +kernel, rfl, by decide +kernel, by decide +kernel⟩
abbrev N_Tour_coming : List Str := ["self"]
theorem sc_Tour_coming : FnScope N_Tour_coming ["self"] (defScope s_Tour_coming) := ⟨rfl, rfl, rfl, by decide +kernel, rfl, by decide +kernel, by decide +kernel⟩
abbrev N_Tour_leaving : List Str := ["self"]
theorem sc_Tour_leaving : FnScope N_Tour_leaving ["self"] (defScope s_Tour_leaving) := ⟨rfl, rfl, rfl, by decide +kernel, rfl, by decide +kernel, by decide +kernel⟩
abbrev N_Order_need_mark : List Str := ["self", "mark"]
theorem sc_Order_need_mark : FnScope N_Order_need_mark ["self", "mark"] (defScope s_Order_need_mark) := ⟨rfl, rfl, rfl, by decide +kernel, rfl, by decide +kernel, by decide +kernel⟩
abbrev N_Tour_need_make : List Str := ["self", "make"]
theorem sc_Tour_need_make : FnScope N_Tour_need_make ["self", "make"] (defScope s_Tour_need_make) := ⟨rfl, rfl, rfl, by decide +kernel, rfl, by decide +kernel, by decide +kernel⟩
abbrev N_Tour_order : List Str := ["self"]
theorem sc_Tour_order : FnScope N_Tour_order ["self"] (defScope s_Tour_order) := ⟨rfl, rfl, rfl, by decide +kernel, rfl, by decide +kernel, by decide +kernel⟩
abbrev N_Order_behind : List Str := ["self", "mark", "at", "number"]
theorem sc_Order_behind : FnScope N_Order_behind ["self", "mark"] (defScope s_Order_behind) := ⟨rfl, rfl, rfl, by decide +kernel, rfl, by decide +kernel, by decide +kernel⟩
abbrev N_Tour_marks_of : List Str := ["self", "make"]
theorem sc_Tour_marks_of : FnScope N_Tour_marks_of ["self", "make"] (defScope s_Tour_marks_of) := ⟨rfl, rfl, rfl, by decide +kernel, rfl, by decide +kernel, by decide +kernel⟩
abbrev N_Order_label : List Str := ["self", "mark"]
theorem sc_Order_label : FnScope N_Order_label ["self", "mark"] (defScope s_Order_label) := ⟨rfl, rfl, rfl, by decide +kernel, rfl, by decide +kernel, by decide +kernel⟩
abbrev N_Tour_init : List Str := ["self"]
theorem sc_Tour_init : FnScope N_Tour_init ["self"] (defScope s_Tour_init) := ⟨rfl, rfl, rfl, by decide +kernel, rfl, by decide +kernel, by decide +kernel⟩
abbrev N_Tour_grow : List Str := ["self", "make", "comes"]
theorem sc_Tour_grow : FnScope N_Tour_grow ["self", "make"] (defScope s_Tour_grow) := ⟨rfl, rfl, rfl, by decide +kernel, rfl, by decide +kernel, by decide +kernel⟩
abbrev N_L_lists_right : List Str := ["_law_tour", "_law_model", "_law_row", "_law_mark", "_law_label", "_law_lap", "_law_order", "_law_coming", "_law_leaving"]
theorem sc_L_lists_right : FnScope N_L_lists_right ["_law_tour", "_law_model"] (defScope s_L_lists_right) := ⟨rfl, rfl, rfl, by decide +kernel, rfl, by decide +kernel, by decide +kernel⟩
abbrev N_L_right : List Str := ["_law_box_here", "_law_tour", "_law_model", "_law_many", "_law_turn", "_law_make"]
theorem sc_L_right : FnScope N_L_right ["_law_box_here", "_law_tour", "_law_model"] (defScope s_L_right) := ⟨rfl, rfl, rfl, by decide +kernel, rfl, by decide +kernel, by decide +kernel⟩
abbrev N_Tour_copied : List Str := ["self", "other"]
theorem sc_Tour_copied : FnScope N_Tour_copied ["self"] (defScope s_Tour_copied) := ⟨rfl, rfl, rfl, by decide +kernel, rfl, by decide +kernel, by decide +kernel⟩
abbrev N_law : List Str := ["_law_script", "_law_tours", "_law_models", "_law_k", "_law_box_here", "_law_at", "_law_copies", "_law_due", "_law_make", "_law_one"]
theorem sc_law : FnScope N_law ["_law_script"] (defScope s_law) := ⟨rfl, rfl, rfl, by decide +kernel, rfl, by decide +kernel, by decide +kernel⟩
def fa : List He.Fa := [.glo "is_whole", .glo "_law_cell_at", .glo "_law_box", .glo "_law_take", .glo "_law_end", .glo "_law_one_of", .glo "_law_lay", .glo "_law_lists_right", .glo "_law_right", .glo "law", .glo "MakesError", .glo "NoMake", .glo "NoMark", .glo "TooMany", .glo "Order", .glo "Tour", .free "ValueError", .free "bool", .free "dict", .free "enumerate", .free "int", .free "isinstance", .free "len", .free "list", .free "max", .free "min", .free "range", .free "repr", .int "MOST_MARKS" 200, .int "TOP_LABEL" 1024, .int "MOST_MAKES" 64, .cls "Order", .noat "Order" "standing", .noat "Order" "labelled", .noat "Order" "given", .noat "Order" "times", .mkr "Order", .cls "Tour", .noat "Tour" "placed", .noat "NoMark" "found", .meth "Order" "need_mark", .noat "TooMany" "count", .meth "Order" "label_behind", .meth "Order" "label_all", .meth "Order" "behind", .noat "Tour" "both_marks", .mkr "Tour", .noat "NoMake" "found", .meth "Tour" "need_make", .meth "Tour" "grow", .meth "Order" "copied", .meth "Tour" "copied", .meth "Tour" "many", .meth "Order" "many", .meth "Tour" "marks_of", .meth "Tour" "order", .meth "Order" "marks", .meth "Tour" "by_marks", .meth "Tour" "coming", .meth "Tour" "leaving", .meth "Order" "label", .meth "Order" "anew"]
def xa : List Xa := [.veb , .cfn "MakesError" "__init__", .oex "NoMark", .init "NoMark", .oex "TooMany", .init "TooMany", .oex "NoMake", .init "NoMake", .isc "Tour", .kit "Tour" "Order" false, .isc "Order", .kit "Order" "Order" true]
abbrev dd_Order_init : He.DefD := ⟨("Order", some "__init__"), "__init__", "Order.__init__", defArgs s_Order_init, defBody s_Order_init, defScope s_Order_init, [], []⟩
abbrev dd_is_whole : He.DefD := ⟨("is_whole", none), "is_whole", "is_whole", defArgs s_is_whole, defBody s_is_whole, defScope s_is_whole, [], []⟩
abbrev dd_MakesError_init : He.DefD := ⟨("MakesError", some "__init__"), "__init__", "MakesError.__init__", defArgs s_MakesError_init, defBody s_MakesError_init, defScope s_MakesError_init, [], []⟩
abbrev dd_Order_label_behind : He.DefD := ⟨("Order", some "label_behind"), "label_behind", "Order.label_behind", defArgs s_Order_label_behind, defBody s_Order_label_behind, defScope s_Order_label_behind, [], []⟩
abbrev dd_Order_label_all : He.DefD := ⟨("Order", some "label_all"), "label_all", "Order.label_all", defArgs s_Order_label_all, defBody s_Order_label_all, defScope s_Order_label_all, [], []⟩
abbrev dd_L_cell_at : He.DefD := ⟨("_law_cell_at", none), "_law_cell_at", "_law_cell_at", defArgs s_L_cell_at, defBody s_L_cell_at, defScope s_L_cell_at, [], []⟩
abbrev dd_L_box : He.DefD := ⟨("_law_box", none), "_law_box", "_law_box", defArgs s_L_box, defBody s_L_box, defScope s_L_box, [], []⟩
abbrev dd_L_take : He.DefD := ⟨("_law_take", none), "_law_take", "_law_take", defArgs s_L_take, defBody s_L_take, defScope s_L_take, [], []⟩
abbrev dd_L_end : He.DefD := ⟨("_law_end", none), "_law_end", "_law_end", defArgs s_L_end, defBody s_L_end, defScope s_L_end, [], []⟩
abbrev dd_Tour_many : He.DefD := ⟨("Tour", some "many"), "many", "Tour.many", defArgs s_Tour_many, defBody s_Tour_many, defScope s_Tour_many, [], []⟩
abbrev dd_Order_many : He.DefD := ⟨("Order", some "many"), "many", "Order.many", defArgs s_Order_many, defBody s_Order_many, defScope s_Order_many, [], []⟩
abbrev dd_Order_marks : He.DefD := ⟨("Order", some "marks"), "marks", "Order.marks", defArgs s_Order_marks, defBody s_Order_marks, defScope s_Order_marks, [], []⟩
abbrev dd_Order_anew : He.DefD := ⟨("Order", some "anew"), "anew", "Order.anew", defArgs s_Order_anew, defBody s_Order_anew, defScope s_Order_anew, [], []⟩
abbrev dd_NoMark_init : He.DefD := ⟨("NoMark", some "__init__"), "__init__", "NoMark.__init__", defArgs s_NoMark_init, defBody s_NoMark_init, defScope s_NoMark_init, [], []⟩
abbrev dd_TooMany_init : He.DefD := ⟨("TooMany", some "__init__"), "__init__", "TooMany.__init__", defArgs s_TooMany_init, defBody s_TooMany_init, defScope s_TooMany_init, [], []⟩
abbrev dd_L_one_of : He.DefD := ⟨("_law_one_of", none), "_law_one_of", "_law_one_of", defArgs s_L_one_of, defBody s_L_one_of, defScope s_L_one_of, [], []⟩
abbrev dd_NoMake_init : He.DefD := ⟨("NoMake", some "__init__"), "__init__", "NoMake.__init__", defArgs s_NoMake_init, defBody s_NoMake_init, defScope s_NoMake_init, [], []⟩
abbrev dd_L_lay : He.DefD := ⟨("_law_lay", none), "_law_lay", "_law_lay", defArgs s_L_lay, defBody s_L_lay, defScope s_L_lay, [], []⟩
abbrev dd_Tour_by_marks : He.DefD := ⟨("Tour", some "by_marks"), "by_marks", "Tour.by_marks", defArgs s_Tour_by_marks, defBody s_Tour_by_marks, defScope s_Tour_by_marks, [], []⟩
abbrev dd_Order_copied : He.DefD := ⟨("Order", some "copied"), "copied", "Order.copied", defArgs s_Order_copied, defBody s_Order_copied, defScope s_Order_copied, [], []⟩
abbrev dd_Tour_coming : He.DefD := ⟨("Tour", some "coming"), "coming", "Tour.coming", defArgs s_Tour_coming, defBody s_Tour_coming, defScope s_Tour_coming, [], []⟩
abbrev dd_Tour_leaving : He.DefD := ⟨("Tour", some "leaving"), "leaving", "Tour.leaving", defArgs s_Tour_leaving, defBody s_Tour_leaving, defScope s_Tour_leaving, [], []⟩
abbrev dd_Order_need_mark : He.DefD := ⟨("Order", some "need_mark"), "need_mark", "Order.need_mark", defArgs s_Order_need_mark, defBody s_Order_need_mark, defScope s_Order_need_mark, [], []⟩
abbrev dd_Tour_need_make : He.DefD := ⟨("Tour", some "need_make"), "need_make", "Tour.need_make", defArgs s_Tour_need_make, defBody s_Tour_need_make, defScope s_Tour_need_make, [], []⟩
abbrev dd_Tour_order : He.DefD := ⟨("Tour", some "order"), "order", "Tour.order", defArgs s_Tour_order, defBody s_Tour_order, defScope s_Tour_order, [], []⟩
abbrev dd_Order_behind : He.DefD := ⟨("Order", some "behind"), "behind", "Order.behind", defArgs s_Order_behind, defBody s_Order_behind, defScope s_Order_behind, [], []⟩
abbrev dd_Tour_marks_of : He.DefD := ⟨("Tour", some "marks_of"), "marks_of", "Tour.marks_of", defArgs s_Tour_marks_of, defBody s_Tour_marks_of, defScope s_Tour_marks_of, [], []⟩
abbrev dd_Order_label : He.DefD := ⟨("Order", some "label"), "label", "Order.label", defArgs s_Order_label, defBody s_Order_label, defScope s_Order_label, [], []⟩
abbrev dd_Tour_init : He.DefD := ⟨("Tour", some "__init__"), "__init__", "Tour.__init__", defArgs s_Tour_init, defBody s_Tour_init, defScope s_Tour_init, [], []⟩
abbrev dd_Tour_grow : He.DefD := ⟨("Tour", some "grow"), "grow", "Tour.grow", defArgs s_Tour_grow, defBody s_Tour_grow, defScope s_Tour_grow, [], []⟩
abbrev dd_L_lists_right : He.DefD := ⟨("_law_lists_right", none), "_law_lists_right", "_law_lists_right", defArgs s_L_lists_right, defBody s_L_lists_right, defScope s_L_lists_right, [], []⟩
abbrev dd_L_right : He.DefD := ⟨("_law_right", none), "_law_right", "_law_right", defArgs s_L_right, defBody s_L_right, defScope s_L_right, [], []⟩
abbrev dd_Tour_copied : He.DefD := ⟨("Tour", some "copied"), "copied", "Tour.copied", defArgs s_Tour_copied, defBody s_Tour_copied, defScope s_Tour_copied, [], []⟩
abbrev dd_law : He.DefD := ⟨("law", none), "law", "law", defArgs s_law, defBody s_law, defScope s_law, [], []⟩
def fn : List He.DefD := [dd_Order_init, dd_is_whole, dd_MakesError_init, dd_Order_label_behind, dd_Order_label_all, dd_L_cell_at, dd_L_box, dd_L_take, dd_L_end, dd_Tour_many, dd_Order_many, dd_Order_marks, dd_Order_anew, dd_NoMark_init, dd_TooMany_init, dd_L_one_of, dd_NoMake_init, dd_L_lay, dd_Tour_by_marks, dd_Order_copied, dd_Tour_coming, dd_Tour_leaving, dd_Order_need_mark, dd_Tour_need_make, dd_Tour_order, dd_Order_behind, dd_Tour_marks_of, dd_Order_label, dd_Tour_init, dd_Tour_grow, dd_L_lists_right, dd_L_right, dd_Tour_copied, dd_law]
section
variable {P : Program} {w : World} {K : PySem.W.Frag} {mg : Str → Option Value} {base : Heap}
theorem g_is_whole (c : SaysM fa fn xa K) (kin : K.In base) (ns : base.Ns mainGlobals mg) : mg "is_whole" = some (.ref (He.ga K "is_whole")) := He.glo_ok kin ns (c.fact 0 (f := .glo "is_whole") rfl)
theorem g_L_cell_at (c : SaysM fa fn xa K) (kin : K.In base) (ns : base.Ns mainGlobals mg) : mg "_law_cell_at" = some (.ref (He.ga K "_law_cell_at")) := He.glo_ok kin ns (c.fact 1 (f := .glo "_law_cell_at") rfl)
theorem g_L_box (c : SaysM fa fn xa K) (kin : K.In base) (ns : base.Ns mainGlobals mg) : mg "_law_box" = some (.ref (He.ga K "_law_box")) := He.glo_ok kin ns (c.fact 2 (f := .glo "_law_box") rfl)
theorem g_L_take (c : SaysM fa fn xa K) (kin : K.In base) (ns : base.Ns mainGlobals mg) : mg "_law_take" = some (.ref (He.ga K "_law_take")) := He.glo_ok kin ns (c.fact 3 (f := .glo "_law_take") rfl)
theorem g_L_end (c : SaysM fa fn xa K) (kin : K.In base) (ns : base.Ns mainGlobals mg) : mg "_law_end" = some (.ref (He.ga K "_law_end")) := He.glo_ok kin ns (c.fact 4 (f := .glo "_law_end") rfl)
theorem g_L_one_of (c : SaysM fa fn xa K) (kin : K.In base) (ns : base.Ns mainGlobals mg) : mg "_law_one_of" = some (.ref (He.ga K "_law_one_of")) := He.glo_ok kin ns (c.fact 5 (f := .glo "_law_one_of") rfl)
theorem g_L_lay (c : SaysM fa fn xa K) (kin : K.In base) (ns : base.Ns mainGlobals mg) : mg "_law_lay" = some (.ref (He.ga K "_law_lay")) := He.glo_ok kin ns (c.fact 6 (f := .glo "_law_lay") rfl)
theorem g_L_lists_right (c : SaysM fa fn xa K) (kin : K.In base) (ns : base.Ns mainGlobals mg) : mg "_law_lists_right" = some (.ref (He.ga K "_law_lists_right")) := He.glo_ok kin ns (c.fact 7 (f := .glo "_law_lists_right") rfl)
theorem g_L_right (c : SaysM fa fn xa K) (kin : K.In base) (ns : base.Ns mainGlobals mg) : mg "_law_right" = some (.ref (He.ga K "_law_right")) := He.glo_ok kin ns (c.fact 8 (f := .glo "_law_right") rfl)
theorem g_law (c : SaysM fa fn xa K) (kin : K.In base) (ns : base.Ns mainGlobals mg) : mg "law" = some (.ref (He.ga K "law")) := He.glo_ok kin ns (c.fact 9 (f := .glo "law") rfl)
theorem g_MakesError (c : SaysM fa fn xa K) (kin : K.In base) (ns : base.Ns mainGlobals mg) : mg "MakesError" = some (.ref (He.ga K "MakesError")) := He.glo_ok kin ns (c.fact 10 (f := .glo "MakesError") rfl)
theorem g_NoMake (c : SaysM fa fn xa K) (kin : K.In base) (ns : base.Ns mainGlobals mg) : mg "NoMake" = some (.ref (He.ga K "NoMake")) := He.glo_ok kin ns (c.fact 11 (f := .glo "NoMake") rfl)
theorem g_NoMark (c : SaysM fa fn xa K) (kin : K.In base) (ns : base.Ns mainGlobals mg) : mg "NoMark" = some (.ref (He.ga K "NoMark")) := He.glo_ok kin ns (c.fact 12 (f := .glo "NoMark") rfl)
theorem g_TooMany (c : SaysM fa fn xa K) (kin : K.In base) (ns : base.Ns mainGlobals mg) : mg "TooMany" = some (.ref (He.ga K "TooMany")) := He.glo_ok kin ns (c.fact 13 (f := .glo "TooMany") rfl)
theorem g_Order (c : SaysM fa fn xa K) (kin : K.In base) (ns : base.Ns mainGlobals mg) : mg "Order" = some (.ref (He.ga K "Order")) := He.glo_ok kin ns (c.fact 14 (f := .glo "Order") rfl)
theorem g_Tour (c : SaysM fa fn xa K) (kin : K.In base) (ns : base.Ns mainGlobals mg) : mg "Tour" = some (.ref (He.ga K "Tour")) := He.glo_ok kin ns (c.fact 15 (f := .glo "Tour") rfl)
theorem k_is_whole (c : SaysM fa fn xa K) (kin : K.In base) (ns : base.Ns mainGlobals mg) : PySem.W.keepIn K (.ref (He.ga K "is_whole")) = true := (c.def_ 1 (d := dd_is_whole) rfl).elim fun _ F => F.kp
theorem k_L_cell_at (c : SaysM fa fn xa K) (kin : K.In base) (ns : base.Ns mainGlobals mg) : PySem.W.keepIn K (.ref (He.ga K "_law_cell_at")) = true := (c.def_ 5 (d := dd_L_cell_at) rfl).elim fun _ F => F.kp
theorem k_L_box (c : SaysM fa fn xa K) (kin : K.In base) (ns : base.Ns mainGlobals mg) : PySem.W.keepIn K (.ref (He.ga K "_law_box")) = true := (c.def_ 6 (d := dd_L_box) rfl).elim fun _ F => F.kp
theorem k_L_take (c : SaysM fa fn xa K) (kin : K.In base) (ns : base.Ns mainGlobals mg) : PySem.W.keepIn K (.ref (He.ga K "_law_take")) = true := (c.def_ 7 (d := dd_L_take) rfl).elim fun _ F => F.kp
theorem k_L_end (c : SaysM fa fn xa K) (kin : K.In base) (ns : base.Ns mainGlobals mg) : PySem.W.keepIn K (.ref (He.ga K "_law_end")) = true := (c.def_ 8 (d := dd_L_end) rfl).elim fun _ F => F.kp
theorem k_L_one_of (c : SaysM fa fn xa K) (kin : K.In base) (ns : base.Ns mainGlobals mg) : PySem.W.keepIn K (.ref (He.ga K "_law_one_of")) = true := (c.def_ 15 (d := dd_L_one_of) rfl).elim fun _ F => F.kp
theorem k_L_lay (c : SaysM fa fn xa K) (kin : K.In base) (ns : base.Ns mainGlobals mg) : PySem.W.keepIn K (.ref (He.ga K "_law_lay")) = true := (c.def_ 17 (d := dd_L_lay) rfl).elim fun _ F => F.kp
theorem k_L_lists_right (c : SaysM fa fn xa K) (kin : K.In base) (ns : base.Ns mainGlobals mg) : PySem.W.keepIn K (.ref (He.ga K "_law_lists_right")) = true := (c.def_ 30 (d := dd_L_lists_right) rfl).elim fun _ F => F.kp
theorem k_L_right (c : SaysM fa fn xa K) (kin : K.In base) (ns : base.Ns mainGlobals mg) : PySem.W.keepIn K (.ref (He.ga K "_law_right")) = true := (c.def_ 31 (d := dd_L_right) rfl).elim fun _ F => F.kp
theorem k_law (c : SaysM fa fn xa K) (kin : K.In base) (ns : base.Ns mainGlobals mg) : PySem.W.keepIn K (.ref (He.ga K "law")) = true := (c.def_ 33 (d := dd_law) rfl).elim fun _ F => F.kp
theorem f_ValueError (c : SaysM fa fn xa K) (kin : K.In base) (ns : base.Ns mainGlobals mg) : mg "ValueError" = none := He.free_ok kin ns (c.fact 16 (f := .free "ValueError") rfl)
theorem f_bool (c : SaysM fa fn xa K) (kin : K.In base) (ns : base.Ns mainGlobals mg) : mg "bool" = none := He.free_ok kin ns (c.fact 17 (f := .free "bool") rfl)
theorem f_dict (c : SaysM fa fn xa K) (kin : K.In base) (ns : base.Ns mainGlobals mg) : mg "dict" = none := He.free_ok kin ns (c.fact 18 (f := .free "dict") rfl)
theorem f_enumerate (c : SaysM fa fn xa K) (kin : K.In base) (ns : base.Ns mainGlobals mg) : mg "enumerate" = none := He.free_ok kin ns (c.fact 19 (f := .free "enumerate") rfl)
theorem f_int (c : SaysM fa fn xa K) (kin : K.In base) (ns : base.Ns mainGlobals mg) : mg "int" = none := He.free_ok kin ns (c.fact 20 (f := .free "int") rfl)
theorem f_isinstance (c : SaysM fa fn xa K) (kin : K.In base) (ns : base.Ns mainGlobals mg) : mg "isinstance" = none := He.free_ok kin ns (c.fact 21 (f := .free "isinstance") rfl)
theorem f_len (c : SaysM fa fn xa K) (kin : K.In base) (ns : base.Ns mainGlobals mg) : mg "len" = none := He.free_ok kin ns (c.fact 22 (f := .free "len") rfl)
theorem f_list (c : SaysM fa fn xa K) (kin : K.In base) (ns : base.Ns mainGlobals mg) : mg "list" = none := He.free_ok kin ns (c.fact 23 (f := .free "list") rfl)
theorem f_max (c : SaysM fa fn xa K) (kin : K.In base) (ns : base.Ns mainGlobals mg) : mg "max" = none := He.free_ok kin ns (c.fact 24 (f := .free "max") rfl)
theorem f_min (c : SaysM fa fn xa K) (kin : K.In base) (ns : base.Ns mainGlobals mg) : mg "min" = none := He.free_ok kin ns (c.fact 25 (f := .free "min") rfl)
theorem f_range (c : SaysM fa fn xa K) (kin : K.In base) (ns : base.Ns mainGlobals mg) : mg "range" = none := He.free_ok kin ns (c.fact 26 (f := .free "range") rfl)
theorem f_repr (c : SaysM fa fn xa K) (kin : K.In base) (ns : base.Ns mainGlobals mg) : mg "repr" = none := He.free_ok kin ns (c.fact 27 (f := .free "repr") rfl)
theorem c_MOST_MARKS (c : SaysM fa fn xa K) (kin : K.In base) (ns : base.Ns mainGlobals mg) : ∃ u, mg "MOST_MARKS" = some u ∧ L2.RelV (.int 200) u := (He.int_ok kin ns (c.fact 28 (f := .int "MOST_MARKS" 200) rfl)).elim fun t e => ⟨_, e, t, rfl⟩
theorem c_TOP_LABEL (c : SaysM fa fn xa K) (kin : K.In base) (ns : base.Ns mainGlobals mg) : ∃ u, mg "TOP_LABEL" = some u ∧ L2.RelV (.int 1024) u := (He.int_ok kin ns (c.fact 29 (f := .int "TOP_LABEL" 1024) rfl)).elim fun t e => ⟨_, e, t, rfl⟩
theorem c_MOST_MAKES (c : SaysM fa fn xa K) (kin : K.In base) (ns : base.Ns mainGlobals mg) : ∃ u, mg "MOST_MAKES" = some u ∧ L2.RelV (.int 64) u := (He.int_ok kin ns (c.fact 30 (f := .int "MOST_MAKES" 64) rfl)).elim fun t e => ⟨_, e, t, rfl⟩
theorem fa_cls_Order (c : SaysM fa fn xa K) : (He.Fa.cls "Order" : He.Fa).ok K = true := c.fact 31 rfl
theorem fa_noat_Order_standing (c : SaysM fa fn xa K) : (He.Fa.noat "Order" "standing" : He.Fa).ok K = true := c.fact 32 rfl
theorem fa_noat_Order_labelled (c : SaysM fa fn xa K) : (He.Fa.noat "Order" "labelled" : He.Fa).ok K = true := c.fact 33 rfl
theorem fa_noat_Order_given (c : SaysM fa fn xa K) : (He.Fa.noat "Order" "given" : He.Fa).ok K = true := c.fact 34 rfl
theorem fa_noat_Order_times (c : SaysM fa fn xa K) : (He.Fa.noat "Order" "times" : He.Fa).ok K = true := c.fact 35 rfl
theorem fa_mkr_Order (c : SaysM fa fn xa K) : (He.Fa.mkr "Order" : He.Fa).ok K = true := c.fact 36 rfl
theorem fa_cls_Tour (c : SaysM fa fn xa K) : (He.Fa.cls "Tour" : He.Fa).ok K = true := c.fact 37 rfl
theorem fa_noat_Tour_placed (c : SaysM fa fn xa K) : (He.Fa.noat "Tour" "placed" : He.Fa).ok K = true := c.fact 38 rfl
theorem fa_noat_NoMark_found (c : SaysM fa fn xa K) : (He.Fa.noat "NoMark" "found" : He.Fa).ok K = true := c.fact 39 rfl
theorem fa_meth_Order_need_mark (c : SaysM fa fn xa K) : (He.Fa.meth "Order" "need_mark" : He.Fa).ok K = true := c.fact 40 rfl
theorem fa_noat_TooMany_count (c : SaysM fa fn xa K) : (He.Fa.noat "TooMany" "count" : He.Fa).ok K = true := c.fact 41 rfl
theorem fa_meth_Order_label_behind (c : SaysM fa fn xa K) : (He.Fa.meth "Order" "label_behind" : He.Fa).ok K = true := c.fact 42 rfl
theorem fa_meth_Order_label_all (c : SaysM fa fn xa K) : (He.Fa.meth "Order" "label_all" : He.Fa).ok K = true := c.fact 43 rfl
theorem fa_meth_Order_behind (c : SaysM fa fn xa K) : (He.Fa.meth "Order" "behind" : He.Fa).ok K = true := c.fact 44 rfl
theorem fa_noat_Tour_both_marks (c : SaysM fa fn xa K) : (He.Fa.noat "Tour" "both_marks" : He.Fa).ok K = true := c.fact 45 rfl
theorem fa_mkr_Tour (c : SaysM fa fn xa K) : (He.Fa.mkr "Tour" : He.Fa).ok K = true := c.fact 46 rfl
theorem fa_noat_NoMake_found (c : SaysM fa fn xa K) : (He.Fa.noat "NoMake" "found" : He.Fa).ok K = true := c.fact 47 rfl
theorem fa_meth_Tour_need_make (c : SaysM fa fn xa K) : (He.Fa.meth "Tour" "need_make" : He.Fa).ok K = true := c.fact 48 rfl
theorem fa_meth_Tour_grow (c : SaysM fa fn xa K) : (He.Fa.meth "Tour" "grow" : He.Fa).ok K = true := c.fact 49 rfl
theorem fa_meth_Order_copied (c : SaysM fa fn xa K) : (He.Fa.meth "Order" "copied" : He.Fa).ok K = true := c.fact 50 rfl
theorem fa_meth_Tour_copied (c : SaysM fa fn xa K) : (He.Fa.meth "Tour" "copied" : He.Fa).ok K = true := c.fact 51 rfl
theorem fa_meth_Tour_many (c : SaysM fa fn xa K) : (He.Fa.meth "Tour" "many" : He.Fa).ok K = true := c.fact 52 rfl
theorem fa_meth_Order_many (c : SaysM fa fn xa K) : (He.Fa.meth "Order" "many" : He.Fa).ok K = true := c.fact 53 rfl
theorem fa_meth_Tour_marks_of (c : SaysM fa fn xa K) : (He.Fa.meth "Tour" "marks_of" : He.Fa).ok K = true := c.fact 54 rfl
theorem fa_meth_Tour_order (c : SaysM fa fn xa K) : (He.Fa.meth "Tour" "order" : He.Fa).ok K = true := c.fact 55 rfl
theorem fa_meth_Order_marks (c : SaysM fa fn xa K) : (He.Fa.meth "Order" "marks" : He.Fa).ok K = true := c.fact 56 rfl
theorem fa_meth_Tour_by_marks (c : SaysM fa fn xa K) : (He.Fa.meth "Tour" "by_marks" : He.Fa).ok K = true := c.fact 57 rfl
theorem fa_meth_Tour_coming (c : SaysM fa fn xa K) : (He.Fa.meth "Tour" "coming" : He.Fa).ok K = true := c.fact 58 rfl
theorem fa_meth_Tour_leaving (c : SaysM fa fn xa K) : (He.Fa.meth "Tour" "leaving" : He.Fa).ok K = true := c.fact 59 rfl
theorem fa_meth_Order_label (c : SaysM fa fn xa K) : (He.Fa.meth "Order" "label" : He.Fa).ok K = true := c.fact 60 rfl
theorem fa_meth_Order_anew (c : SaysM fa fn xa K) : (He.Fa.meth "Order" "anew" : He.Fa).ok K = true := c.fact 61 rfl
theorem xa_veb (c : SaysM fa fn xa K) : (Xa.veb  : Xa).ok K = true := c.xact 0 rfl
theorem xa_cfn_MakesError___init__ (c : SaysM fa fn xa K) : (Xa.cfn "MakesError" "__init__" : Xa).ok K = true := c.xact 1 rfl
theorem xa_oex_NoMark (c : SaysM fa fn xa K) : (Xa.oex "NoMark" : Xa).ok K = true := c.xact 2 rfl
theorem xa_init_NoMark (c : SaysM fa fn xa K) : (Xa.init "NoMark" : Xa).ok K = true := c.xact 3 rfl
theorem xa_oex_TooMany (c : SaysM fa fn xa K) : (Xa.oex "TooMany" : Xa).ok K = true := c.xact 4 rfl
theorem xa_init_TooMany (c : SaysM fa fn xa K) : (Xa.init "TooMany" : Xa).ok K = true := c.xact 5 rfl
theorem xa_oex_NoMake (c : SaysM fa fn xa K) : (Xa.oex "NoMake" : Xa).ok K = true := c.xact 6 rfl
theorem xa_init_NoMake (c : SaysM fa fn xa K) : (Xa.init "NoMake" : Xa).ok K = true := c.xact 7 rfl
theorem xa_isc_Tour (c : SaysM fa fn xa K) : (Xa.isc "Tour" : Xa).ok K = true := c.xact 8 rfl
theorem xa_kit_Tour_Order_False (c : SaysM fa fn xa K) : (Xa.kit "Tour" "Order" false : Xa).ok K = true := c.xact 9 rfl
theorem xa_isc_Order (c : SaysM fa fn xa K) : (Xa.isc "Order" : Xa).ok K = true := c.xact 10 rfl
theorem xa_kit_Order_Order_True (c : SaysM fa fn xa K) : (Xa.kit "Order" "Order" true : Xa).ok K = true := c.xact 11 rfl
theorem ok_Order_init (c : SaysM fa fn xa K) (kin : K.In base) (ns : base.Ns mainGlobals mg) : OkG P w K mg base 1 (He.ma K (He.ga K "Order") "__init__") ["self"] (sp_Order_init K) := by
  refine OkG.of (t := t_Order_init K) (n := 1) (m := 0) (c.def_ 0 (d := dd_Order_init) rfl) sc_Order_init (fun _ _ _ _ _ _ us hl => match us, hl with | [_], _ => rfl) rfl rfl (fun vs H Q E z => by unfold sp_Order_init at z; exact z) ?_
  intro cdv A outer s H E hr hg
  have hu := hr.units
  exact pss_cons (mstf (mlst (mac (mi) (man))) (mv 0) (clc ⟨He.cls_ok (fa_cls_Order c), He.noat_ok (fa_noat_Order_standing c)⟩ (cl0))) (pss_cons (mstf (mdis (pps_cons (mi) (mi) (pps_nil))) (mv 0) (clc ⟨He.cls_ok (fa_cls_Order c), He.noat_ok (fa_noat_Order_labelled c)⟩ (cl0))) (pss_cons (mstf (mi) (mv 0) (clc ⟨He.cls_ok (fa_cls_Order c), He.noat_ok (fa_noat_Order_given c)⟩ (cl0))) (pss_one (mstf (mi) (mv 0) (clc ⟨He.cls_ok (fa_cls_Order c), He.noat_ok (fa_noat_Order_times c)⟩ (cl0))))))
theorem ok_is_whole (c : SaysM fa fn xa K) (kin : K.In base) (ns : base.Ns mainGlobals mg) : OkG P w K mg base 1 (He.ga K "is_whole") ["thing", "low", "high"] (sp_is_whole K) := by
  refine OkG.of (t := t_is_whole K) (n := 3) (m := 0) (c.def_ 1 (d := dd_is_whole) rfl) sc_is_whole (fun _ _ _ _ _ _ us hl => match us, hl with | [_, _, _], _ => rfl) rfl rfl (fun vs H Q E z => by unfold sp_is_whole at z; exact z) ?_
  intro cdv A outer s H E hr hg
  have hu := hr.units
  exact pss_one (msr (mea (mcb (k_isi (T := .int) (fun z => by cases z)) rfl (f_isinstance c kin ns) (by decide +kernel) (mac (mv 0) (mac (mc (pe_bltn rfl (f_int c kin ns) (by decide +kernel) rfl)) man))) (mea (men (mcb (k_isi (T := .bool) (fun z => by cases z)) rfl (f_isinstance c kin ns) (by decide +kernel) (mac (mv 0) (mac (mc (pe_bltn rfl (f_bool c kin ns) (by decide +kernel) rfl)) man)))) (me1 (mch o_le o_le (mv 1) (mv 0) (mv 2))))))
theorem ok_MakesError_init (c : SaysM fa fn xa K) (kin : K.In base) (ns : base.Ns mainGlobals mg) : OkG P w K mg base 1 (He.ma K (He.ga K "MakesError") "__init__") ["self", "text"] (sp_MakesError_init K) := by
  refine OkG.of (t := t_MakesError_init K) (n := 2) (m := 0) (c.def_ 2 (d := dd_MakesError_init) rfl) sc_MakesError_init (fun _ _ _ _ _ _ us hl => match us, hl with | [_, _], _ => rfl) rfl rfl (fun vs H Q E z => by unfold sp_MakesError_init at z; exact z) ?_
  intro cdv A outer s H E hr hg
  have hu := hr.units
  exact pss_one (msx (pe_veinit rfl (f_ValueError c kin ns) (veb_ok (xa_veb c)) (mac (mv 0) (mac (mv 1) (man)))))
theorem ok_Order_label_behind (c : SaysM fa fn xa K) (kin : K.In base) (ns : base.Ns mainGlobals mg) : OkG P w K mg base 1 (He.ma K (He.ga K "Order") "label_behind") ["self", "at"] (sp_Order_label_behind K) := by
  refine OkG.of (t := t_Order_label_behind K) (n := 2) (m := 0) (c.def_ 3 (d := dd_Order_label_behind) rfl) sc_Order_label_behind (fun _ _ _ _ _ _ us hl => match us, hl with | [_, _], _ => rfl) rfl rfl (fun vs H Q E z => by unfold sp_Order_label_behind at z; exact z) ?_
  intro cdv A outer s H E hr hg
  have hu := hr.units
  exact pss_cons (msif (mtc o_lt (mbin o_add (mv 1) (mi)) (mcb k_len rfl (f_len c kin ns) (by decide +kernel) (mac (mfld (mv 0) (clc ⟨He.cls_ok (fa_cls_Order c), He.noat_ok (fa_noat_Order_standing c)⟩ (cl0))) (man)))) (pss_one (msr (mix hu (mfld (mv 0) (clc ⟨He.cls_ok (fa_cls_Order c), He.noat_ok (fa_noat_Order_labelled c)⟩ (cl0))) (mix hu (mfld (mv 0) (clc ⟨He.cls_ok (fa_cls_Order c), He.noat_ok (fa_noat_Order_standing c)⟩ (cl0))) (mbin o_add (mv 1) (mi)))))) (pss_nil)) (pss_one (msr (mg_ rfl (c_TOP_LABEL c kin ns))))
theorem ok_Order_label_all (c : SaysM fa fn xa K) (kin : K.In base) (ns : base.Ns mainGlobals mg) : OkG P w K mg base 1 (He.ma K (He.ga K "Order") "label_all") ["self"] (sp_Order_label_all K) := by
  refine OkG.of (t := t_Order_label_all K) (n := 1) (m := 3) (c.def_ 4 (d := dd_Order_label_all) rfl) sc_Order_label_all (fun _ _ _ _ _ _ us hl => match us, hl with | [_], _ => rfl) rfl rfl (fun vs H Q E z => by unfold sp_Order_label_all at z; exact z) ?_
  intro cdv A outer s H E hr hg
  have hu := hr.units
  exact pss_cons (mset (i := 1) sc_Order_label_all.nd rfl (by first | exact Or.inl rfl | exact Or.inr rfl) (mbin o_div (mg_ rfl (c_TOP_LABEL c kin ns)) (mcb k_len rfl (f_len c kin ns) (by decide +kernel) (mac (mfld (mv 0) (clc ⟨He.cls_ok (fa_cls_Order c), He.noat_ok (fa_noat_Order_standing c)⟩ (cl0))) (man))))) (pss_cons (mfor hp_of rfl (menu rfl (f_enumerate c kin ns) (mac (mfld (mv 0) (clc ⟨He.cls_ok (fa_cls_Order c), He.noat_ok (fa_noat_Order_standing c)⟩ (cl0))) (man))) (mgu rfl (mg1 (mgn sc_Order_label_all.nd rfl (by first | exact Or.inl rfl | exact Or.inr rfl)) (mg1 (mgn sc_Order_label_all.nd rfl (by first | exact Or.inl rfl | exact Or.inr rfl)) (mg0)))) (pss_one (mseti hu (mbin o_mul (mv 2) (mv 1)) (mfld (mv 0) (clc ⟨He.cls_ok (fa_cls_Order c), He.noat_ok (fa_noat_Order_labelled c)⟩ (cl0))) (mv 3)))) (pss_one (magf (mv 0) (mi) g_add (clc ⟨He.cls_ok (fa_cls_Order c), He.noat_ok (fa_noat_Order_times c)⟩ (cl0)))))
theorem ok_L_cell_at (c : SaysM fa fn xa K) (kin : K.In base) (ns : base.Ns mainGlobals mg) : OkG P w K mg base 1 (He.ga K "_law_cell_at") ["_law_script", "_law_k"] (sp_L_cell_at K) := by
  refine OkG.of (t := t_L_cell_at K) (n := 2) (m := 0) (c.def_ 5 (d := dd_L_cell_at) rfl) sc_L_cell_at (fun _ _ _ _ _ _ us hl => match us, hl with | [_, _], _ => rfl) rfl rfl (fun vs H Q E z => by unfold sp_L_cell_at at z; exact z) ?_
  intro cdv A outer s H E hr hg
  have hu := hr.units
  exact pss_cons (msif (mtc o_lt (mv 1) (mcb k_len rfl (f_len c kin ns) (by decide +kernel) (mac (mv 0) (man)))) (pss_one (msr (mix hu (mv 0) (mv 1)))) (pss_nil)) (pss_one (msr (mbin o_add (mbin o_mul (mi) (mv 1)) (mi))))
theorem ok_L_box (c : SaysM fa fn xa K) (kin : K.In base) (ns : base.Ns mainGlobals mg) : OkG P w K mg base 1 (He.ga K "_law_box") ["_law_cell"] (sp_L_box K) := by
  refine OkG.of (t := t_L_box K) (n := 1) (m := 0) (c.def_ 6 (d := dd_L_box) rfl) sc_L_box (fun _ _ _ _ _ _ us hl => match us, hl with | [_], _ => rfl) rfl rfl (fun vs H Q E z => by unfold sp_L_box at z; exact z) ?_
  intro cdv A outer s H E hr hg
  have hu := hr.units
  exact pss_one (msr (mdis (pps_cons (ms) (mcb (k_max rfl) rfl (f_max c kin ns) (by decide +kernel) (mac (mi) (mac (mbin o_sub (mv 0) (mbin o_pow (mi) (mi))) (man)))) (pps_cons (ms) (mbin o_mod (mv 0) (mi)) (pps_cons (ms) (mi) (pps_nil))))))
theorem ok_L_take (c : SaysM fa fn xa K) (kin : K.In base) (ns : base.Ns mainGlobals mg) : OkG P w K mg base 1 (He.ga K "_law_take") ["_law_box_here", "_law_many"] (sp_L_take K) := by
  refine OkG.of (t := t_L_take K) (n := 2) (m := 2) (c.def_ 7 (d := dd_L_take) rfl) sc_L_take (fun _ _ _ _ _ _ us hl => match us, hl with | [_, _], _ => rfl) rfl rfl (fun vs H Q E z => by unfold sp_L_take at z; exact z) ?_
  intro cdv A outer s H E hr hg
  have hu := hr.units
  exact pss_cons (msif (mtc o_gt (mix hu (mv 0) (ms)) (mi)) (pss_cons (mset (i := 2) sc_L_take.nd rfl (by first | exact Or.inl rfl | exact Or.inr rfl) (mbin o_mod (mix hu (mv 0) (ms)) (mv 1))) (pss_cons (mseti hu (mbin o_div (mix hu (mv 0) (ms)) (mv 1)) (mv 0) (ms)) (pss_one (msr (mv 2))))) (pss_nil)) (pss_cons (mseti hu (mbin o_add (mix hu (mv 0) (ms)) (mi)) (mv 0) (ms)) (pss_cons (mset (i := 3) sc_L_take.nd rfl (by first | exact Or.inl rfl | exact Or.inr rfl) (mbin o_mod (mbin o_pow (mbin o_add (mix hu (mv 0) (ms)) (mbin o_mul (mi) (mix hu (mv 0) (ms)))) (mi)) (mi))) (pss_cons (mset (i := 3) sc_L_take.nd rfl (by first | exact Or.inl rfl | exact Or.inr rfl) (mbin o_mod (mbin o_pow (mbin o_add (mv 3) (mbin o_mul (mi) (mix hu (mv 0) (ms)))) (mi)) (mi))) (pss_one (msr (mbin o_mod (mbin o_div (mv 3) (mi)) (mv 1)))))))
theorem ok_L_end (c : SaysM fa fn xa K) (kin : K.In base) (ns : base.Ns mainGlobals mg) : OkG P w K mg base 1 (He.ga K "_law_end") ["_law_row", "_law_at"] (sp_L_end K) := by
  refine OkG.of (t := t_L_end K) (n := 2) (m := 0) (c.def_ 8 (d := dd_L_end) rfl) sc_L_end (fun _ _ _ _ _ _ us hl => match us, hl with | [_, _], _ => rfl) rfl rfl (fun vs H Q E z => by unfold sp_L_end at z; exact z) ?_
  intro cdv A outer s H E hr hg
  have hu := hr.units
  exact pss_cons (msif (mtc o_lt (mbin o_add (mv 1) (mi)) (mcb k_len rfl (f_len c kin ns) (by decide +kernel) (mac (mv 0) (man)))) (pss_one (msr (mix hu (mix hu (mv 0) (mbin o_add (mv 1) (mi))) (mi)))) (pss_nil)) (pss_one (msr (mi)))
theorem ok_Tour_many (c : SaysM fa fn xa K) (kin : K.In base) (ns : base.Ns mainGlobals mg) : OkG P w K mg base 1 (He.ma K (He.ga K "Tour") "many") ["self"] (sp_Tour_many K) := by
  refine OkG.of (t := t_Tour_many K) (n := 1) (m := 0) (c.def_ 9 (d := dd_Tour_many) rfl) sc_Tour_many (fun _ _ _ _ _ _ us hl => match us, hl with | [_], _ => rfl) rfl rfl (fun vs H Q E z => by unfold sp_Tour_many at z; exact z) ?_
  intro cdv A outer s H E hr hg
  have hu := hr.units
  exact pss_one (msr (mcb k_len rfl (f_len c kin ns) (by decide +kernel) (mac (mfld (mv 0) (clc ⟨He.cls_ok (fa_cls_Tour c), He.noat_ok (fa_noat_Tour_both_marks c)⟩ (cl0))) (man))))
theorem ok_Order_many (c : SaysM fa fn xa K) (kin : K.In base) (ns : base.Ns mainGlobals mg) : OkG P w K mg base 1 (He.ma K (He.ga K "Order") "many") ["self"] (sp_Order_many K) := by
  refine OkG.of (t := t_Order_many K) (n := 1) (m := 0) (c.def_ 10 (d := dd_Order_many) rfl) sc_Order_many (fun _ _ _ _ _ _ us hl => match us, hl with | [_], _ => rfl) rfl rfl (fun vs H Q E z => by unfold sp_Order_many at z; exact z) ?_
  intro cdv A outer s H E hr hg
  have hu := hr.units
  exact pss_one (msr (mcb k_len rfl (f_len c kin ns) (by decide +kernel) (mac (mfld (mv 0) (clc ⟨He.cls_ok (fa_cls_Order c), He.noat_ok (fa_noat_Order_standing c)⟩ (cl0))) (man))))
theorem ok_Order_marks (c : SaysM fa fn xa K) (kin : K.In base) (ns : base.Ns mainGlobals mg) : OkG P w K mg base 1 (He.ma K (He.ga K "Order") "marks") ["self"] (sp_Order_marks K) := by
  refine OkG.of (t := t_Order_marks K) (n := 1) (m := 0) (c.def_ 11 (d := dd_Order_marks) rfl) sc_Order_marks (fun _ _ _ _ _ _ us hl => match us, hl with | [_], _ => rfl) rfl rfl (fun vs H Q E z => by unfold sp_Order_marks at z; exact z) ?_
  intro cdv A outer s H E hr hg
  have hu := hr.units
  exact pss_one (msr (mct k_list rfl (f_list c kin ns) (by decide +kernel) (mac (mfld (mv 0) (clc ⟨He.cls_ok (fa_cls_Order c), He.noat_ok (fa_noat_Order_standing c)⟩ (cl0))) (man))))
theorem ok_Order_anew (c : SaysM fa fn xa K) (kin : K.In base) (ns : base.Ns mainGlobals mg) : OkG P w K mg base 1 (He.ma K (He.ga K "Order") "anew") ["self"] (sp_Order_anew K) := by
  refine OkG.of (t := t_Order_anew K) (n := 1) (m := 0) (c.def_ 12 (d := dd_Order_anew) rfl) sc_Order_anew (fun _ _ _ _ _ _ us hl => match us, hl with | [_], _ => rfl) rfl rfl (fun vs H Q E z => by unfold sp_Order_anew at z; exact z) ?_
  intro cdv A outer s H E hr hg
  have hu := hr.units
  exact pss_one (msr (mfld (mv 0) (clc ⟨He.cls_ok (fa_cls_Order c), He.noat_ok (fa_noat_Order_times c)⟩ (cl0))))
theorem ok_NoMark_init (c : SaysM fa fn xa K) (kin : K.In base) (ns : base.Ns mainGlobals mg) : OkG P w K mg base 2 (He.ma K (He.ga K "NoMark") "__init__") ["self", "found"] (sp_NoMark_init K) := by
  refine OkG.of (t := t_NoMark_init K) (n := 2) (m := 0) (c.def_ 13 (d := dd_NoMark_init) rfl) sc_NoMark_init (fun _ _ _ _ _ _ us hl => match us, hl with | [_, _], _ => rfl) rfl rfl (fun vs H Q E z => by unfold sp_NoMark_init at z; exact z) ?_
  intro cdv A outer s H E hr hg
  have hu := hr.units
  exact pss_cons (msx (mcfn rfl (g_MakesError c kin ns) (cfn_ok (xa_cfn_MakesError___init__ c)) ((ok_MakesError_init c kin ns).cal hr (by decide) hg) tk_of (mac (mv 0) (mac (ms) (man))))) (pss_one (ps_ost (mv 0) (mv 1)))
theorem ok_TooMany_init (c : SaysM fa fn xa K) (kin : K.In base) (ns : base.Ns mainGlobals mg) : OkG P w K mg base 2 (He.ma K (He.ga K "TooMany") "__init__") ["self", "count"] (sp_TooMany_init K) := by
  refine OkG.of (t := t_TooMany_init K) (n := 2) (m := 0) (c.def_ 14 (d := dd_TooMany_init) rfl) sc_TooMany_init (fun _ _ _ _ _ _ us hl => match us, hl with | [_, _], _ => rfl) rfl rfl (fun vs H Q E z => by unfold sp_TooMany_init at z; exact z) ?_
  intro cdv A outer s H E hr hg
  have hu := hr.units
  exact pss_cons (msx (mcfn rfl (g_MakesError c kin ns) (cfn_ok (xa_cfn_MakesError___init__ c)) ((ok_MakesError_init c kin ns).cal hr (by decide) hg) tk_of (mac (mv 0) (mac (ms) (man))))) (pss_one (ps_ost (mv 0) (mv 1)))
theorem ok_L_one_of (c : SaysM fa fn xa K) (kin : K.In base) (ns : base.Ns mainGlobals mg) : OkG P w K mg base 2 (He.ga K "_law_one_of") ["_law_box_here", "_law_many"] (sp_L_one_of K) := by
  refine OkG.of (t := t_L_one_of K) (n := 2) (m := 2) (c.def_ 15 (d := dd_L_one_of) rfl) sc_L_one_of (fun _ _ _ _ _ _ us hl => match us, hl with | [_, _], _ => rfl) rfl rfl (fun vs H Q E z => by unfold sp_L_one_of at z; exact z) ?_
  intro cdv A outer s H E hr hg
  have hu := hr.units
  exact pss_cons (mset (i := 2) sc_L_one_of.nd rfl (by first | exact Or.inl rfl | exact Or.inr rfl) (pe_cg ((ok_L_take c kin ns).cal hr (by decide) hg) (g_L_take c kin ns) (k_L_take c kin ns) rfl tk_of (mac (mv 0) (mac (mi) (man))))) (pss_cons (mset (i := 3) sc_L_one_of.nd rfl (by first | exact Or.inl rfl | exact Or.inr rfl) (pe_cg ((ok_L_take c kin ns).cal hr (by decide) hg) (g_L_take c kin ns) (k_L_take c kin ns) rfl tk_of (mac (mv 0) (mac (mv 1) (man))))) (pss_one (msr (mix hu (mlst (mac (mv 3) (mac (mi) (mac (mbin o_sub (mv 1) (mi)) (mac (mcb (k_max rfl) rfl (f_max c kin ns) (by decide +kernel) (mac (mi) (mac (mbin o_sub (mv 1) (mi)) (man)))) (man)))))) (mv 2)))))
theorem ok_NoMake_init (c : SaysM fa fn xa K) (kin : K.In base) (ns : base.Ns mainGlobals mg) : OkG P w K mg base 2 (He.ma K (He.ga K "NoMake") "__init__") ["self", "found"] (sp_NoMake_init K) := by
  refine OkG.of (t := t_NoMake_init K) (n := 2) (m := 0) (c.def_ 16 (d := dd_NoMake_init) rfl) sc_NoMake_init (fun _ _ _ _ _ _ us hl => match us, hl with | [_, _], _ => rfl) rfl rfl (fun vs H Q E z => by unfold sp_NoMake_init at z; exact z) ?_
  intro cdv A outer s H E hr hg
  have hu := hr.units
  exact pss_cons (msx (mcfn rfl (g_MakesError c kin ns) (cfn_ok (xa_cfn_MakesError___init__ c)) ((ok_MakesError_init c kin ns).cal hr (by decide) hg) tk_of (mac (mv 0) (mac (ms) (man))))) (pss_one (ps_ost (mv 0) (mv 1)))
theorem ok_L_lay (c : SaysM fa fn xa K) (kin : K.In base) (ns : base.Ns mainGlobals mg) : OkG P w K mg base 2 (He.ga K "_law_lay") ["_law_model", "_law_mark"] (sp_L_lay K) := by
  refine OkG.of (t := t_L_lay K) (n := 2) (m := 6) (c.def_ 17 (d := dd_L_lay) rfl) sc_L_lay (fun _ _ _ _ _ _ us hl => match us, hl with | [_, _], _ => rfl) rfl rfl (fun vs H Q E z => by unfold sp_L_lay at z; exact z) ?_
  intro cdv A outer s H E hr hg
  have hu := hr.units
  exact pss_cons (mset (i := 2) sc_L_lay.nd rfl (by first | exact Or.inl rfl | exact Or.inr rfl) (mix hu (mv 0) (ms))) (pss_cons (mset (i := 3) sc_L_lay.nd rfl (by first | exact Or.inl rfl | exact Or.inr rfl) (pe_bm PySem.F.plainAttrs_list PySem.F.slot_list_index PySem.F.type_list_index t_idx (mlc (own := [("_law_one", 4), ("_law_label", 5)]) rfl sc_L_lay.nd (miv (mv 2)) (blkOk_by (N := N_L_lay) (sc := defScope s_L_lay) (own := [("_law_one", 4), ("_law_label", 5)]) (by decide +kernel)) (fun _ _ _ _ _ => mgu rfl (mg1 (mgn sc_L_lay.nd rfl (by first | exact Or.inl rfl | exact Or.inr rfl)) (mg1 (mgn sc_L_lay.nd rfl (by first | exact Or.inl rfl | exact Or.inr rfl)) (mg0)))) (fun _ _ _ _ _ => pts_nil) (fun _ _ _ _ _ => mv 4)) (mac (mv 1) (man)))) (pss_cons (msif (mtc o_lt (mbin o_sub (pe_cg ((ok_L_end c kin ns).cal hr (by decide) hg) (g_L_end c kin ns) (k_L_end c kin ns) rfl tk_of (mac (mv 2) (mac (mv 3) (man)))) (mix hu (mix hu (mv 2) (mv 3)) (mi))) (mi)) (pss_cons (mset (i := 6) sc_L_lay.nd rfl (by first | exact Or.inl rfl | exact Or.inr rfl) (mbin o_div (mi) (mcb k_len rfl (f_len c kin ns) (by decide +kernel) (mac (mv 2) (man))))) (pss_cons (mlcs (own := [("_law_k", 7), ("_law_one", 4), ("_law_label", 5)]) (i := 2) rfl sc_L_lay.nd rfl rfl (sw_true rfl rfl rfl (by decide +kernel)) (menu rfl (f_enumerate c kin ns) (mac (mv 2) (man))) (blkOk_by (N := N_L_lay) (sc := defScope s_L_lay) (own := [("_law_k", 7), ("_law_one", 4), ("_law_label", 5)]) (by decide +kernel)) (fun _ _ _ _ _ => mgun rfl (mgn1 (mgn sc_L_lay.nd rfl (by first | exact Or.inl rfl | exact Or.inr rfl)) (mgn1 (mgu rfl (mg1 (mgn sc_L_lay.nd rfl (by first | exact Or.inl rfl | exact Or.inr rfl)) (mg1 (mgn sc_L_lay.nd rfl (by first | exact Or.inl rfl | exact Or.inr rfl)) (mg0)))) (mgn0)))) (fun _ _ _ _ _ => pts_nil) (fun _ _ _ _ _ => mtup (mac (mv 4) (mac (mbin o_mul (mv 7) (mv 6)) (man))))) (pss_one (mseti hu (mbin o_add (mix hu (mv 0) (ms)) (mi)) (mv 0) (ms))))) (pss_nil)) (pss_cons (mseti hu (mbin o_add (mbin o_add (msl (mv 2) po_none (po_some (mbin o_add (mv 3) (mi)))) (mlst (mac (mtup (mac (mcb k_len rfl (f_len c kin ns) (by decide +kernel) (mac (mv 2) (man))) (mac (mbin o_div (mbin o_add (mix hu (mix hu (mv 2) (mv 3)) (mi)) (pe_cg ((ok_L_end c kin ns).cal hr (by decide) hg) (g_L_end c kin ns) (k_L_end c kin ns) rfl tk_of (mac (mv 2) (mac (mv 3) (man))))) (mi)) (man)))) (man)))) (msl (mv 2) (po_some (mbin o_add (mv 3) (mi))) po_none)) (mv 0) (ms)) (pss_one (msr (mcb k_len rfl (f_len c kin ns) (by decide +kernel) (mac (mv 2) (man))))))))
theorem ok_Tour_by_marks (c : SaysM fa fn xa K) (kin : K.In base) (ns : base.Ns mainGlobals mg) : OkG P w K mg base 2 (He.ma K (He.ga K "Tour") "by_marks") ["self", "side"] (sp_Tour_by_marks K) := by
  refine OkG.of (t := t_Tour_by_marks K) (n := 2) (m := 4) (c.def_ 18 (d := dd_Tour_by_marks) rfl) sc_Tour_by_marks (fun _ _ _ _ _ _ us hl => match us, hl with | [_, _], _ => rfl) rfl rfl (fun vs H Q E z => by unfold sp_Tour_by_marks at z; exact z) ?_
  intro cdv A outer s H E hr hg
  have hu := hr.units
  exact pss_cons (mset (i := 2) sc_Tour_by_marks.nd rfl (by first | exact Or.inl rfl | exact Or.inr rfl) (mct (k_dict rfl) rfl (f_dict c kin ns) (by decide +kernel) (mac (mlc (own := [("make", 3), ("marks", 4)]) rfl sc_Tour_by_marks.nd (menu rfl (f_enumerate c kin ns) (mac (mfld (mv 0) (clc ⟨He.cls_ok (fa_cls_Tour c), He.noat_ok (fa_noat_Tour_both_marks c)⟩ (cl0))) (man))) (blkOk_by (N := N_Tour_by_marks) (sc := defScope s_Tour_by_marks) (own := [("make", 3), ("marks", 4)]) (by decide +kernel)) (fun _ _ _ _ _ => mgu rfl (mg1 (mgn sc_Tour_by_marks.nd rfl (by first | exact Or.inl rfl | exact Or.inr rfl)) (mg1 (mgn sc_Tour_by_marks.nd rfl (by first | exact Or.inl rfl | exact Or.inr rfl)) (mg0)))) (fun _ _ _ _ _ => pts_nil) (fun _ _ _ _ _ => mtup (mac (mix hu (mv 4) (mv 1)) (mac (mv 3) (man))))) (man)))) (pss_one (msr (mlc (own := [("mark", 5)]) rfl sc_Tour_by_marks.nd (miv (mmeth0 (mfld (mv 0) (clc ⟨He.cls_ok (fa_cls_Tour c), He.noat_ok (fa_noat_Tour_placed c)⟩ (cl0))) (dsp1 (He.cls_ok (fa_cls_Order c)) (He.meth_ok (fa_meth_Order_marks c)) ((ok_Order_marks c kin ns).cal hr (by decide) hg) (dsp0)) tk_of)) (blkOk_by (N := N_Tour_by_marks) (sc := defScope s_Tour_by_marks) (own := [("mark", 5)]) (by decide +kernel)) (fun _ _ _ _ _ => mgn sc_Tour_by_marks.nd rfl (by first | exact Or.inl rfl | exact Or.inr rfl)) (fun _ _ _ _ _ => pts_one (mtc (o_in hu) (mv 5) (mv 2))) (fun _ _ _ _ _ => mix hu (mv 2) (mv 5)))))
theorem ok_Order_copied (c : SaysM fa fn xa K) (kin : K.In base) (ns : base.Ns mainGlobals mg) : OkG P w K mg base 3 (He.ma K (He.ga K "Order") "copied") ["self"] (sp_Order_copied K) := by
  refine OkG.of (t := t_Order_copied K) (n := 1) (m := 1) (c.def_ 19 (d := dd_Order_copied) rfl) sc_Order_copied (fun _ _ _ _ _ _ us hl => match us, hl with | [_], _ => rfl) rfl rfl (fun vs H Q E z => by unfold sp_Order_copied at z; exact z) ?_
  intro cdv A outer s H E hr hg
  have hu := hr.units
  exact pss_cons (mset (i := 1) sc_Order_copied.nd rfl (by first | exact Or.inl rfl | exact Or.inr rfl) (pe_mk0 (He.mkr_ok (fa_mkr_Order c)) ((ok_Order_init c kin ns).calM hr (by decide) hg) (g_Order c kin ns) rfl tk_of)) (pss_cons (mstf (mct k_list rfl (f_list c kin ns) (by decide +kernel) (mac (mfld (mv 0) (clc ⟨He.cls_ok (fa_cls_Order c), He.noat_ok (fa_noat_Order_standing c)⟩ (cl0))) (man))) (mv 1) (clc ⟨He.cls_ok (fa_cls_Order c), He.noat_ok (fa_noat_Order_standing c)⟩ (cl0))) (pss_cons (mstf (mct (k_dict rfl) rfl (f_dict c kin ns) (by decide +kernel) (mac (mfld (mv 0) (clc ⟨He.cls_ok (fa_cls_Order c), He.noat_ok (fa_noat_Order_labelled c)⟩ (cl0))) (man))) (mv 1) (clc ⟨He.cls_ok (fa_cls_Order c), He.noat_ok (fa_noat_Order_labelled c)⟩ (cl0))) (pss_cons (mstf (mfld (mv 0) (clc ⟨He.cls_ok (fa_cls_Order c), He.noat_ok (fa_noat_Order_given c)⟩ (cl0))) (mv 1) (clc ⟨He.cls_ok (fa_cls_Order c), He.noat_ok (fa_noat_Order_given c)⟩ (cl0))) (pss_cons (mstf (mfld (mv 0) (clc ⟨He.cls_ok (fa_cls_Order c), He.noat_ok (fa_noat_Order_times c)⟩ (cl0))) (mv 1) (clc ⟨He.cls_ok (fa_cls_Order c), He.noat_ok (fa_noat_Order_times c)⟩ (cl0))) (pss_one (msr (mv 1)))))))
theorem ok_Tour_coming (c : SaysM fa fn xa K) (kin : K.In base) (ns : base.Ns mainGlobals mg) : OkG P w K mg base 3 (He.ma K (He.ga K "Tour") "coming") ["self"] (sp_Tour_coming K) := by
  refine OkG.of (t := t_Tour_coming K) (n := 1) (m := 0) (c.def_ 20 (d := dd_Tour_coming) rfl) sc_Tour_coming (fun _ _ _ _ _ _ us hl => match us, hl with | [_], _ => rfl) rfl rfl (fun vs H Q E z => by unfold sp_Tour_coming at z; exact z) ?_
  intro cdv A outer s H E hr hg
  have hu := hr.units
  exact pss_one (msr (mmeth (mv 0) (dsp1 (He.cls_ok (fa_cls_Tour c)) (He.meth_ok (fa_meth_Tour_by_marks c)) ((ok_Tour_by_marks c kin ns).cal hr (by decide) hg) (dsp0)) tk_of (mac (mi) (man))))
theorem ok_Tour_leaving (c : SaysM fa fn xa K) (kin : K.In base) (ns : base.Ns mainGlobals mg) : OkG P w K mg base 3 (He.ma K (He.ga K "Tour") "leaving") ["self"] (sp_Tour_leaving K) := by
  refine OkG.of (t := t_Tour_leaving K) (n := 1) (m := 0) (c.def_ 21 (d := dd_Tour_leaving) rfl) sc_Tour_leaving (fun _ _ _ _ _ _ us hl => match us, hl with | [_], _ => rfl) rfl rfl (fun vs H Q E z => by unfold sp_Tour_leaving at z; exact z) ?_
  intro cdv A outer s H E hr hg
  have hu := hr.units
  exact pss_one (msr (mmeth (mv 0) (dsp1 (He.cls_ok (fa_cls_Tour c)) (He.meth_ok (fa_meth_Tour_by_marks c)) ((ok_Tour_by_marks c kin ns).cal hr (by decide) hg) (dsp0)) tk_of (mac (mi) (man))))
theorem ok_Order_need_mark (c : SaysM fa fn xa K) (kin : K.In base) (ns : base.Ns mainGlobals mg) : OkG P w K mg base 4 (He.ma K (He.ga K "Order") "need_mark") ["self", "mark"] (sp_Order_need_mark K) := by
  refine OkG.of (t := t_Order_need_mark K) (n := 2) (m := 0) (c.def_ 22 (d := dd_Order_need_mark) rfl) sc_Order_need_mark (fun _ _ _ _ _ _ us hl => match us, hl with | [_, _], _ => rfl) rfl rfl (fun vs H Q E z => by unfold sp_Order_need_mark at z; exact z) ?_
  intro cdv A outer s H E hr hg
  have hu := hr.units
  exact pss_one (msif (PW.pt (mo2 (mtn (mtv (pe_cg ((ok_is_whole c kin ns).cal hr (by decide) hg) (g_is_whole c kin ns) (k_is_whole c kin ns) rfl tk_of (mac (mv 1) (mac (mi) (mac (mbin o_sub (mfld (mv 0) (clc ⟨He.cls_ok (fa_cls_Order c), He.noat_ok (fa_noat_Order_given c)⟩ (cl0))) (mi)) (man))))))) (mo1 (mtc (o_ni hu) (mv 1) (mfld (mv 0) (clc ⟨He.cls_ok (fa_cls_Order c), He.noat_ok (fa_noat_Order_labelled c)⟩ (cl0))))))) (pss_one (mraise tk_of (pmk_exc (oex_ok (xa_oex_NoMark c)) (init_ok (xa_init_NoMark c)) ((ok_NoMark_init c kin ns).calM hr (by decide) hg) (exc_one (oex_ok (xa_oex_NoMark c)) (He.noat_ok (fa_noat_NoMark_found c)) (keepsM fun _ _ _ _ _ h => sp_MakesError_init_i h) fun _ _ _ _ _  h => sp_NoMark_init_i h) rfl (g_NoMark c kin ns) (mac (mv 1) (man))))) (pss_nil))
theorem ok_Tour_need_make (c : SaysM fa fn xa K) (kin : K.In base) (ns : base.Ns mainGlobals mg) : OkG P w K mg base 4 (He.ma K (He.ga K "Tour") "need_make") ["self", "make"] (sp_Tour_need_make K) := by
  refine OkG.of (t := t_Tour_need_make K) (n := 2) (m := 0) (c.def_ 23 (d := dd_Tour_need_make) rfl) sc_Tour_need_make (fun _ _ _ _ _ _ us hl => match us, hl with | [_, _], _ => rfl) rfl rfl (fun vs H Q E z => by unfold sp_Tour_need_make at z; exact z) ?_
  intro cdv A outer s H E hr hg
  have hu := hr.units
  exact pss_one (msif (mtn (mtv (pe_cg ((ok_is_whole c kin ns).cal hr (by decide) hg) (g_is_whole c kin ns) (k_is_whole c kin ns) rfl tk_of (mac (mv 1) (mac (mi) (mac (mbin o_sub (mcb k_len rfl (f_len c kin ns) (by decide +kernel) (mac (mfld (mv 0) (clc ⟨He.cls_ok (fa_cls_Tour c), He.noat_ok (fa_noat_Tour_both_marks c)⟩ (cl0))) (man))) (mi)) (man))))))) (pss_one (mraise tk_of (pmk_exc (oex_ok (xa_oex_NoMake c)) (init_ok (xa_init_NoMake c)) ((ok_NoMake_init c kin ns).calM hr (by decide) hg) (exc_one (oex_ok (xa_oex_NoMake c)) (He.noat_ok (fa_noat_NoMake_found c)) (keepsM fun _ _ _ _ _ h => sp_MakesError_init_i h) fun _ _ _ _ _  h => sp_NoMake_init_i h) rfl (g_NoMake c kin ns) (mac (mv 1) (man))))) (pss_nil))
theorem ok_Tour_order (c : SaysM fa fn xa K) (kin : K.In base) (ns : base.Ns mainGlobals mg) : OkG P w K mg base 4 (He.ma K (He.ga K "Tour") "order") ["self"] (sp_Tour_order K) := by
  refine OkG.of (t := t_Tour_order K) (n := 1) (m := 0) (c.def_ 24 (d := dd_Tour_order) rfl) sc_Tour_order (fun _ _ _ _ _ _ us hl => match us, hl with | [_], _ => rfl) rfl rfl (fun vs H Q E z => by unfold sp_Tour_order at z; exact z) ?_
  intro cdv A outer s H E hr hg
  have hu := hr.units
  exact pss_one (msr (mmeth0 (mfld (mv 0) (clc ⟨He.cls_ok (fa_cls_Tour c), He.noat_ok (fa_noat_Tour_placed c)⟩ (cl0))) (dsp1 (He.cls_ok (fa_cls_Order c)) (He.meth_ok (fa_meth_Order_copied c)) ((ok_Order_copied c kin ns).cal hr (by decide) hg) (dsp0)) tk_of))
theorem ok_Order_behind (c : SaysM fa fn xa K) (kin : K.In base) (ns : base.Ns mainGlobals mg) : OkG P w K mg base 5 (He.ma K (He.ga K "Order") "behind") ["self", "mark"] (sp_Order_behind K) := by
  refine OkG.of (t := t_Order_behind K) (n := 2) (m := 2) (c.def_ 25 (d := dd_Order_behind) rfl) sc_Order_behind (fun _ _ _ _ _ _ us hl => match us, hl with | [_, _], _ => rfl) rfl rfl (fun vs H Q E z => by unfold sp_Order_behind at z; exact z) ?_
  intro cdv A outer s H E hr hg
  have hu := hr.units
  exact pss_cons (msx (mmeth (mv 0) (dsp1 (He.cls_ok (fa_cls_Order c)) (He.meth_ok (fa_meth_Order_need_mark c)) ((ok_Order_need_mark c kin ns).cal hr (by decide) hg) (dsp0)) tk_of (mac (mv 1) (man)))) (pss_cons (msif (mtc (o_eq hu) (mcb k_len rfl (f_len c kin ns) (by decide +kernel) (mac (mfld (mv 0) (clc ⟨He.cls_ok (fa_cls_Order c), He.noat_ok (fa_noat_Order_standing c)⟩ (cl0))) (man))) (mg_ rfl (c_MOST_MARKS c kin ns))) (pss_one (mraise tk_of (pmk_exc (oex_ok (xa_oex_TooMany c)) (init_ok (xa_init_TooMany c)) ((ok_TooMany_init c kin ns).calM hr (by decide) hg) (exc_one (oex_ok (xa_oex_TooMany c)) (He.noat_ok (fa_noat_TooMany_count c)) (keepsM fun _ _ _ _ _ h => sp_MakesError_init_i h) fun _ _ _ _ _  h => sp_TooMany_init_i h) rfl (g_TooMany c kin ns) (mac (mbin o_add (mg_ rfl (c_MOST_MARKS c kin ns)) (mi)) (man))))) (pss_nil)) (pss_cons (mset (i := 2) sc_Order_behind.nd rfl (by first | exact Or.inl rfl | exact Or.inr rfl) (pe_bm PySem.F.plainAttrs_list PySem.F.slot_list_index PySem.F.type_list_index t_idx (mfld (mv 0) (clc ⟨He.cls_ok (fa_cls_Order c), He.noat_ok (fa_noat_Order_standing c)⟩ (cl0))) (mac (mv 1) (man)))) (pss_cons (msif (mtc o_lt (mbin o_sub (mmeth (mv 0) (dsp1 (He.cls_ok (fa_cls_Order c)) (He.meth_ok (fa_meth_Order_label_behind c)) ((ok_Order_label_behind c kin ns).cal hr (by decide) hg) (dsp0)) tk_of (mac (mv 2) (man))) (mix hu (mfld (mv 0) (clc ⟨He.cls_ok (fa_cls_Order c), He.noat_ok (fa_noat_Order_labelled c)⟩ (cl0))) (mv 1))) (mi)) (pss_one (msx (mmeth0 (mv 0) (dsp1 (He.cls_ok (fa_cls_Order c)) (He.meth_ok (fa_meth_Order_label_all c)) ((ok_Order_label_all c kin ns).cal hr (by decide) hg) (dsp0)) tk_of))) (pss_nil)) (pss_cons (mset (i := 3) sc_Order_behind.nd rfl (by first | exact Or.inl rfl | exact Or.inr rfl) (mfld (mv 0) (clc ⟨He.cls_ok (fa_cls_Order c), He.noat_ok (fa_noat_Order_given c)⟩ (cl0)))) (pss_cons (mseti hu (mbin o_div (mbin o_add (mix hu (mfld (mv 0) (clc ⟨He.cls_ok (fa_cls_Order c), He.noat_ok (fa_noat_Order_labelled c)⟩ (cl0))) (mv 1)) (mmeth (mv 0) (dsp1 (He.cls_ok (fa_cls_Order c)) (He.meth_ok (fa_meth_Order_label_behind c)) ((ok_Order_label_behind c kin ns).cal hr (by decide) hg) (dsp0)) tk_of (mac (mv 2) (man)))) (mi)) (mfld (mv 0) (clc ⟨He.cls_ok (fa_cls_Order c), He.noat_ok (fa_noat_Order_labelled c)⟩ (cl0))) (mv 3)) (pss_cons (msx (pe_bm PySem.F.plainAttrs_list PySem.F.slot_list_insert PySem.F.type_list_insert t_ins (mfld (mv 0) (clc ⟨He.cls_ok (fa_cls_Order c), He.noat_ok (fa_noat_Order_standing c)⟩ (cl0))) (mac (mbin o_add (mv 2) (mi)) (mac (mv 3) (man))))) (pss_cons (magf (mv 0) (mi) g_add (clc ⟨He.cls_ok (fa_cls_Order c), He.noat_ok (fa_noat_Order_given c)⟩ (cl0))) (pss_one (msr (mv 3))))))))))
theorem ok_Tour_marks_of (c : SaysM fa fn xa K) (kin : K.In base) (ns : base.Ns mainGlobals mg) : OkG P w K mg base 5 (He.ma K (He.ga K "Tour") "marks_of") ["self", "make"] (sp_Tour_marks_of K) := by
  refine OkG.of (t := t_Tour_marks_of K) (n := 2) (m := 0) (c.def_ 26 (d := dd_Tour_marks_of) rfl) sc_Tour_marks_of (fun _ _ _ _ _ _ us hl => match us, hl with | [_, _], _ => rfl) rfl rfl (fun vs H Q E z => by unfold sp_Tour_marks_of at z; exact z) ?_
  intro cdv A outer s H E hr hg
  have hu := hr.units
  exact pss_cons (msx (mmeth (mv 0) (dsp1 (He.cls_ok (fa_cls_Tour c)) (He.meth_ok (fa_meth_Tour_need_make c)) ((ok_Tour_need_make c kin ns).cal hr (by decide) hg) (dsp0)) tk_of (mac (mv 1) (man)))) (pss_one (msr (mix hu (mfld (mv 0) (clc ⟨He.cls_ok (fa_cls_Tour c), He.noat_ok (fa_noat_Tour_both_marks c)⟩ (cl0))) (mv 1))))
theorem ok_Order_label (c : SaysM fa fn xa K) (kin : K.In base) (ns : base.Ns mainGlobals mg) : OkG P w K mg base 5 (He.ma K (He.ga K "Order") "label") ["self", "mark"] (sp_Order_label K) := by
  refine OkG.of (t := t_Order_label K) (n := 2) (m := 0) (c.def_ 27 (d := dd_Order_label) rfl) sc_Order_label (fun _ _ _ _ _ _ us hl => match us, hl with | [_, _], _ => rfl) rfl rfl (fun vs H Q E z => by unfold sp_Order_label at z; exact z) ?_
  intro cdv A outer s H E hr hg
  have hu := hr.units
  exact pss_cons (msx (mmeth (mv 0) (dsp1 (He.cls_ok (fa_cls_Order c)) (He.meth_ok (fa_meth_Order_need_mark c)) ((ok_Order_need_mark c kin ns).cal hr (by decide) hg) (dsp0)) tk_of (mac (mv 1) (man)))) (pss_one (msr (mix hu (mfld (mv 0) (clc ⟨He.cls_ok (fa_cls_Order c), He.noat_ok (fa_noat_Order_labelled c)⟩ (cl0))) (mv 1))))
theorem ok_Tour_init (c : SaysM fa fn xa K) (kin : K.In base) (ns : base.Ns mainGlobals mg) : OkG P w K mg base 6 (He.ma K (He.ga K "Tour") "__init__") ["self"] (sp_Tour_init K) := by
  refine OkG.of (t := t_Tour_init K) (n := 1) (m := 0) (c.def_ 28 (d := dd_Tour_init) rfl) sc_Tour_init (fun _ _ _ _ _ _ us hl => match us, hl with | [_], _ => rfl) rfl rfl (fun vs H Q E z => by unfold sp_Tour_init at z; exact z) ?_
  intro cdv A outer s H E hr hg
  have hu := hr.units
  exact pss_cons (mstf (pe_mk0 (He.mkr_ok (fa_mkr_Order c)) ((ok_Order_init c kin ns).calM hr (by decide) hg) (g_Order c kin ns) rfl tk_of) (mv 0) (clc ⟨He.cls_ok (fa_cls_Tour c), He.noat_ok (fa_noat_Tour_placed c)⟩ (cl0))) (pss_one (mstf (mlst (mac (mtup (mac (mi) (mac (mmeth (mfld (mv 0) (clc ⟨He.cls_ok (fa_cls_Tour c), He.noat_ok (fa_noat_Tour_placed c)⟩ (cl0))) (dsp1 (He.cls_ok (fa_cls_Order c)) (He.meth_ok (fa_meth_Order_behind c)) ((ok_Order_behind c kin ns).cal hr (by decide) hg) (dsp0)) tk_of (mac (mi) (man))) (man)))) (man))) (mv 0) (clc ⟨He.cls_ok (fa_cls_Tour c), He.noat_ok (fa_noat_Tour_both_marks c)⟩ (cl0))))
theorem ok_Tour_grow (c : SaysM fa fn xa K) (kin : K.In base) (ns : base.Ns mainGlobals mg) : OkG P w K mg base 6 (He.ma K (He.ga K "Tour") "grow") ["self", "make"] (sp_Tour_grow K) := by
  refine OkG.of (t := t_Tour_grow K) (n := 2) (m := 1) (c.def_ 29 (d := dd_Tour_grow) rfl) sc_Tour_grow (fun _ _ _ _ _ _ us hl => match us, hl with | [_, _], _ => rfl) rfl rfl (fun vs H Q E z => by unfold sp_Tour_grow at z; exact z) ?_
  intro cdv A outer s H E hr hg
  have hu := hr.units
  exact pss_cons (msx (mmeth (mv 0) (dsp1 (He.cls_ok (fa_cls_Tour c)) (He.meth_ok (fa_meth_Tour_need_make c)) ((ok_Tour_need_make c kin ns).cal hr (by decide) hg) (dsp0)) tk_of (mac (mv 1) (man)))) (pss_cons (msif (mtc (o_eq hu) (mcb k_len rfl (f_len c kin ns) (by decide +kernel) (mac (mfld (mv 0) (clc ⟨He.cls_ok (fa_cls_Tour c), He.noat_ok (fa_noat_Tour_both_marks c)⟩ (cl0))) (man))) (mg_ rfl (c_MOST_MAKES c kin ns))) (pss_one (mraise tk_of (pmk_exc (oex_ok (xa_oex_TooMany c)) (init_ok (xa_init_TooMany c)) ((ok_TooMany_init c kin ns).calM hr (by decide) hg) (exc_one (oex_ok (xa_oex_TooMany c)) (He.noat_ok (fa_noat_TooMany_count c)) (keepsM fun _ _ _ _ _ h => sp_MakesError_init_i h) fun _ _ _ _ _  h => sp_TooMany_init_i h) rfl (g_TooMany c kin ns) (mac (mbin o_add (mg_ rfl (c_MOST_MAKES c kin ns)) (mi)) (man))))) (pss_nil)) (pss_cons (mset (i := 2) sc_Tour_grow.nd rfl (by first | exact Or.inl rfl | exact Or.inr rfl) (mmeth (mfld (mv 0) (clc ⟨He.cls_ok (fa_cls_Tour c), He.noat_ok (fa_noat_Tour_placed c)⟩ (cl0))) (dsp1 (He.cls_ok (fa_cls_Order c)) (He.meth_ok (fa_meth_Order_behind c)) ((ok_Order_behind c kin ns).cal hr (by decide) hg) (dsp0)) tk_of (mac (mix hu (mix hu (mfld (mv 0) (clc ⟨He.cls_ok (fa_cls_Tour c), He.noat_ok (fa_noat_Tour_both_marks c)⟩ (cl0))) (mv 1)) (mi)) (man)))) (pss_cons (msx (pe_bm PySem.F.plainAttrs_list PySem.F.slot_list_append PySem.F.type_list_append t_app (mfld (mv 0) (clc ⟨He.cls_ok (fa_cls_Tour c), He.noat_ok (fa_noat_Tour_both_marks c)⟩ (cl0))) (mac (mtup (mac (mv 2) (mac (mmeth (mfld (mv 0) (clc ⟨He.cls_ok (fa_cls_Tour c), He.noat_ok (fa_noat_Tour_placed c)⟩ (cl0))) (dsp1 (He.cls_ok (fa_cls_Order c)) (He.meth_ok (fa_meth_Order_behind c)) ((ok_Order_behind c kin ns).cal hr (by decide) hg) (dsp0)) tk_of (mac (mv 2) (man))) (man)))) (man)))) (pss_one (msr (mbin o_sub (mcb k_len rfl (f_len c kin ns) (by decide +kernel) (mac (mfld (mv 0) (clc ⟨He.cls_ok (fa_cls_Tour c), He.noat_ok (fa_noat_Tour_both_marks c)⟩ (cl0))) (man))) (mi)))))))
theorem ok_L_lists_right (c : SaysM fa fn xa K) (kin : K.In base) (ns : base.Ns mainGlobals mg) : OkG P w K mg base 6 (He.ga K "_law_lists_right") ["_law_tour", "_law_model"] (sp_L_lists_right K) := by
  refine OkG.of (t := t_L_lists_right K) (n := 2) (m := 7) (c.def_ 30 (d := dd_L_lists_right) rfl) sc_L_lists_right (fun _ _ _ _ _ _ us hl => match us, hl with | [_, _], _ => rfl) rfl rfl (fun vs H Q E z => by unfold sp_L_lists_right at z; exact z) ?_
  intro cdv A outer s H E hr hg
  have hu := hr.units
  exact pss_cons (mlcs (own := [("_law_mark", 3), ("_law_label", 4)]) (i := 2) rfl sc_L_lists_right.nd rfl rfl (sw_true rfl rfl rfl (by decide +kernel)) (miv (mix hu (mv 1) (ms))) (blkOk_by (N := N_L_lists_right) (sc := defScope s_L_lists_right) (own := [("_law_mark", 3), ("_law_label", 4)]) (by decide +kernel)) (fun _ _ _ _ _ => mgu rfl (mg1 (mgn sc_L_lists_right.nd rfl (by first | exact Or.inl rfl | exact Or.inr rfl)) (mg1 (mgn sc_L_lists_right.nd rfl (by first | exact Or.inl rfl | exact Or.inr rfl)) (mg0)))) (fun _ _ _ _ _ => pts_nil) (fun _ _ _ _ _ => mv 3)) (pss_cons (mfor hp_of rfl (mr1 rfl (f_range c kin ns) (mac (mi) (man))) (mgn sc_L_lists_right.nd rfl (by first | exact Or.inl rfl | exact Or.inr rfl)) (pss_cons (mset (i := 6) sc_L_lists_right.nd rfl (by first | exact Or.inl rfl | exact Or.inr rfl) (mmeth0 (mv 0) (dsp1 (He.cls_ok (fa_cls_Tour c)) (He.meth_ok (fa_meth_Tour_order c)) ((ok_Tour_order c kin ns).cal hr (by decide) hg) (dsp0)) tk_of)) (pss_cons (mset (i := 7) sc_L_lists_right.nd rfl (by first | exact Or.inl rfl | exact Or.inr rfl) (mmeth0 (mv 0) (dsp1 (He.cls_ok (fa_cls_Tour c)) (He.meth_ok (fa_meth_Tour_coming c)) ((ok_Tour_coming c kin ns).cal hr (by decide) hg) (dsp0)) tk_of)) (pss_cons (mset (i := 8) sc_L_lists_right.nd rfl (by first | exact Or.inl rfl | exact Or.inr rfl) (mmeth0 (mv 0) (dsp1 (He.cls_ok (fa_cls_Tour c)) (He.meth_ok (fa_meth_Tour_leaving c)) ((ok_Tour_leaving c kin ns).cal hr (by decide) hg) (dsp0)) tk_of)) (pss_cons (msif (PW.pt (mo2 (mtn (mtv (mcb (k_iso (D := (He.ga K "Order")) (tbl := [((He.ga K "Order"), true), ((He.ga K "Tour"), false)]) (is1 ⟨He.cls_ok (fa_cls_Order c), isc_ok (xa_isc_Order c), kit_ok (xa_kit_Order_Order_True c)⟩ (is1 ⟨He.cls_ok (fa_cls_Tour c), isc_ok (xa_isc_Tour c), kit_ok (xa_kit_Tour_Order_False c)⟩ (is0)))) rfl (f_isinstance c kin ns) (by decide +kernel) (mac (mv 6) (mac (mcls rfl (g_Order c kin ns)) man))))) (mo1 (mtc (o_ne hu) (mcb (k_repr hg hu) rfl (f_repr c kin ns) (by decide +kernel) (mac (mmeth0 (mv 6) (dsp1 (He.cls_ok (fa_cls_Order c)) (He.meth_ok (fa_meth_Order_marks c)) ((ok_Order_marks c kin ns).cal hr (by decide) hg) (dsp0)) tk_of) (man))) (mcb (k_repr hg hu) rfl (f_repr c kin ns) (by decide +kernel) (mac (mv 2) (man))))))) (pss_one (msr (mb))) (pss_nil)) (pss_cons (msif (PW.pt (mo2 (mtc (o_ne hu) (mlc (own := [("_law_mark", 3)]) rfl sc_L_lists_right.nd (miv (mv 2)) (blkOk_by (N := N_L_lists_right) (sc := defScope s_L_lists_right) (own := [("_law_mark", 3)]) (by decide +kernel)) (fun _ _ _ _ _ => mgn sc_L_lists_right.nd rfl (by first | exact Or.inl rfl | exact Or.inr rfl)) (fun _ _ _ _ _ => pts_nil) (fun _ _ _ _ _ => mtup (mac (mv 3) (mac (mmeth (mv 6) (dsp1 (He.cls_ok (fa_cls_Order c)) (He.meth_ok (fa_meth_Order_label c)) ((ok_Order_label c kin ns).cal hr (by decide) hg) (dsp0)) tk0 (mac (mv 3) (man))) (man))))) (mix hu (mv 1) (ms))) (mo1 (mtc (o_ne hu) (mmeth0 (mv 6) (dsp1 (He.cls_ok (fa_cls_Order c)) (He.meth_ok (fa_meth_Order_anew c)) ((ok_Order_anew c kin ns).cal hr (by decide) hg) (dsp0)) tk_of) (mix hu (mv 1) (ms)))))) (pss_one (msr (mb))) (pss_nil)) (pss_cons (msif (mtc (o_ne hu) (mcb (k_repr hg hu) rfl (f_repr c kin ns) (by decide +kernel) (mac (mv 7) (man))) (mcb (k_repr hg hu) rfl (f_repr c kin ns) (by decide +kernel) (mac (mlc (own := [("_law_mark", 3)]) rfl sc_L_lists_right.nd (miv (mv 2)) (blkOk_by (N := N_L_lists_right) (sc := defScope s_L_lists_right) (own := [("_law_mark", 3)]) (by decide +kernel)) (fun _ _ _ _ _ => mgn sc_L_lists_right.nd rfl (by first | exact Or.inl rfl | exact Or.inr rfl)) (fun _ _ _ _ _ => pts_one (mtc (o_eq hu) (mbin o_mod (mv 3) (mi)) (mi))) (fun _ _ _ _ _ => mbin o_div (mv 3) (mi))) (man)))) (pss_one (msr (mb))) (pss_nil)) (pss_cons (msif (mtc (o_ne hu) (mcb (k_repr hg hu) rfl (f_repr c kin ns) (by decide +kernel) (mac (mv 8) (man))) (mcb (k_repr hg hu) rfl (f_repr c kin ns) (by decide +kernel) (mac (mlc (own := [("_law_mark", 3)]) rfl sc_L_lists_right.nd (miv (mv 2)) (blkOk_by (N := N_L_lists_right) (sc := defScope s_L_lists_right) (own := [("_law_mark", 3)]) (by decide +kernel)) (fun _ _ _ _ _ => mgn sc_L_lists_right.nd rfl (by first | exact Or.inl rfl | exact Or.inr rfl)) (fun _ _ _ _ _ => pts_one (mtc (o_eq hu) (mbin o_mod (mv 3) (mi)) (mi))) (fun _ _ _ _ _ => mbin o_div (mv 3) (mi))) (man)))) (pss_one (msr (mb))) (pss_nil)) (pss_cons (msx (mmeth (mv 6) (dsp1 (He.cls_ok (fa_cls_Order c)) (He.meth_ok (fa_meth_Order_behind c)) ((ok_Order_behind c kin ns).cal hr (by decide) hg) (dsp0)) tk_of (mac (mix hu (mv 2) (mbin o_div (mcb k_len rfl (f_len c kin ns) (by decide +kernel) (mac (mv 2) (man))) (mi))) (man)))) (pss_cons (msx (pe_bm0 PySem.F.plainAttrs_list PySem.F.slot_list_clear PySem.F.type_list_clear t_clr (mv 7))) (pss_one (msx (pe_bm PySem.F.plainAttrs_list PySem.F.slot_list_append PySem.F.type_list_append t_app (mv 8) (mac (mi) (man))))))))))))))) (pss_one (msr (mb))))
theorem ok_L_right (c : SaysM fa fn xa K) (kin : K.In base) (ns : base.Ns mainGlobals mg) : OkG P w K mg base 7 (He.ga K "_law_right") ["_law_box_here", "_law_tour", "_law_model"] (sp_L_right K) := by
  refine OkG.of (t := t_L_right K) (n := 3) (m := 3) (c.def_ 31 (d := dd_L_right) rfl) sc_L_right (fun _ _ _ _ _ _ us hl => match us, hl with | [_, _, _], _ => rfl) rfl rfl (fun vs H Q E z => by unfold sp_L_right at z; exact z) ?_
  intro cdv A outer s H E hr hg
  have hu := hr.units
  exact pss_cons (mset (i := 3) sc_L_right.nd rfl (by first | exact Or.inl rfl | exact Or.inr rfl) (mbin o_div (mcb k_len rfl (f_len c kin ns) (by decide +kernel) (mac (mix hu (mv 2) (ms)) (man))) (mi))) (pss_cons (msif (mtc (o_ne hu) (mcb (k_repr hg hu) rfl (f_repr c kin ns) (by decide +kernel) (mac (mmeth0 (mv 1) (dsp1 (He.cls_ok (fa_cls_Order c)) (He.meth_ok (fa_meth_Order_many c)) ((ok_Order_many c kin ns).cal hr (by decide) hg) (dsp1 (He.cls_ok (fa_cls_Tour c)) (He.meth_ok (fa_meth_Tour_many c)) ((ok_Tour_many c kin ns).cal hr (by decide) hg) (dsp0))) tk_of) (man))) (mcb (k_repr hg hu) rfl (f_repr c kin ns) (by decide +kernel) (mac (mv 3) (man)))) (pss_one (msr (mb))) (pss_nil)) (pss_cons (mfor hp_of rfl (mr1 rfl (f_range c kin ns) (mac (mi) (man))) (mgn sc_L_right.nd rfl (by first | exact Or.inl rfl | exact Or.inr rfl)) (pss_cons (mset (i := 5) sc_L_right.nd rfl (by first | exact Or.inl rfl | exact Or.inr rfl) (pe_cg ((ok_L_take c kin ns).cal hr (by decide) hg) (g_L_take c kin ns) (k_L_take c kin ns) rfl tk_of (mac (mv 0) (mac (mv 3) (man))))) (pss_one (msif (mtc (o_ne hu) (mcb (k_repr hg hu) rfl (f_repr c kin ns) (by decide +kernel) (mac (mmeth (mv 1) (dsp1 (He.cls_ok (fa_cls_Tour c)) (He.meth_ok (fa_meth_Tour_marks_of c)) ((ok_Tour_marks_of c kin ns).cal hr (by decide) hg) (dsp0)) tk_of (mac (mv 5) (man))) (man))) (mcb (k_repr hg hu) rfl (f_repr c kin ns) (by decide +kernel) (mac (mtup (mac (mbin o_mul (mi) (mv 5)) (mac (mbin o_add (mbin o_mul (mi) (mv 5)) (mi)) (man)))) (man)))) (pss_one (msr (mb))) (pss_nil))))) (pss_one (msr (pe_cg ((ok_L_lists_right c kin ns).cal hr (by decide) hg) (g_L_lists_right c kin ns) (k_L_lists_right c kin ns) rfl tk_of (mac (mv 1) (mac (mv 2) (man))))))))
theorem ok_Tour_copied (c : SaysM fa fn xa K) (kin : K.In base) (ns : base.Ns mainGlobals mg) : OkG P w K mg base 8 (He.ma K (He.ga K "Tour") "copied") ["self"] (sp_Tour_copied K) := by
  refine OkG.of (t := t_Tour_copied K) (n := 1) (m := 1) (c.def_ 32 (d := dd_Tour_copied) rfl) sc_Tour_copied (fun _ _ _ _ _ _ us hl => match us, hl with | [_], _ => rfl) rfl rfl (fun vs H Q E z => by unfold sp_Tour_copied at z; exact z) ?_
  intro cdv A outer s H E hr hg
  have hu := hr.units
  exact pss_cons (mset (i := 1) sc_Tour_copied.nd rfl (by first | exact Or.inl rfl | exact Or.inr rfl) (pe_mk0 (He.mkr_ok (fa_mkr_Tour c)) ((ok_Tour_init c kin ns).calM hr (by decide) hg) (g_Tour c kin ns) rfl tk_of)) (pss_cons (mstf (mmeth0 (mfld (mv 0) (clc ⟨He.cls_ok (fa_cls_Tour c), He.noat_ok (fa_noat_Tour_placed c)⟩ (cl0))) (dsp1 (He.cls_ok (fa_cls_Order c)) (He.meth_ok (fa_meth_Order_copied c)) ((ok_Order_copied c kin ns).cal hr (by decide) hg) (dsp0)) tk_of) (mv 1) (clc ⟨He.cls_ok (fa_cls_Tour c), He.noat_ok (fa_noat_Tour_placed c)⟩ (cl0))) (pss_cons (mstf (mct k_list rfl (f_list c kin ns) (by decide +kernel) (mac (mfld (mv 0) (clc ⟨He.cls_ok (fa_cls_Tour c), He.noat_ok (fa_noat_Tour_both_marks c)⟩ (cl0))) (man))) (mv 1) (clc ⟨He.cls_ok (fa_cls_Tour c), He.noat_ok (fa_noat_Tour_both_marks c)⟩ (cl0))) (pss_one (msr (mv 1)))))
theorem ok_law (c : SaysM fa fn xa K) (kin : K.In base) (ns : base.Ns mainGlobals mg) : OkG P w K mg base 9 (He.ga K "law") ["_law_script"] (sp_law K) := by
  refine OkG.of (t := t_law K) (n := 1) (m := 9) (c.def_ 33 (d := dd_law) rfl) sc_law (fun _ _ _ _ _ _ us hl => match us, hl with | [_], _ => rfl) rfl rfl (fun vs H Q E z => by unfold sp_law at z; exact z) ?_
  intro cdv A outer s H E hr hg
  have hu := hr.units
  exact pss_cons (mset (i := 1) sc_law.nd rfl (by first | exact Or.inl rfl | exact Or.inr rfl) (mlst (mac (pe_mk0 (He.mkr_ok (fa_mkr_Tour c)) ((ok_Tour_init c kin ns).calM hr (by decide) hg) (g_Tour c kin ns) rfl tk_of) (mac (pe_mk0 (He.mkr_ok (fa_mkr_Tour c)) ((ok_Tour_init c kin ns).calM hr (by decide) hg) (g_Tour c kin ns) rfl tk_of) (man))))) (pss_cons (mset (i := 2) sc_law.nd rfl (by first | exact Or.inl rfl | exact Or.inr rfl) (mlst (mac (mdis (pps_cons (ms) (mlst (mac (mtup (mac (mi) (mac (mi) (man)))) (mac (mtup (mac (mi) (mac (mi) (man)))) (man)))) (pps_cons (ms) (mi) (pps_nil)))) (mac (mdis (pps_cons (ms) (mlst (mac (mtup (mac (mi) (mac (mi) (man)))) (mac (mtup (mac (mi) (mac (mi) (man)))) (man)))) (pps_cons (ms) (mi) (pps_nil)))) (man))))) (pss_cons (mfor hp_of rfl (mr1 rfl (f_range c kin ns) (mac (mcb (k_max rfl) rfl (f_max c kin ns) (by decide +kernel) (mac (mi) (mac (mcb (k_min rfl) rfl (f_min c kin ns) (by decide +kernel) (mac (mi) (mac (mcb k_len rfl (f_len c kin ns) (by decide +kernel) (mac (mv 0) (man))) (man)))) (man)))) (man))) (mgn sc_law.nd rfl (by first | exact Or.inl rfl | exact Or.inr rfl)) (pss_cons (mset (i := 4) sc_law.nd rfl (by first | exact Or.inl rfl | exact Or.inr rfl) (pe_cg ((ok_L_box c kin ns).cal hr (by decide) hg) (g_L_box c kin ns) (k_L_box c kin ns) rfl tk_of (mac (pe_cg ((ok_L_cell_at c kin ns).cal hr (by decide) hg) (g_L_cell_at c kin ns) (k_L_cell_at c kin ns) rfl tk_of (mac (mv 0) (mac (mv 3) (man)))) (man)))) (pss_cons (mset (i := 5) sc_law.nd rfl (by first | exact Or.inl rfl | exact Or.inr rfl) (mct k_int rfl (f_int c kin ns) (by decide +kernel) (mac (mcmp (o_eq hu) (pe_cg ((ok_L_take c kin ns).cal hr (by decide) hg) (g_L_take c kin ns) (k_L_take c kin ns) rfl tk_of (mac (mv 4) (mac (mi) (man)))) (mi)) (man)))) (pss_cons (mset (i := 6) sc_law.nd rfl (by first | exact Or.inl rfl | exact Or.inr rfl) (mcmp (o_eq hu) (pe_cg ((ok_L_take c kin ns).cal hr (by decide) hg) (g_L_take c kin ns) (k_L_take c kin ns) rfl tk_of (mac (mv 4) (mac (mi) (man)))) (mi))) (pss_cons (mset (i := 7) sc_law.nd rfl (by first | exact Or.inl rfl | exact Or.inr rfl) (mbin o_div (mcb k_len rfl (f_len c kin ns) (by decide +kernel) (mac (mix hu (mix hu (mv 2) (mv 5)) (ms)) (man))) (mi))) (pss_cons (mset (i := 8) sc_law.nd rfl (by first | exact Or.inl rfl | exact Or.inr rfl) (pe_cg ((ok_L_one_of c kin ns).cal hr (by decide) hg) (g_L_one_of c kin ns) (k_L_one_of c kin ns) rfl tk_of (mac (mv 4) (mac (mv 7) (man))))) (pss_cons (msif (mtc (o_ne hu) (mcb (k_repr hg hu) rfl (f_repr c kin ns) (by decide +kernel) (mac (mmeth (mix hu (mv 1) (mv 5)) (dsp1 (He.cls_ok (fa_cls_Tour c)) (He.meth_ok (fa_meth_Tour_grow c)) ((ok_Tour_grow c kin ns).cal hr (by decide) hg) (dsp0)) tk_of (mac (mv 8) (man))) (man))) (mcb (k_repr hg hu) rfl (f_repr c kin ns) (by decide +kernel) (mac (mv 7) (man)))) (pss_one (msr (mb))) (pss_nil)) (pss_cons (msx (pe_cg ((ok_L_lay c kin ns).cal hr (by decide) hg) (g_L_lay c kin ns) (k_L_lay c kin ns) rfl tk_of (mac (mix hu (mv 2) (mv 5)) (mac (pe_cg ((ok_L_lay c kin ns).cal hr (by decide) hg) (g_L_lay c kin ns) (k_L_lay c kin ns) rfl tk_of (mac (mix hu (mv 2) (mv 5)) (mac (mbin o_mul (mi) (mv 8)) (man)))) (man))))) (pss_cons (msif (mtv (mv 6)) (pss_cons (mseti hu (mmeth0 (mix hu (mv 1) (mv 5)) (dsp1 (He.cls_ok (fa_cls_Order c)) (He.meth_ok (fa_meth_Order_copied c)) ((ok_Order_copied c kin ns).cal hr (by decide) hg) (dsp1 (He.cls_ok (fa_cls_Tour c)) (He.meth_ok (fa_meth_Tour_copied c)) ((ok_Tour_copied c kin ns).cal hr (by decide) hg) (dsp0))) tk_of) (mv 1) (mbin o_sub (mi) (mv 5))) (pss_one (mseti hu (mct (k_dict rfl) rfl (f_dict c kin ns) (by decide +kernel) (mac (mix hu (mv 2) (mv 5)) (man))) (mv 2) (mbin o_sub (mi) (mv 5))))) (pss_nil)) (pss_one (mfor hp_of rfl (miv (mlst (mac (mv 5) (mac (mbin o_sub (mi) (mv 5)) (man))))) (mgn sc_law.nd rfl (by first | exact Or.inl rfl | exact Or.inr rfl)) (pss_one (msif (mtn (mtv (pe_cg ((ok_L_right c kin ns).cal hr (by decide) hg) (g_L_right c kin ns) (k_L_right c kin ns) rfl tk_of (mac (mv 4) (mac (mix hu (mv 1) (mv 9)) (mac (mix hu (mv 2) (mv 9)) (man))))))) (pss_one (msr (mb))) (pss_nil)))))))))))))) (pss_one (msr (mb)))))
theorem fnG_law (c : SaysM fa fn xa K) (kin : K.In base) (ns : base.Ns mainGlobals mg) {fd : FuncData} (F : FunD K "law" "law" (defArgs s_law) (defBody s_law) (defScope s_law) [] [] (He.ga K "law") fd) : FnG P w K mg base 9 (He.ga K "law") fd ["_law_script"] (sp_law K) := by
  refine FnG.of F sc_law (fun vs H Q E z => by unfold sp_law at z; exact z.1) ?_
  intro cdv A outer s H vs Q E hr hg z
  unfold sp_law at z
  have hu := hr.units
  exact ⟨t_law K (wE E), pss_cons (mset (i := 1) sc_law.nd rfl (by first | exact Or.inl rfl | exact Or.inr rfl) (mlst (mac (pe_mk0 (He.mkr_ok (fa_mkr_Tour c)) ((ok_Tour_init c kin ns).calM hr (by decide) hg) (g_Tour c kin ns) rfl tk_of) (mac (pe_mk0 (He.mkr_ok (fa_mkr_Tour c)) ((ok_Tour_init c kin ns).calM hr (by decide) hg) (g_Tour c kin ns) rfl tk_of) (man))))) (pss_cons (mset (i := 2) sc_law.nd rfl (by first | exact Or.inl rfl | exact Or.inr rfl) (mlst (mac (mdis (pps_cons (ms) (mlst (mac (mtup (mac (mi) (mac (mi) (man)))) (mac (mtup (mac (mi) (mac (mi) (man)))) (man)))) (pps_cons (ms) (mi) (pps_nil)))) (mac (mdis (pps_cons (ms) (mlst (mac (mtup (mac (mi) (mac (mi) (man)))) (mac (mtup (mac (mi) (mac (mi) (man)))) (man)))) (pps_cons (ms) (mi) (pps_nil)))) (man))))) (pss_cons (mfor hp_of rfl (mr1 rfl (f_range c kin ns) (mac (mcb (k_max rfl) rfl (f_max c kin ns) (by decide +kernel) (mac (mi) (mac (mcb (k_min rfl) rfl (f_min c kin ns) (by decide +kernel) (mac (mi) (mac (mcb k_len rfl (f_len c kin ns) (by decide +kernel) (mac (mv 0) (man))) (man)))) (man)))) (man))) (mgn sc_law.nd rfl (by first | exact Or.inl rfl | exact Or.inr rfl)) (pss_cons (mset (i := 4) sc_law.nd rfl (by first | exact Or.inl rfl | exact Or.inr rfl) (pe_cg ((ok_L_box c kin ns).cal hr (by decide) hg) (g_L_box c kin ns) (k_L_box c kin ns) rfl tk_of (mac (pe_cg ((ok_L_cell_at c kin ns).cal hr (by decide) hg) (g_L_cell_at c kin ns) (k_L_cell_at c kin ns) rfl tk_of (mac (mv 0) (mac (mv 3) (man)))) (man)))) (pss_cons (mset (i := 5) sc_law.nd rfl (by first | exact Or.inl rfl | exact Or.inr rfl) (mct k_int rfl (f_int c kin ns) (by decide +kernel) (mac (mcmp (o_eq hu) (pe_cg ((ok_L_take c kin ns).cal hr (by decide) hg) (g_L_take c kin ns) (k_L_take c kin ns) rfl tk_of (mac (mv 4) (mac (mi) (man)))) (mi)) (man)))) (pss_cons (mset (i := 6) sc_law.nd rfl (by first | exact Or.inl rfl | exact Or.inr rfl) (mcmp (o_eq hu) (pe_cg ((ok_L_take c kin ns).cal hr (by decide) hg) (g_L_take c kin ns) (k_L_take c kin ns) rfl tk_of (mac (mv 4) (mac (mi) (man)))) (mi))) (pss_cons (mset (i := 7) sc_law.nd rfl (by first | exact Or.inl rfl | exact Or.inr rfl) (mbin o_div (mcb k_len rfl (f_len c kin ns) (by decide +kernel) (mac (mix hu (mix hu (mv 2) (mv 5)) (ms)) (man))) (mi))) (pss_cons (mset (i := 8) sc_law.nd rfl (by first | exact Or.inl rfl | exact Or.inr rfl) (pe_cg ((ok_L_one_of c kin ns).cal hr (by decide) hg) (g_L_one_of c kin ns) (k_L_one_of c kin ns) rfl tk_of (mac (mv 4) (mac (mv 7) (man))))) (pss_cons (msif (mtc (o_ne hu) (mcb (k_repr hg hu) rfl (f_repr c kin ns) (by decide +kernel) (mac (mmeth (mix hu (mv 1) (mv 5)) (dsp1 (He.cls_ok (fa_cls_Tour c)) (He.meth_ok (fa_meth_Tour_grow c)) ((ok_Tour_grow c kin ns).cal hr (by decide) hg) (dsp0)) tk_of (mac (mv 8) (man))) (man))) (mcb (k_repr hg hu) rfl (f_repr c kin ns) (by decide +kernel) (mac (mv 7) (man)))) (pss_one (msr (mb))) (pss_nil)) (pss_cons (msx (pe_cg ((ok_L_lay c kin ns).cal hr (by decide) hg) (g_L_lay c kin ns) (k_L_lay c kin ns) rfl tk_of (mac (mix hu (mv 2) (mv 5)) (mac (pe_cg ((ok_L_lay c kin ns).cal hr (by decide) hg) (g_L_lay c kin ns) (k_L_lay c kin ns) rfl tk_of (mac (mix hu (mv 2) (mv 5)) (mac (mbin o_mul (mi) (mv 8)) (man)))) (man))))) (pss_cons (msif (mtv (mv 6)) (pss_cons (mseti hu (mmeth0 (mix hu (mv 1) (mv 5)) (dsp1 (He.cls_ok (fa_cls_Order c)) (He.meth_ok (fa_meth_Order_copied c)) ((ok_Order_copied c kin ns).cal hr (by decide) hg) (dsp1 (He.cls_ok (fa_cls_Tour c)) (He.meth_ok (fa_meth_Tour_copied c)) ((ok_Tour_copied c kin ns).cal hr (by decide) hg) (dsp0))) tk_of) (mv 1) (mbin o_sub (mi) (mv 5))) (pss_one (mseti hu (mct (k_dict rfl) rfl (f_dict c kin ns) (by decide +kernel) (mac (mix hu (mv 2) (mv 5)) (man))) (mv 2) (mbin o_sub (mi) (mv 5))))) (pss_nil)) (pss_one (mfor hp_of rfl (miv (mlst (mac (mv 5) (mac (mbin o_sub (mi) (mv 5)) (man))))) (mgn sc_law.nd rfl (by first | exact Or.inl rfl | exact Or.inr rfl)) (pss_one (msif (mtn (mtv (pe_cg ((ok_L_right c kin ns).cal hr (by decide) hg) (g_L_right c kin ns) (k_L_right c kin ns) rfl tk_of (mac (mv 4) (mac (mix hu (mv 1) (mv 9)) (mac (mix hu (mv 2) (mv 9)) (man))))))) (pss_one (msr (mb))) (pss_nil)))))))))))))) (pss_one (msr (mb))))), by rw [st0_eq (n := 1) (m := 9) z.1 rfl]; exact z.2⟩
end
/-! the head: one run of the top -/
abbrev R : PySem.W.OpenRow := PySem.W.OpenLaw.row PySem.Challenge.rw_makeskept_k16_tours_by_coming_and_leavin
abbrev hk : PySem.W.Hook := hookM 6 fa fn xa
def ob (s : PySem.W.SharedT) : AlM := obsM 6 fa fn xa (HandSHeadRun.getT s)
theorem ob_eq (s : PySem.W.SharedT) : ob s = hk.obs s.abs := obsM_eq (HandSHeadRun.getT_eq s)
def loose : List Str := ["_wall", "MakesError", "NoMake", "NoMark", "TooMany", "is_whole", "MOST_MARKS", "TOP_LABEL", "Order", "MOST_MAKES", "Tour", "_law_cell_at", "_law_box", "_law_take", "_law_end", "_law_lay", "_law_one_of", "_law_lists_right", "_law_right"]
theorem run (w : World) : HandSHeadRun.RunEq R (PySem.W.view R.prog [24]) hk ob 3380 loose w := by
  intro os
  kernel_rfl

end Lawk16
open PySem PySem.W PySem.Calls PyProof.Rows
set_option maxRecDepth 100000 in
set_option maxHeartbeats 0 in
theorem PySem.Challenge.cw_makeskept_k16_tours_by_coming_and_leavin_holds : PySem.Challenge.rw_makeskept_k16_tours_by_coming_and_leavin.Holds := by
  w_on; o_law
  refine HandSHeadRun.head_any (r := OpenLaw.row PySem.Challenge.rw_makeskept_k16_tours_by_coming_and_leavin) (q := view (OpenLaw.row PySem.Challenge.rw_makeskept_k16_tours_by_coming_and_leavin).prog [24]) (H := Lawk16.hk) (ob := Lawk16.ob) (M := 3380) (loose := Lawk16.loose) (d := HandSHeadRun.topDef (OpenLaw.row PySem.Challenge.rw_makeskept_k16_tours_by_coming_and_leavin).prog 24) (kwd := []) Lawk16.ob_eq
    (by kernel_rfl) (fun s => by kernel_rfl) Lawk16.run (by kernel_rfl) (by kernel_rfl) (by kernel_rfl) (by rfl) (by first | assumption | decide +kernel) (by decide +kernel) ⟨rfl, rfl, rfl, rfl, rfl, by decide +kernel⟩ ?hw ?hc
  case hw => w_witness2
  case hc =>
    refine MK.walk_end (l := PySem.Challenge.rw_makeskept_k16_tours_by_coming_and_leavin) (n := 63) (k := 9) (x := "_law_script") rfl (by decide) (by kernel_rfl) ⟨rfl, by decide, by decide⟩ ?F
    intro w mg fa h Y G hmg0
    obtain ⟨K, KX, c⟩ := Y
    have hmg : mg ("law" : PySem.Str) = some (.ref fa) := by
      have e : (HandSHeadRun.topDef (OpenLaw.row PySem.Challenge.rw_makeskept_k16_tours_by_coming_and_leavin).prog 24).name = ("law" : PySem.Str) := by kernel_rfl
      rw [← e]
      exact hmg0
    have e := hmg.symm.trans (Lawk16.g_law c KX G)
    cases e
    obtain ⟨fd, F⟩ := c.def_ 33 (d := Lawk16.dd_law) rfl
    refine ⟨K, fd, Lawk16.sp_law K, KX, fun s v => L2.FunD.bindsA (ps := ["_law_script"]) F (fun _ _ _ _ _ _ us hl => match us, hl with | [_], _ => rfl) s [v] rfl, fun H a ns hl S => Lawk16.law_ok S, fun base kin ns => ?_⟩
    exact Lawk16.fnG_law c kin ns F

