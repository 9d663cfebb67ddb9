import PyProof.Rows.All
import Wide.All
import OpenK.AllK
import Wide.FinOn
import HandS.ForMost
import HandS.Exc
import HandS.TryOnly
import HandS.TryMany
import HandS.ExcOwn
import HandS.WordsExc
import HandS.Wide
import HandS.WideBits
import HandS.IsInst
import HandS.Steps
import HandS.Style
import HandS.TupAny
import HandS.TupLe
import HandS.Deep
import HandS.SortInts
import HandS.Rev
import HandS.RevRange
import HandS.Small
import HandS.Zip
import HandS.Comp
import HandS.Conv
import HandS.Zip0
import PyProof.EnumMake
import HandS.Nested
import HandS.ExcInit
import HandS.ExcField
import HandS.ExcIs
import KE.KExcSuper
import KE.KExcIs
import HandS.Defaults
import HandS.MakeKwOnly
import PySem.Challenge.RW_surefornow_k52_unbent_judged
set_option Elab.async false
set_option linter.all false
set_option maxRecDepth 100000
set_option maxHeartbeats 4000000
/-! # Qd: plain data beside the abstract heap. Values as trees (D), what of the heap bears them (RD), what a body's state is (Rel). -/
namespace Qd
open PySem PySem.Spec PyProof.Rows L2

/-- how a list or an instance stands: me: the instance that __init__ is making; fz: never changed again; ow: owned by the one place that holds it; bo: borrowed from a caller; lo: looked at; kz: the script, a list of the top -/
inductive Fl where | fz | ow | bo | lo | kz | me
  deriving DecidableEq

inductive D where
  | non | bl (b : Bool) | int (i : Int) | str (x : Str) | ty (n : String) | cls (c : Str) | tok
  | tup (xs : List D)
  | lst (f : Fl) (xs : List D)
  | obj (f : Fl) (c : Str) (ns : List Str) (xs : List D)

theorem D.ind {P : D → Prop} {Ps : List D → Prop} (non : P .non) (bl : ∀ b, P (.bl b)) (int : ∀ i, P (.int i)) (str : ∀ x, P (.str x)) (ty : ∀ n, P (.ty n)) (cls : ∀ c, P (.cls c)) (tok : P .tok)
    (tup : ∀ xs, Ps xs → P (.tup xs)) (lst : ∀ f xs, Ps xs → P (.lst f xs)) (obj : ∀ f c ns xs, Ps xs → P (.obj f c ns xs)) (nil : Ps []) (cons : ∀ d r, P d → Ps r → Ps (d :: r)) : (∀ d, P d) ∧ ∀ ds, Ps ds :=
  ⟨fun d => D.rec (motive_1 := P) (motive_2 := Ps) non bl int str ty cls tok tup lst obj nil cons d, fun ds => D.rec_1 (motive_1 := P) (motive_2 := Ps) non bl int str ty cls tok tup lst obj nil cons ds⟩

mutual
def okf (p : Fl → Bool) : D → Bool
  | .tup xs => okfs p xs
  | .lst f xs => p f && okfs p xs
  | .obj f _ _ xs => p f && okfs p xs
  | _ => true
def okfs (p : Fl → Bool) : List D → Bool
  | [] => true
  | d :: r => okf p d && okfs p r
end
def isFz : Fl → Bool | .fz => true | _ => false
def isSto : Fl → Bool | .fz => true | .ow => true | _ => false
def notLo : Fl → Bool | .lo => false | _ => true
def isArg : Fl → Bool | .fz => true | .bo => true | .kz => true | _ => false
mutual
def fz : D → D
  | .tup xs => .tup (fzs xs)
  | .lst f xs => .lst (match f with | .ow => .fz | .me => .lo | f => f) (fzs xs)
  | .obj f c ns xs => .obj (match f with | .ow => .fz | .me => .lo | f => f) c ns (fzs xs)
  | d => d
def fzs : List D → List D
  | [] => []
  | d :: r => fz d :: fzs r
end
mutual
/-- an owned thing looked at -/
def lk : D → D
  | .tup xs => .tup (lks xs)
  | .lst f xs => .lst (match f with | .ow => .lo | .me => .lo | f => f) (lks xs)
  | .obj f c ns xs => .obj (match f with | .ow => .lo | .me => .lo | f => f) c ns (lks xs)
  | d => d
def lks : List D → List D
  | [] => []
  | d :: r => lk d :: lks r
end
mutual
/-- a looked at thing handed to a def -/
def bw : D → D
  | .tup xs => .tup (bws xs)
  | .lst f xs => .lst (match f with | .lo => .bo | f => f) (bws xs)
  | .obj f c ns xs => .obj (match f with | .lo => .bo | f => f) c ns (bws xs)
  | d => d
def bws : List D → List D
  | [] => []
  | d :: r => bw d :: bws r
end

/-- what stays the same through a body: the written part, the module's names, what callers lend, where the stream stands -/
structure Gw where
  K : PySem.W.Frag
  mg : Str → Option Value
  B : Hp
  st : Option Addr
  me : Option (Addr × Addr) := none
  ex : Option (Addr × Obj) := none

/-- the list vs at a, as f says; fp: the addresses owned -/
def LAt (w : Gw) (G H : Hp) (a : Addr) (vs : List V) (ds : List D) (fp fp' : List Addr) : Fl → Prop
  | .fz => G a = some (.lst vs) ∧ okfs isFz ds = true ∧ fp' = [] ∧ fp = []
  | .kz => SqL w.K G a vs ∧ okfs isFz ds = true ∧ fp' = [] ∧ fp = []
  | .bo => w.B a = some (.lst vs) ∧ okfs isArg ds = true ∧ fp' = [] ∧ fp = []
  | .lo => H a = some (.lst vs) ∧ w.st ≠ some a ∧ fp' = [] ∧ fp = []
  | .ow => H a = some (.lst vs) ∧ okfs isSto ds = true ∧ fp = a :: fp'
  | .me => False
def OAt (w : Gw) (G H : Hp) (a C dx : Addr) (fs : List (Str × V)) (ds : List D) (fp fp' : List Addr) : Fl → Prop
  | .fz => G a = some (.ins C dx fs) ∧ okfs isFz ds = true ∧ fp' = [] ∧ fp = []
  | .kz => (∃ oe : Obj, (w.ex = some (a, oe) ∧ oe.cls = .ref C ∧ PySem.W.findIn w.K (.ref C) "__getattribute__" = some (some (.builtin "BaseException.__getattribute__"))) ∧ ((fs = [] ∧ oe.dict = none) ∨ (oe.dict = some dx ∧ G dx = some (.xd fs)))) ∧ okfs isFz ds = true ∧ fp' = [] ∧ fp = []
  | .bo => w.B a = some (.ins C dx fs) ∧ okfs isArg ds = true ∧ fp' = [] ∧ fp = []
  | .lo => H a = some (.ins C dx fs) ∧ w.st ≠ some a ∧ fp' = [] ∧ fp = []
  | .ow => H a = some (.ins C dx fs) ∧ H dx = some (.own a) ∧ okfs isSto ds = true ∧ fp = a :: dx :: fp'
  | .me => H a = some (.ins C dx fs) ∧ H dx = some (.own a) ∧ okfs isSto ds = true ∧ w.me = some (a, dx) ∧ w.st ≠ some a ∧ fp = a :: dx :: fp'

mutual
def RD (w : Gw) (G H : Hp) : D → V → List Addr → Prop
  | .non, v, f => v = .non ∧ f = []
  | .bl b, v, f => v = .bl b ∧ f = []
  | .int i, v, f => v = .int i ∧ f = []
  | .str x, v, f => v = .str x ∧ f = []
  | .ty n, v, f => v = .ty n ∧ f = []
  | .cls c, v, f => ∃ a, v = .ref a ∧ f = [] ∧ w.mg c = some (.ref a)
  | .tok, v, f => ∃ a, v = .ref a ∧ f = [] ∧ w.st = some a
  | .tup ds, v, f => ∃ a vs, v = .ref a ∧ f = [] ∧ SqT w.K G a vs ∧ okfs isFz ds = true ∧ RDs w G H ds vs []
  | .lst fl ds, v, f => ∃ a vs fp, v = .ref a ∧ LAt w G H a vs ds f fp fl ∧ RDs w G H ds vs fp
  | .obj fl c ns ds, v, f => ∃ a C dx fs fp, v = .ref a ∧ w.mg c = some (.ref C) ∧ fs.map (·.1) = ns ∧ OAt w G H a C dx fs ds f fp fl ∧ RDs w G H ds (fs.map (·.2)) fp
def RDs (w : Gw) (G H : Hp) : List D → List V → List Addr → Prop
  | [], vs, f => vs = [] ∧ f = []
  | d :: ds, vs, f => ∃ v us f1 f2, vs = v :: us ∧ f = f1 ++ f2 ∧ RD w G H d v f1 ∧ RDs w G H ds us f2
end

/-- all but the stream stands -/
def Step (w : Gw) (H H' : Hp) : Prop := ∀ a o, H a = some o → w.st ≠ some a → H' a = some o
theorem Step.refl (w : Gw) (H : Hp) : Step w H H := fun _ _ h _ => h
theorem Step.trans {w : Gw} {H H1 H2 : Hp} (a : Step w H H1) (b : Step w H1 H2) : Step w H H2 := fun x o h n => b x o (a x o h n) n
theorem Step.new {w : Gw} {H : Hp} {p : Addr} {o : HO} (h : H p = none) : Step w H (upd H p o) := fun a u e _ => by
  rw [upd_ne (ne_of_none e h)]; exact e
theorem Step.free {w : Gw} {H H' : Hp} (e : Step w H H') {l : Addr} (h : H' l = none) (n : w.st ≠ some l) : H l = none := by
  cases q : H l with
  | none => rfl
  | some o => rw [e l o q n] at h; cases h
/-- more is never changed again -/
def Sub (G G' : Hp) : Prop := ∀ a o, G a = some o → G' a = some o
theorem Sub.refl (G : Hp) : Sub G G := fun _ _ h => h
theorem Sub.trans {G G1 G2 : Hp} (a : Sub G G1) (b : Sub G1 G2) : Sub G G2 := fun x o h => b x o (a x o h)
theorem Sub.new {G : Hp} {p : Addr} {o : HO} (h : G p = none) : Sub G (upd G p o) := fun a u e => by
  rw [upd_ne (ne_of_none e h)]; exact e
theorem Sub.seqL {K : PySem.W.Frag} {G G' : Hp} {a : Addr} {xs : List V} (e : Sub G G') (h : SqL K G a xs) : SqL K G' a xs := by
  rcases h with (h | ⟨o, h⟩) | h
  · exact .inl (.inl (e _ _ h))
  · exact .inl (.inr ⟨o, e _ _ h⟩)
  · exact .inr h
theorem Sub.seqT {K : PySem.W.Frag} {G G' : Hp} {a : Addr} {xs : List V} (e : Sub G G') (h : SqT K G a xs) : SqT K G' a xs := by
  rcases h with (h | ⟨o, h⟩) | h
  · exact .inl (.inl (e _ _ h))
  · exact .inl (.inr ⟨o, e _ _ h⟩)
  · exact .inr h
theorem Sub.none {G G' : Hp} {a : Addr} (e : Sub G G') (h : G' a = none) : G a = none := by
  cases q : G a with
  | none => rfl
  | some o => rw [e a o q] at h; cases h

theorem okf_imp {p q : Fl → Bool} (h : ∀ f, p f = true → q f = true) : (∀ d, okf p d = true → okf q d = true) ∧ ∀ ds, okfs p ds = true → okfs q ds = true := by
  refine D.ind (fun _ => rfl) (fun _ _ => rfl) (fun _ _ => rfl) (fun _ _ => rfl) (fun _ _ => rfl) (fun _ _ => rfl) (fun _ => rfl) (fun xs ih e => ?_) (fun f xs ih e => ?_) (fun f c ns xs ih e => ?_) (fun _ => rfl) (fun d r i1 i2 e => ?_)
  · simp only [okf] at e ⊢; exact ih e
  · simp only [okf, Bool.and_eq_true] at e ⊢; exact ⟨h _ e.1, ih e.2⟩
  · simp only [okf, Bool.and_eq_true] at e ⊢; exact ⟨h _ e.1, ih e.2⟩
  · simp only [okfs, Bool.and_eq_true] at e ⊢; exact ⟨i1 e.1, i2 e.2⟩
theorem fz_sto : ∀ f, isFz f = true → isSto f = true := by intro f; cases f <;> simp [isFz, isSto]
theorem fz_nlo : ∀ f, isFz f = true → notLo f = true := by intro f; cases f <;> simp [isFz, notLo]
theorem sto_nlo : ∀ f, isSto f = true → notLo f = true := by intro f; cases f <;> simp [isSto, notLo]
theorem fz_arg : ∀ f, isFz f = true → isArg f = true := by intro f; cases f <;> simp [isFz, isArg]

/-! ### the relation stays -/
section
variable {w : Gw} {G G' H H' : Hp}
/-- all but the stream stands -/
theorem step_all (hG : Sub G G') (hs : Step w H H') : (∀ d v f, RD w G H d v f → (∀ a ∈ f, w.st ≠ some a) → RD w G' H' d v f) ∧ ∀ ds vs f, RDs w G H ds vs f → (∀ a ∈ f, w.st ≠ some a) → RDs w G' H' ds vs f := by
  refine D.ind ?_ ?_ ?_ ?_ ?_ ?_ ?_ ?_ ?_ ?_ ?_ ?_
  · intro v f h _; simp only [RD] at h ⊢; exact h
  · intro b v f h _; simp only [RD] at h ⊢; exact h
  · intro b v f h _; simp only [RD] at h ⊢; exact h
  · intro b v f h _; simp only [RD] at h ⊢; exact h
  · intro b v f h _; simp only [RD] at h ⊢; exact h
  · intro b v f h _; simp only [RD] at h ⊢; exact h
  · intro v f h _; simp only [RD] at h ⊢; exact h
  · intro xs ih v f h n
    simp only [RD] at h ⊢
    obtain ⟨a, vs, e1, e2, hq, k, r⟩ := h
    exact ⟨a, vs, e1, e2, hG.seqT hq, k, ih _ _ r (fun _ m => nomatch m)⟩
  · intro fl xs ih v f h n
    simp only [RD] at h ⊢
    obtain ⟨a, vs, fp, e1, hl, r⟩ := h
    cases fl with
    | fz => obtain ⟨h1, h2, rfl, rfl⟩ := hl; exact ⟨a, vs, _, e1, ⟨hG _ _ h1, h2, rfl, rfl⟩, ih _ _ r (fun _ m => nomatch m)⟩
    | kz => obtain ⟨h1, h2, rfl, rfl⟩ := hl; exact ⟨a, vs, _, e1, ⟨hG.seqL h1, h2, rfl, rfl⟩, ih _ _ r (fun _ m => nomatch m)⟩
    | bo => obtain ⟨h1, h2, rfl, rfl⟩ := hl; exact ⟨a, vs, _, e1, ⟨h1, h2, rfl, rfl⟩, ih _ _ r (fun _ m => nomatch m)⟩
    | lo => obtain ⟨h1, h2, rfl, rfl⟩ := hl; exact ⟨a, vs, _, e1, ⟨hs _ _ h1 h2, h2, rfl, rfl⟩, ih _ _ r (fun _ m => nomatch m)⟩
    | ow => obtain ⟨h1, h2, rfl⟩ := hl; exact ⟨a, vs, _, e1, ⟨hs _ _ h1 (n _ (List.mem_cons_self ..)), h2, rfl⟩, ih _ _ r fun b m => n b (List.mem_cons_of_mem _ m)⟩
    | me => exact hl.elim
  · intro fl c ns xs ih v f h n
    simp only [RD] at h ⊢
    obtain ⟨a, C, dx, fs, fp, e1, hm, hn, hl, r⟩ := h
    refine ⟨a, C, dx, fs, fp, e1, hm, hn, ?_⟩
    cases fl with
    | fz => obtain ⟨h1, h2, rfl, rfl⟩ := hl; exact ⟨⟨hG _ _ h1, h2, rfl, rfl⟩, ih _ _ r (fun _ m => nomatch m)⟩
    | kz => obtain ⟨⟨oe, h1, h2⟩, h3, rfl, rfl⟩ := hl; exact ⟨⟨⟨oe, h1, h2.imp id fun z => ⟨z.1, hG _ _ z.2⟩⟩, h3, rfl, rfl⟩, ih _ _ r (fun _ m => nomatch m)⟩
    | bo => obtain ⟨h1, h2, rfl, rfl⟩ := hl; exact ⟨⟨h1, h2, rfl, rfl⟩, ih _ _ r (fun _ m => nomatch m)⟩
    | lo => obtain ⟨h1, h2, rfl, rfl⟩ := hl; exact ⟨⟨hs _ _ h1 h2, h2, rfl, rfl⟩, ih _ _ r (fun _ m => nomatch m)⟩
    | ow =>
      obtain ⟨h1, h2, h3, rfl⟩ := hl
      exact ⟨⟨hs _ _ h1 (n _ (List.mem_cons_self ..)), hs _ _ h2 (n _ (List.mem_cons_of_mem _ (List.mem_cons_self ..))), h3, rfl⟩, ih _ _ r fun b m => n b (List.mem_cons_of_mem _ (List.mem_cons_of_mem _ m))⟩
    | me =>
      obtain ⟨h1, h2, h3, h4, h5, rfl⟩ := hl
      exact ⟨⟨hs _ _ h1 (n _ (List.mem_cons_self ..)), hs _ _ h2 (n _ (List.mem_cons_of_mem _ (List.mem_cons_self ..))), h3, h4, h5, rfl⟩, ih _ _ r fun b m => n b (List.mem_cons_of_mem _ (List.mem_cons_of_mem _ m))⟩
  · intro vs f h _; simp only [RDs] at h ⊢; exact h
  · intro d r i1 i2 vs f h n
    simp only [RDs] at h ⊢
    obtain ⟨v, us, f1, f2, e1, rfl, h1, h2⟩ := h
    exact ⟨v, us, f1, f2, e1, rfl, i1 _ _ h1 fun a m => n a (List.mem_append_left _ m), i2 _ _ h2 fun a m => n a (List.mem_append_right _ m)⟩
theorem RD.step (hG : Sub G G') (hs : Step w H H') {d : D} {v : V} {f : List Addr} (h : RD w G H d v f) (n : ∀ a ∈ f, w.st ≠ some a) : RD w G' H' d v f := (step_all hG hs).1 d v f h n
theorem RDs.step (hG : Sub G G') (hs : Step w H H') {d : List D} {v : List V} {f : List Addr} (h : RDs w G H d v f) (n : ∀ a ∈ f, w.st ≠ some a) : RDs w G' H' d v f := (step_all hG hs).2 d v f h n
/-- where nothing looked at is in it: only the owned addresses must stand -/
theorem mono_all (hG : Sub G G') : (∀ d v f, RD w G H d v f → okf notLo d = true → (∀ a ∈ f, ∀ o, H a = some o → H' a = some o) → RD w G' H' d v f) ∧
    ∀ ds vs f, RDs w G H ds vs f → okfs notLo ds = true → (∀ a ∈ f, ∀ o, H a = some o → H' a = some o) → RDs w G' H' ds vs f := by
  refine D.ind ?_ ?_ ?_ ?_ ?_ ?_ ?_ ?_ ?_ ?_ ?_ ?_
  · intro v f h _ _; simp only [RD] at h ⊢; exact h
  · intro b v f h _ _; simp only [RD] at h ⊢; exact h
  · intro b v f h _ _; simp only [RD] at h ⊢; exact h
  · intro b v f h _ _; simp only [RD] at h ⊢; exact h
  · intro b v f h _ _; simp only [RD] at h ⊢; exact h
  · intro b v f h _ _; simp only [RD] at h ⊢; exact h
  · intro v f h _ _; simp only [RD] at h ⊢; exact h
  · intro xs ih v f h k0 n
    simp only [RD] at h ⊢
    simp only [okf] at k0
    obtain ⟨a, vs, e1, e2, hq, k, r⟩ := h
    exact ⟨a, vs, e1, e2, hG.seqT hq, k, ih _ _ r k0 (fun _ m => nomatch m)⟩
  · intro fl xs ih v f h k0 n
    simp only [RD] at h ⊢
    simp only [okf, Bool.and_eq_true] at k0
    obtain ⟨a, vs, fp, e1, hl, r⟩ := h
    cases fl with
    | fz => obtain ⟨h1, h2, rfl, rfl⟩ := hl; exact ⟨a, vs, _, e1, ⟨hG _ _ h1, h2, rfl, rfl⟩, ih _ _ r k0.2 (fun _ m => nomatch m)⟩
    | kz => obtain ⟨h1, h2, rfl, rfl⟩ := hl; exact ⟨a, vs, _, e1, ⟨hG.seqL h1, h2, rfl, rfl⟩, ih _ _ r k0.2 (fun _ m => nomatch m)⟩
    | bo => obtain ⟨h1, h2, rfl, rfl⟩ := hl; exact ⟨a, vs, _, e1, ⟨h1, h2, rfl, rfl⟩, ih _ _ r k0.2 (fun _ m => nomatch m)⟩
    | lo => exact absurd k0.1 (by decide)
    | ow => obtain ⟨h1, h2, rfl⟩ := hl; exact ⟨a, vs, _, e1, ⟨n _ (List.mem_cons_self ..) _ h1, h2, rfl⟩, ih _ _ r k0.2 fun b m => n b (List.mem_cons_of_mem _ m)⟩
    | me => exact hl.elim
  · intro fl c ns xs ih v f h k0 n
    simp only [RD] at h ⊢
    simp only [okf, Bool.and_eq_true] at k0
    obtain ⟨a, C, dx, fs, fp, e1, hm, hn, hl, r⟩ := h
    refine ⟨a, C, dx, fs, fp, e1, hm, hn, ?_⟩
    cases fl with
    | fz => obtain ⟨h1, h2, rfl, rfl⟩ := hl; exact ⟨⟨hG _ _ h1, h2, rfl, rfl⟩, ih _ _ r k0.2 (fun _ m => nomatch m)⟩
    | kz => obtain ⟨⟨oe, h1, h2⟩, h3, rfl, rfl⟩ := hl; exact ⟨⟨⟨oe, h1, h2.imp id fun z => ⟨z.1, hG _ _ z.2⟩⟩, h3, rfl, rfl⟩, ih _ _ r k0.2 (fun _ m => nomatch m)⟩
    | bo => obtain ⟨h1, h2, rfl, rfl⟩ := hl; exact ⟨⟨h1, h2, rfl, rfl⟩, ih _ _ r k0.2 (fun _ m => nomatch m)⟩
    | lo => exact absurd k0.1 (by decide)
    | ow =>
      obtain ⟨h1, h2, h3, rfl⟩ := hl
      exact ⟨⟨n _ (List.mem_cons_self ..) _ h1, n _ (List.mem_cons_of_mem _ (List.mem_cons_self ..)) _ h2, h3, rfl⟩, ih _ _ r k0.2 fun b m => n b (List.mem_cons_of_mem _ (List.mem_cons_of_mem _ m))⟩
    | me =>
      obtain ⟨h1, h2, h3, h4, h5, rfl⟩ := hl
      exact ⟨⟨n _ (List.mem_cons_self ..) _ h1, n _ (List.mem_cons_of_mem _ (List.mem_cons_self ..)) _ h2, h3, h4, h5, rfl⟩, ih _ _ r k0.2 fun b m => n b (List.mem_cons_of_mem _ (List.mem_cons_of_mem _ m))⟩
  · intro vs f h _ _; simp only [RDs] at h ⊢; exact h
  · intro d r i1 i2 vs f h k0 n
    simp only [RDs] at h ⊢
    simp only [okfs, Bool.and_eq_true] at k0
    obtain ⟨v, us, f1, f2, e1, rfl, h1, h2⟩ := h
    exact ⟨v, us, f1, f2, e1, rfl, i1 _ _ h1 k0.1 fun a m => n a (List.mem_append_left _ m), i2 _ _ h2 k0.2 fun a m => n a (List.mem_append_right _ m)⟩
theorem RD.mono (hG : Sub G G') {d : D} {v : V} {f : List Addr} (h : RD w G H d v f) (k : okf notLo d = true) (n : ∀ a ∈ f, ∀ o, H a = some o → H' a = some o) : RD w G' H' d v f := (mono_all hG).1 d v f h k n
theorem RDs.mono (hG : Sub G G') {d : List D} {v : List V} {f : List Addr} (h : RDs w G H d v f) (k : okfs notLo d = true) (n : ∀ a ∈ f, ∀ o, H a = some o → H' a = some o) : RDs w G' H' d v f := (mono_all hG).2 d v f h k n
/-- what is owned stands in the heap -/
theorem there_all : (∀ d v f, RD w G H d v f → ∀ a ∈ f, ∃ o, H a = some o) ∧ ∀ ds vs f, RDs w G H ds vs f → ∀ a ∈ f, ∃ o, H a = some o := by
  refine D.ind ?_ ?_ ?_ ?_ ?_ ?_ ?_ ?_ ?_ ?_ ?_ ?_
  · intro v f h a m; simp only [RD] at h; rw [h.2] at m; cases m
  · intro b v f h a m; simp only [RD] at h; rw [h.2] at m; cases m
  · intro b v f h a m; simp only [RD] at h; rw [h.2] at m; cases m
  · intro b v f h a m; simp only [RD] at h; rw [h.2] at m; cases m
  · intro b v f h a m; simp only [RD] at h; rw [h.2] at m; cases m
  · intro b v f h a m; simp only [RD] at h; obtain ⟨_, _, e, _⟩ := h; rw [e] at m; cases m
  · intro v f h a m; simp only [RD] at h; obtain ⟨_, _, e, _⟩ := h; rw [e] at m; cases m
  · intro xs ih v f h a m; simp only [RD] at h; obtain ⟨_, _, _, e, _⟩ := h; rw [e] at m; cases m
  · intro fl xs ih v f h b m
    simp only [RD] at h
    obtain ⟨a, vs, fp, e1, hl, r⟩ := h
    cases fl with
    | fz => obtain ⟨h1, h2, rfl, rfl⟩ := hl; cases m
    | kz => obtain ⟨h1, h2, rfl, rfl⟩ := hl; cases m
    | bo => obtain ⟨h1, h2, rfl, rfl⟩ := hl; cases m
    | lo => obtain ⟨h1, h2, rfl, rfl⟩ := hl; cases m
    | ow =>
      obtain ⟨h1, h2, rfl⟩ := hl
      rcases List.mem_cons.mp m with rfl | m
      · exact ⟨_, h1⟩
      · exact ih _ _ r b m
    | me => exact hl.elim
  · intro fl c ns xs ih v f h b m
    simp only [RD] at h
    obtain ⟨a, C, dx, fs, fp, e1, hm, hn, hl, r⟩ := h
    cases fl with
    | fz => obtain ⟨h1, h2, rfl, rfl⟩ := hl; cases m
    | kz => obtain ⟨h1, h3, rfl, rfl⟩ := hl; cases m
    | bo => obtain ⟨h1, h2, rfl, rfl⟩ := hl; cases m
    | lo => obtain ⟨h1, h2, rfl, rfl⟩ := hl; cases m
    | ow =>
      obtain ⟨h1, h2, h3, rfl⟩ := hl
      rcases List.mem_cons.mp m with rfl | m
      · exact ⟨_, h1⟩
      · rcases List.mem_cons.mp m with rfl | m
        · exact ⟨_, h2⟩
        · exact ih _ _ r b m
    | me =>
      obtain ⟨h1, h2, h3, h4, h5, rfl⟩ := hl
      rcases List.mem_cons.mp m with rfl | m
      · exact ⟨_, h1⟩
      · rcases List.mem_cons.mp m with rfl | m
        · exact ⟨_, h2⟩
        · exact ih _ _ r b m
  · intro vs f h a m; simp only [RDs] at h; rw [h.2] at m; cases m
  · intro d r i1 i2 vs f h a m
    simp only [RDs] at h
    obtain ⟨v, us, f1, f2, e1, rfl, h1, h2⟩ := h
    rcases List.mem_append.mp m with m | m
    · exact i1 _ _ h1 a m
    · exact i2 _ _ h2 a m
theorem RD.there {d : D} {v : V} {f : List Addr} (h : RD w G H d v f) : ∀ a ∈ f, ∃ o, H a = some o := there_all.1 d v f h
theorem RDs.there {d : List D} {v : List V} {f : List Addr} (h : RDs w G H d v f) : ∀ a ∈ f, ∃ o, H a = some o := there_all.2 d v f h
/-- what is stored (frozen or owned) leans on G and on what it owns alone -/
theorem sto_all {w' : Gw} (hK : w.K = w'.K) (hm' : w.mg = w'.mg) (hst : w.st = w'.st) (hG : Sub G G') : (∀ d v f, RD w G H d v f → okf isSto d = true → (∀ a ∈ f, ∀ o, H a = some o → H' a = some o) → RD w' G' H' d v f) ∧
    ∀ ds vs f, RDs w G H ds vs f → okfs isSto ds = true → (∀ a ∈ f, ∀ o, H a = some o → H' a = some o) → RDs w' G' H' ds vs f := by
  refine D.ind ?_ ?_ ?_ ?_ ?_ ?_ ?_ ?_ ?_ ?_ ?_ ?_
  · intro v f h _ _; simp only [RD] at h ⊢; exact h
  · intro b v f h _ _; simp only [RD] at h ⊢; exact h
  · intro b v f h _ _; simp only [RD] at h ⊢; exact h
  · intro b v f h _ _; simp only [RD] at h ⊢; exact h
  · intro b v f h _ _; simp only [RD] at h ⊢; exact h
  · intro b v f h _ _; simp only [RD] at h ⊢; rw [← hm']; exact h
  · intro v f h _ _; simp only [RD] at h ⊢; rw [← hst]; exact h
  · intro xs ih v f h k0 n
    simp only [RD] at h ⊢
    simp only [okf] at k0
    obtain ⟨a, vs, e1, e2, hq, k, r⟩ := h
    exact ⟨a, vs, e1, e2, by rw [← hK]; exact hG.seqT hq, k, ih _ _ r k0 (fun _ m => nomatch m)⟩
  · intro fl xs ih v f h k0 n
    simp only [RD] at h ⊢
    simp only [okf, Bool.and_eq_true] at k0
    obtain ⟨a, vs, fp, e1, hl, r⟩ := h
    cases fl with
    | fz => obtain ⟨h1, h2, rfl, rfl⟩ := hl; exact ⟨a, vs, _, e1, ⟨hG _ _ h1, h2, rfl, rfl⟩, ih _ _ r k0.2 (fun _ m => nomatch m)⟩
    | kz => exact absurd k0.1 (by decide)
    | bo => exact absurd k0.1 (by decide)
    | lo => exact absurd k0.1 (by decide)
    | ow => obtain ⟨h1, h2, rfl⟩ := hl; exact ⟨a, vs, _, e1, ⟨n _ (List.mem_cons_self ..) _ h1, h2, rfl⟩, ih _ _ r k0.2 fun b m => n b (List.mem_cons_of_mem _ m)⟩
    | me => exact hl.elim
  · intro fl c ns xs ih v f h k0 n
    simp only [RD] at h ⊢
    simp only [okf, Bool.and_eq_true] at k0
    obtain ⟨a, C, dx, fs, fp, e1, hm, hn, hl, r⟩ := h
    refine ⟨a, C, dx, fs, fp, e1, by rw [← hm']; exact hm, hn, ?_⟩
    cases fl with
    | fz => obtain ⟨h1, h2, rfl, rfl⟩ := hl; exact ⟨⟨hG _ _ h1, h2, rfl, rfl⟩, ih _ _ r k0.2 (fun _ m => nomatch m)⟩
    | kz => exact absurd k0.1 (by decide)
    | bo => exact absurd k0.1 (by decide)
    | lo => exact absurd k0.1 (by decide)
    | me => exact absurd k0.1 (by decide)
    | ow =>
      obtain ⟨h1, h2, h3, rfl⟩ := hl
      exact ⟨⟨n _ (List.mem_cons_self ..) _ h1, n _ (List.mem_cons_of_mem _ (List.mem_cons_self ..)) _ h2, h3, rfl⟩, ih _ _ r k0.2 fun b m => n b (List.mem_cons_of_mem _ (List.mem_cons_of_mem _ m))⟩
  · intro vs f h _ _; simp only [RDs] at h ⊢; exact h
  · intro d r i1 i2 vs f h k0 n
    simp only [RDs] at h ⊢
    simp only [okfs, Bool.and_eq_true] at k0
    obtain ⟨v, us, f1, f2, e1, rfl, h1, h2⟩ := h
    exact ⟨v, us, f1, f2, e1, rfl, i1 _ _ h1 k0.1 fun a m => n a (List.mem_append_left _ m), i2 _ _ h2 k0.2 fun a m => n a (List.mem_append_right _ m)⟩
/-- freezing: what is owned in f goes over into G -/
def Gf (G H : Hp) (f : List Addr) : Hp := fun a => if a ∈ f then H a else G a
theorem Gf.sub {f : List Addr} (h : ∀ a ∈ f, G a = none) : Sub G (Gf G H f) := fun a o e => by
  have n : a ∉ f := fun m => by rw [h a m] at e; cases e
  unfold Gf; rw [if_neg n]; exact e
theorem Gf.mem {f : List Addr} {a : Addr} (m : a ∈ f) : Gf G H f a = H a := if_pos m
theorem Gf.nil : Gf G H [] = G := by funext a; unfold Gf; rw [if_neg (by simp)]
theorem fz_ok_all : (∀ d, okf isSto d = true → okf isFz (fz d) = true) ∧ ∀ ds, okfs isSto ds = true → okfs isFz (fzs ds) = true := by
  refine D.ind (fun _ => rfl) (fun _ _ => rfl) (fun _ _ => rfl) (fun _ _ => rfl) (fun _ _ => rfl) (fun _ _ => rfl) (fun _ => rfl) (fun xs ih e => ?_) (fun f xs ih e => ?_) (fun f c ns xs ih e => ?_) (fun _ => rfl) (fun d r i1 i2 e => ?_)
  · simp only [okf, fz] at e ⊢; exact ih e
  · simp only [okf, fz, Bool.and_eq_true] at e ⊢; refine ⟨?_, ih e.2⟩; revert e; cases f <;> simp [isFz, isSto]
  · simp only [okf, fz, Bool.and_eq_true] at e ⊢; refine ⟨?_, ih e.2⟩; revert e; cases f <;> simp [isFz, isSto]
  · simp only [okfs, fzs, Bool.and_eq_true] at e ⊢; exact ⟨i1 e.1, i2 e.2⟩

def notOw : Fl → Bool | .ow => false | .me => false | _ => true
theorem fz_now : ∀ f, isFz f = true → notOw f = true := by intro f; cases f <;> simp [isFz, notOw]
theorem arg_now : ∀ f, isArg f = true → notOw f = true := by intro f; cases f <;> simp [isArg, notOw]
theorem arg_nlo : ∀ f, isArg f = true → notLo f = true := by intro f; cases f <;> simp [isArg, notLo]
theorem fz_id_all : (∀ d, okf notOw d = true → fz d = d) ∧ ∀ ds, okfs notOw ds = true → fzs ds = ds := by
  refine D.ind (fun _ => rfl) (fun _ _ => rfl) (fun _ _ => rfl) (fun _ _ => rfl) (fun _ _ => rfl) (fun _ _ => rfl) (fun _ => rfl) (fun xs ih e => ?_) (fun f xs ih e => ?_) (fun f c ns xs ih e => ?_) (fun _ => rfl) (fun d r i1 i2 e => ?_)
  · simp only [okf] at e; simp only [fz]; rw [ih e]
  · simp only [okf, Bool.and_eq_true] at e; simp only [fz]; rw [ih e.2]; revert e; cases f <;> simp [notOw]
  · simp only [okf, Bool.and_eq_true] at e; simp only [fz]; rw [ih e.2]; revert e; cases f <;> simp [notOw]
  · simp only [okfs, Bool.and_eq_true] at e; simp only [fzs]; rw [i1 e.1, i2 e.2]
theorem fz_id {d : D} (h : okf isFz d = true) : fz d = d := fz_id_all.1 d ((okf_imp fz_now).1 d h)
theorem fzs_id {d : List D} (h : okfs isFz d = true) : fzs d = d := fz_id_all.2 d ((okf_imp fz_now).2 d h)
theorem lk_id_all : (∀ d, okf notOw d = true → lk d = d) ∧ ∀ ds, okfs notOw ds = true → lks ds = ds := by
  refine D.ind (fun _ => rfl) (fun _ _ => rfl) (fun _ _ => rfl) (fun _ _ => rfl) (fun _ _ => rfl) (fun _ _ => rfl) (fun _ => rfl) (fun xs ih e => ?_) (fun f xs ih e => ?_) (fun f c ns xs ih e => ?_) (fun _ => rfl) (fun d r i1 i2 e => ?_)
  · simp only [okf] at e; simp only [lk]; rw [ih e]
  · simp only [okf, Bool.and_eq_true] at e; simp only [lk]; rw [ih e.2]; revert e; cases f <;> simp [notOw]
  · simp only [okf, Bool.and_eq_true] at e; simp only [lk]; rw [ih e.2]; revert e; cases f <;> simp [notOw]
  · simp only [okfs, Bool.and_eq_true] at e; simp only [lks]; rw [i1 e.1, i2 e.2]
theorem bw_id_all : (∀ d, okf notLo d = true → bw d = d) ∧ ∀ ds, okfs notLo ds = true → bws ds = ds := by
  refine D.ind (fun _ => rfl) (fun _ _ => rfl) (fun _ _ => rfl) (fun _ _ => rfl) (fun _ _ => rfl) (fun _ _ => rfl) (fun _ => rfl) (fun xs ih e => ?_) (fun f xs ih e => ?_) (fun f c ns xs ih e => ?_) (fun _ => rfl) (fun d r i1 i2 e => ?_)
  · simp only [okf] at e; simp only [bw]; rw [ih e]
  · simp only [okf, Bool.and_eq_true] at e; simp only [bw]; rw [ih e.2]; revert e; cases f <;> simp [notLo]
  · simp only [okf, Bool.and_eq_true] at e; simp only [bw]; rw [ih e.2]; revert e; cases f <;> simp [notLo]
  · simp only [okfs, Bool.and_eq_true] at e; simp only [bws]; rw [i1 e.1, i2 e.2]
/-- freezing -/
theorem freeze_all {g : List Addr} (hg : Sub G (Gf G H g)) : (∀ d v f, RD w G H d v f → (∀ a ∈ f, a ∈ g) → RD w (Gf G H g) H (fz d) v []) ∧ ∀ ds vs f, RDs w G H ds vs f → (∀ a ∈ f, a ∈ g) → RDs w (Gf G H g) H (fzs ds) vs [] := by
  refine D.ind ?_ ?_ ?_ ?_ ?_ ?_ ?_ ?_ ?_ ?_ ?_ ?_
  · intro v f h _; simp only [RD, fz] at h ⊢; exact ⟨h.1, trivial⟩
  · intro b v f h _; simp only [RD, fz] at h ⊢; exact ⟨h.1, trivial⟩
  · intro b v f h _; simp only [RD, fz] at h ⊢; exact ⟨h.1, trivial⟩
  · intro b v f h _; simp only [RD, fz] at h ⊢; exact ⟨h.1, trivial⟩
  · intro b v f h _; simp only [RD, fz] at h ⊢; exact ⟨h.1, trivial⟩
  · intro b v f h _; simp only [RD, fz] at h ⊢; obtain ⟨a, h1, h2, h3⟩ := h; exact ⟨a, h1, trivial, h3⟩
  · intro v f h _; simp only [RD, fz] at h ⊢; obtain ⟨a, h1, h2, h3⟩ := h; exact ⟨a, h1, trivial, h3⟩
  · intro xs ih v f h n
    simp only [RD, fz] at h ⊢
    obtain ⟨a, vs, e1, e2, hq, k, r⟩ := h
    exact ⟨a, vs, e1, trivial, hg.seqT hq, by rw [fzs_id k]; exact k, ih _ _ r (fun _ m => nomatch m)⟩
  · intro fl xs ih v f h n
    simp only [RD, fz] at h ⊢
    obtain ⟨a, vs, fp, e1, hl, r⟩ := h
    cases fl with
    | fz => obtain ⟨h1, h2, rfl, rfl⟩ := hl; exact ⟨a, vs, [], e1, ⟨hg _ _ h1, by rw [fzs_id h2]; exact h2, rfl, rfl⟩, ih _ _ r (fun _ m => nomatch m)⟩
    | kz => obtain ⟨h1, h2, rfl, rfl⟩ := hl; exact ⟨a, vs, [], e1, ⟨hg.seqL h1, by rw [fzs_id h2]; exact h2, rfl, rfl⟩, ih _ _ r (fun _ m => nomatch m)⟩
    | bo => obtain ⟨h1, h2, rfl, rfl⟩ := hl; exact ⟨a, vs, [], e1, ⟨h1, by rw [fz_id_all.2 _ ((okf_imp arg_now).2 _ h2)]; exact h2, rfl, rfl⟩, ih _ _ r (fun _ m => nomatch m)⟩
    | lo => obtain ⟨h1, h2, rfl, rfl⟩ := hl; exact ⟨a, vs, [], e1, ⟨h1, h2, rfl, rfl⟩, ih _ _ r (fun _ m => nomatch m)⟩
    | ow =>
      obtain ⟨h1, h2, rfl⟩ := hl
      refine ⟨a, vs, [], e1, ⟨?_, fz_ok_all.2 _ h2, rfl, rfl⟩, ih _ _ r fun b m => n b (List.mem_cons_of_mem _ m)⟩
      rw [Gf.mem (n a (List.mem_cons_self ..))]; exact h1
    | me => exact hl.elim
  · intro fl c ns xs ih v f h n
    simp only [RD, fz] at h ⊢
    obtain ⟨a, C, dx, fs, fp, e1, hm, hn, hl, r⟩ := h
    refine ⟨a, C, dx, fs, [], e1, hm, hn, ?_⟩
    cases fl with
    | fz => obtain ⟨h1, h2, rfl, rfl⟩ := hl; exact ⟨⟨hg _ _ h1, by rw [fzs_id h2]; exact h2, rfl, rfl⟩, ih _ _ r (fun _ m => nomatch m)⟩
    | kz => obtain ⟨⟨oe, h1, h2⟩, h3, rfl, rfl⟩ := hl; exact ⟨⟨⟨oe, h1, h2.imp id fun z => ⟨z.1, hg _ _ z.2⟩⟩, by rw [fzs_id h3]; exact h3, rfl, rfl⟩, ih _ _ r (fun _ m => nomatch m)⟩
    | bo => obtain ⟨h1, h2, rfl, rfl⟩ := hl; exact ⟨⟨h1, by rw [fz_id_all.2 _ ((okf_imp arg_now).2 _ h2)]; exact h2, rfl, rfl⟩, ih _ _ r (fun _ m => nomatch m)⟩
    | lo => obtain ⟨h1, h2, rfl, rfl⟩ := hl; exact ⟨⟨h1, h2, rfl, rfl⟩, ih _ _ r (fun _ m => nomatch m)⟩
    | ow =>
      obtain ⟨h1, h2, h3, rfl⟩ := hl
      refine ⟨⟨?_, fz_ok_all.2 _ h3, rfl, rfl⟩, ih _ _ r fun b m => n b (List.mem_cons_of_mem _ (List.mem_cons_of_mem _ m))⟩
      rw [Gf.mem (n a (List.mem_cons_self ..))]; exact h1
    | me =>
      obtain ⟨h1, h2, h3, h4, h5, rfl⟩ := hl
      exact ⟨⟨h1, h5, rfl, rfl⟩, ih _ _ r fun b m => n b (List.mem_cons_of_mem _ (List.mem_cons_of_mem _ m))⟩
  · intro vs f h _; simp only [RDs, fzs] at h ⊢; exact ⟨h.1, trivial⟩
  · intro d r i1 i2 vs f h n
    simp only [RDs, fzs] at h ⊢
    obtain ⟨v, us, f1, f2, e1, rfl, h1, h2⟩ := h
    exact ⟨v, us, [], [], e1, rfl, i1 _ _ h1 fun a m => n a (List.mem_append_left _ m), i2 _ _ h2 fun a m => n a (List.mem_append_right _ m)⟩
/-- looking at what is owned -/
theorem look_all : (∀ d v f, RD w G H d v f → (∀ a ∈ f, w.st ≠ some a) → RD w G H (lk d) v []) ∧ ∀ ds vs f, RDs w G H ds vs f → (∀ a ∈ f, w.st ≠ some a) → RDs w G H (lks ds) vs [] := by
  refine D.ind ?_ ?_ ?_ ?_ ?_ ?_ ?_ ?_ ?_ ?_ ?_ ?_
  · intro v f h _; simp only [RD, lk] at h ⊢; exact ⟨h.1, trivial⟩
  · intro b v f h _; simp only [RD, lk] at h ⊢; exact ⟨h.1, trivial⟩
  · intro b v f h _; simp only [RD, lk] at h ⊢; exact ⟨h.1, trivial⟩
  · intro b v f h _; simp only [RD, lk] at h ⊢; exact ⟨h.1, trivial⟩
  · intro b v f h _; simp only [RD, lk] at h ⊢; exact ⟨h.1, trivial⟩
  · intro b v f h _; simp only [RD, lk] at h ⊢; obtain ⟨a, h1, h2, h3⟩ := h; exact ⟨a, h1, trivial, h3⟩
  · intro v f h _; simp only [RD, lk] at h ⊢; obtain ⟨a, h1, h2, h3⟩ := h; exact ⟨a, h1, trivial, h3⟩
  · intro xs ih v f h n
    simp only [RD, lk] at h ⊢
    obtain ⟨a, vs, e1, e2, hq, k, r⟩ := h
    exact ⟨a, vs, e1, trivial, hq, by rw [lk_id_all.2 _ ((okf_imp fz_now).2 _ k)]; exact k, ih _ _ r (fun _ m => nomatch m)⟩
  · intro fl xs ih v f h n
    simp only [RD, lk] at h ⊢
    obtain ⟨a, vs, fp, e1, hl, r⟩ := h
    cases fl with
    | fz => obtain ⟨h1, h2, rfl, rfl⟩ := hl; exact ⟨a, vs, [], e1, ⟨h1, by rw [lk_id_all.2 _ ((okf_imp fz_now).2 _ h2)]; exact h2, rfl, rfl⟩, ih _ _ r (fun _ m => nomatch m)⟩
    | kz => obtain ⟨h1, h2, rfl, rfl⟩ := hl; exact ⟨a, vs, [], e1, ⟨h1, by rw [lk_id_all.2 _ ((okf_imp fz_now).2 _ h2)]; exact h2, rfl, rfl⟩, ih _ _ r (fun _ m => nomatch m)⟩
    | bo => obtain ⟨h1, h2, rfl, rfl⟩ := hl; exact ⟨a, vs, [], e1, ⟨h1, by rw [lk_id_all.2 _ ((okf_imp arg_now).2 _ h2)]; exact h2, rfl, rfl⟩, ih _ _ r (fun _ m => nomatch m)⟩
    | lo => obtain ⟨h1, h2, rfl, rfl⟩ := hl; exact ⟨a, vs, [], e1, ⟨h1, h2, rfl, rfl⟩, ih _ _ r (fun _ m => nomatch m)⟩
    | ow =>
      obtain ⟨h1, h2, rfl⟩ := hl
      exact ⟨a, vs, [], e1, ⟨h1, n _ (List.mem_cons_self ..), rfl, rfl⟩, ih _ _ r fun b m => n b (List.mem_cons_of_mem _ m)⟩
    | me => exact hl.elim
  · intro fl c ns xs ih v f h n
    simp only [RD, lk] at h ⊢
    obtain ⟨a, C, dx, fs, fp, e1, hm, hn, hl, r⟩ := h
    refine ⟨a, C, dx, fs, [], e1, hm, hn, ?_⟩
    cases fl with
    | fz => obtain ⟨h1, h2, rfl, rfl⟩ := hl; exact ⟨⟨h1, by rw [lk_id_all.2 _ ((okf_imp fz_now).2 _ h2)]; exact h2, rfl, rfl⟩, ih _ _ r (fun _ m => nomatch m)⟩
    | kz => obtain ⟨h1, h3, rfl, rfl⟩ := hl; exact ⟨⟨h1, by rw [lk_id_all.2 _ ((okf_imp fz_now).2 _ h3)]; exact h3, rfl, rfl⟩, ih _ _ r (fun _ m => nomatch m)⟩
    | bo => obtain ⟨h1, h2, rfl, rfl⟩ := hl; exact ⟨⟨h1, by rw [lk_id_all.2 _ ((okf_imp arg_now).2 _ h2)]; exact h2, rfl, rfl⟩, ih _ _ r (fun _ m => nomatch m)⟩
    | lo => obtain ⟨h1, h2, rfl, rfl⟩ := hl; exact ⟨⟨h1, h2, rfl, rfl⟩, ih _ _ r (fun _ m => nomatch m)⟩
    | ow =>
      obtain ⟨h1, h2, h3, rfl⟩ := hl
      exact ⟨⟨h1, n _ (List.mem_cons_self ..), rfl, rfl⟩, ih _ _ r fun b m => n b (List.mem_cons_of_mem _ (List.mem_cons_of_mem _ m))⟩
    | me =>
      obtain ⟨h1, h2, h3, h4, h5, rfl⟩ := hl
      exact ⟨⟨h1, h5, rfl, rfl⟩, ih _ _ r fun b m => n b (List.mem_cons_of_mem _ (List.mem_cons_of_mem _ m))⟩
  · intro vs f h _; simp only [RDs, lks] at h ⊢; exact ⟨h.1, trivial⟩
  · intro d r i1 i2 vs f h n
    simp only [RDs, lks] at h ⊢
    obtain ⟨v, us, f1, f2, e1, rfl, h1, h2⟩ := h
    exact ⟨v, us, [], [], e1, rfl, i1 _ _ h1 fun a m => n a (List.mem_append_left _ m), i2 _ _ h2 fun a m => n a (List.mem_append_right _ m)⟩
/-- what a caller lends: all that stands but the stream -/
def Lend (w : Gw) (H : Hp) (m : Option (Addr × Addr)) : Gw := { w with B := fun a => if w.st = some a then none else H a, me := m }
theorem Lend.at {a : Addr} {o : HO} {m : Option (Addr × Addr)} (h : H a = some o) (n : w.st ≠ some a) : (Lend w H m).B a = some o := by
  show (if w.st = some a then none else H a) = some o
  rw [if_neg n]; exact h
theorem bw_arg_all : (∀ d, okf notOw d = true → okf isArg (bw d) = true) ∧ ∀ ds, okfs notOw ds = true → okfs isArg (bws ds) = true := by
  refine D.ind (fun _ => rfl) (fun _ _ => rfl) (fun _ _ => rfl) (fun _ _ => rfl) (fun _ _ => rfl) (fun _ _ => rfl) (fun _ => rfl) (fun xs ih e => ?_) (fun f xs ih e => ?_) (fun f c ns xs ih e => ?_) (fun _ => rfl) (fun d r i1 i2 e => ?_)
  · simp only [okf, bw] at e ⊢; exact ih e
  · simp only [okf, bw, Bool.and_eq_true] at e ⊢; refine ⟨?_, ih e.2⟩; revert e; cases f <;> simp [notOw, isArg]
  · simp only [okf, bw, Bool.and_eq_true] at e ⊢; refine ⟨?_, ih e.2⟩; revert e; cases f <;> simp [notOw, isArg]
  · simp only [okfs, bws, Bool.and_eq_true] at e ⊢; exact ⟨i1 e.1, i2 e.2⟩
/-- what owns nothing bears no owned list -/
theorem now_all : (∀ d v, RD w G H d v [] → okf notOw d = true) ∧ ∀ ds vs, RDs w G H ds vs [] → okfs notOw ds = true := by
  refine D.ind ?_ ?_ ?_ ?_ ?_ ?_ ?_ ?_ ?_ ?_ ?_ ?_
  · intros; rfl
  · intros; rfl
  · intros; rfl
  · intros; rfl
  · intros; rfl
  · intros; rfl
  · intros; rfl
  · intro xs ih v h
    simp only [RD] at h
    obtain ⟨a, vs, e1, e2, hq, k, r⟩ := h
    simp only [okf]; exact ih _ r
  · intro fl xs ih v h
    simp only [RD] at h
    obtain ⟨a, vs, fp, e1, hl, r⟩ := h
    simp only [okf, Bool.and_eq_true]
    cases fl with
    | fz => obtain ⟨h1, h2, rfl, _⟩ := hl; exact ⟨rfl, ih _ r⟩
    | kz => obtain ⟨h1, h2, rfl, _⟩ := hl; exact ⟨rfl, ih _ r⟩
    | bo => obtain ⟨h1, h2, rfl, _⟩ := hl; exact ⟨rfl, ih _ r⟩
    | lo => obtain ⟨h1, h2, rfl, _⟩ := hl; exact ⟨rfl, ih _ r⟩
    | ow => obtain ⟨h1, h2, e⟩ := hl; cases e
    | me => exact hl.elim
  · intro fl c ns xs ih v h
    simp only [RD] at h
    obtain ⟨a, C, dx, fs, fp, e1, hm, hn, hl, r⟩ := h
    simp only [okf, Bool.and_eq_true]
    cases fl with
    | fz => obtain ⟨h1, h2, rfl, _⟩ := hl; exact ⟨rfl, ih _ r⟩
    | kz => obtain ⟨h1, h3, rfl, _⟩ := hl; exact ⟨rfl, ih _ r⟩
    | bo => obtain ⟨h1, h2, rfl, _⟩ := hl; exact ⟨rfl, ih _ r⟩
    | lo => obtain ⟨h1, h2, rfl, _⟩ := hl; exact ⟨rfl, ih _ r⟩
    | ow => obtain ⟨h1, h2, h3, e⟩ := hl; cases e
    | me => obtain ⟨h1, h2, h3, h4, h5, e⟩ := hl; cases e
  · intros; rfl
  · intro d r i1 i2 vs h
    simp only [RDs] at h
    obtain ⟨v, us, f1, f2, e1, e2, h1, h2⟩ := h
    obtain ⟨rfl, rfl⟩ := List.append_eq_nil_iff.mp e2.symm
    simp only [okfs, Bool.and_eq_true]
    exact ⟨i1 _ h1, i2 _ h2⟩
/-- handed to a def -/
theorem lend_all {m : Option (Addr × Addr)} (hB : ∀ a o, w.B a = some o → H a = some o ∧ w.st ≠ some a) : (∀ d v, RD w G H d v [] → RD (Lend w H m) G H (bw d) v []) ∧ ∀ ds vs, RDs w G H ds vs [] → RDs (Lend w H m) G H (bws ds) vs [] := by
  refine D.ind ?_ ?_ ?_ ?_ ?_ ?_ ?_ ?_ ?_ ?_ ?_ ?_
  · intro v h; simp only [RD, bw] at h ⊢; exact h
  · intro b v h; simp only [RD, bw] at h ⊢; exact h
  · intro b v h; simp only [RD, bw] at h ⊢; exact h
  · intro b v h; simp only [RD, bw] at h ⊢; exact h
  · intro b v h; simp only [RD, bw] at h ⊢; exact h
  · intro b v h; simp only [RD, bw] at h ⊢; exact h
  · intro v h; simp only [RD, bw] at h ⊢; exact h
  · intro xs ih v h
    simp only [RD, bw] at h ⊢
    obtain ⟨a, vs, e1, e2, hq, k, r⟩ := h
    exact ⟨a, vs, e1, trivial, hq, by rw [bw_id_all.2 _ ((okf_imp fz_nlo).2 _ k)]; exact k, ih _ r⟩
  · intro fl xs ih v h
    have hn := now_all.1 _ _ h
    simp only [RD, bw] at h ⊢
    simp only [okf, Bool.and_eq_true] at hn
    obtain ⟨a, vs, fp, e1, hl, r⟩ := h
    cases fl with
    | fz => obtain ⟨h1, h2, rfl, _⟩ := hl; exact ⟨a, vs, [], e1, ⟨h1, by rw [bw_id_all.2 _ ((okf_imp fz_nlo).2 _ h2)]; exact h2, rfl, rfl⟩, ih _ r⟩
    | kz => obtain ⟨h1, h2, rfl, _⟩ := hl; exact ⟨a, vs, [], e1, ⟨h1, by rw [bw_id_all.2 _ ((okf_imp fz_nlo).2 _ h2)]; exact h2, rfl, rfl⟩, ih _ r⟩
    | bo => obtain ⟨h1, h2, rfl, _⟩ := hl; exact ⟨a, vs, [], e1, ⟨Lend.at (hB _ _ h1).1 (hB _ _ h1).2, bw_arg_all.2 _ hn.2, rfl, rfl⟩, ih _ r⟩
    | lo => obtain ⟨h1, h2, rfl, _⟩ := hl; exact ⟨a, vs, [], e1, ⟨Lend.at h1 h2, bw_arg_all.2 _ hn.2, rfl, rfl⟩, ih _ r⟩
    | ow => obtain ⟨h1, h2, e⟩ := hl; cases e
    | me => exact hl.elim
  · intro fl c ns xs ih v h
    have hn := now_all.1 _ _ h
    simp only [RD, bw] at h ⊢
    simp only [okf, Bool.and_eq_true] at hn
    obtain ⟨a, C, dx, fs, fp, e1, hm, hns, hl, r⟩ := h
    refine ⟨a, C, dx, fs, [], e1, hm, hns, ?_⟩
    cases fl with
    | fz => obtain ⟨h1, h2, rfl, _⟩ := hl; exact ⟨⟨h1, by rw [bw_id_all.2 _ ((okf_imp fz_nlo).2 _ h2)]; exact h2, rfl, rfl⟩, ih _ r⟩
    | kz => obtain ⟨h1, h3, rfl, _⟩ := hl; exact ⟨⟨h1, by rw [bw_id_all.2 _ ((okf_imp fz_nlo).2 _ h3)]; exact h3, rfl, rfl⟩, ih _ r⟩
    | bo => obtain ⟨h1, h2, rfl, _⟩ := hl; exact ⟨⟨Lend.at (hB _ _ h1).1 (hB _ _ h1).2, bw_arg_all.2 _ hn.2, rfl, rfl⟩, ih _ r⟩
    | lo => obtain ⟨h1, h2, rfl, _⟩ := hl; exact ⟨⟨Lend.at h1 h2, bw_arg_all.2 _ hn.2, rfl, rfl⟩, ih _ r⟩
    | ow => obtain ⟨h1, h2, h3, e⟩ := hl; cases e
    | me => obtain ⟨h1, h2, h3, h4, h5, e⟩ := hl; cases e
  · intro vs h; simp only [RDs, bws] at h ⊢; exact h
  · intro d r i1 i2 vs h
    simp only [RDs, bws] at h ⊢
    obtain ⟨v, us, f1, f2, e1, e2, h1, h2⟩ := h
    obtain ⟨rfl, rfl⟩ := List.append_eq_nil_iff.mp e2.symm
    exact ⟨v, us, [], [], e1, rfl, i1 _ h1, i2 _ h2⟩
end

/-! ### a body's state -/
abbrev Env := List (Option D)
/-- the slots -/
def RE (w : Gw) (G H : Hp) : Env → L2.St → List Addr → Prop
  | [], σ, f => σ = [] ∧ f = []
  | none :: env, σ, f => ∃ x τ, σ = x :: τ ∧ RE w G H env τ f
  | some d :: env, σ, f => ∃ v τ f1 f2, σ = some v :: τ ∧ f = f1 ++ f2 ∧ RD w G H d v f1 ∧ okf notLo d = true ∧ RE w G H env τ f2
structure Rel (w : Gw) (G : Hp) (env : Env) (L : List Int) (σ : L2.St) (H : Hp) (fp : List Addr) : Prop where
  re : RE w G H env σ fp
  nd : fp.Nodup
  gs : Sub G H
  bs : Sub w.B H
  ow : ∀ a ∈ fp, G a = none ∧ w.B a = none ∧ w.st ≠ some a
  st : ∀ a, w.st = some a → H a = some (.lst (L.map V.int)) ∧ G a = none ∧ w.B a = none
section
variable {w : Gw} {G G' H H' : Hp} {env : Env} {L L' : List Int} {σ : L2.St} {fp : List Addr}
theorem RE.there : ∀ {env : Env} {σ : L2.St} {f : List Addr}, RE w G H env σ f → ∀ a ∈ f, ∃ o, H a = some o
  | [], _, _, h, a, m => by rw [h.2] at m; cases m
  | none :: env, _, _, h, a, m => by
    obtain ⟨x, τ, _, h⟩ := h
    exact RE.there h a m
  | some d :: env, _, _, h, a, m => by
    obtain ⟨v, τ, f1, f2, _, rfl, h1, _, h2⟩ := h
    rcases List.mem_append.mp m with m | m
    · exact h1.there a m
    · exact RE.there h2 a m
theorem RE.mono (hG : Sub G G') : ∀ {env : Env} {σ : L2.St} {f : List Addr}, RE w G H env σ f → (∀ a ∈ f, ∀ o, H a = some o → H' a = some o) → RE w G' H' env σ f
  | [], _, _, h, _ => h
  | none :: env, _, _, h, n => by
    obtain ⟨x, τ, e, h⟩ := h
    exact ⟨x, τ, e, RE.mono hG h n⟩
  | some d :: env, _, _, h, n => by
    obtain ⟨v, τ, f1, f2, e, rfl, h1, k, h2⟩ := h
    exact ⟨v, τ, f1, f2, e, rfl, h1.mono hG k (fun a m => n a (List.mem_append_left _ m)), k, RE.mono hG h2 fun a m => n a (List.mem_append_right _ m)⟩
theorem RE.get : ∀ {env : Env} {σ : L2.St} {f : List Addr} {i : Nat} {d : D}, RE w G H env σ f → env[i]? = some (some d) → ∃ v f1, σ[i]? = some (some v) ∧ RD w G H d v f1 ∧ okf notLo d = true ∧ (∀ a ∈ f1, a ∈ f) ∧ (f.Nodup → f1.Nodup)
  | [], _, _, _, _, _, e => by simp at e
  | none :: env, _, _, 0, _, _, e => by simp at e
  | none :: env, _, _, i + 1, _, h, e => by
    obtain ⟨x, τ, rfl, h⟩ := h
    exact RE.get (i := i) h (by simpa using e)
  | some d :: env, _, _, 0, _, h, e => by
    obtain ⟨v, τ, f1, f2, rfl, rfl, h1, k, h2⟩ := h
    obtain rfl : d = _ := by simpa using e
    exact ⟨v, f1, rfl, h1, k, fun a m => List.mem_append_left _ m, fun n => (List.nodup_append.mp n).1⟩
  | some d :: env, _, _, i + 1, _, h, e => by
    obtain ⟨v, τ, f1, f2, rfl, rfl, h1, k, h2⟩ := h
    obtain ⟨v', f', e1, e2, e3, e4, e5⟩ := RE.get (i := i) h2 (by simpa using e)
    exact ⟨v', f', by simpa using e1, e2, e3, fun a m => List.mem_append_right _ (e4 a m), fun n => e5 (List.nodup_append.mp n).2.1⟩
theorem RE.len : ∀ {env : Env} {σ : L2.St} {f : List Addr}, RE w G H env σ f → env.length = σ.length
  | [], _, _, h => by rw [h.1]; rfl
  | none :: env, _, _, h => by
    obtain ⟨x, τ, rfl, h⟩ := h
    simp [RE.len h]
  | some d :: env, _, _, h => by
    obtain ⟨v, τ, f1, f2, rfl, rfl, h1, k, h2⟩ := h
    simp [RE.len h2]
/-- a slot is stored: what stood there is let go -/
theorem RE.set : ∀ {env : Env} {σ : L2.St} {f : List Addr} {i : Nat} {d : D} {v : V} {f1 : List Addr}, RE w G H env σ f → RD w G H d v f1 → okf notLo d = true → f.Nodup → f1.Nodup → (∀ a ∈ f1, a ∉ f) →
    ∃ f', RE w G H (env.set i (some d)) (σ.set i (some v)) f' ∧ f'.Nodup ∧ ∀ a ∈ f', a ∈ f ∨ a ∈ f1
  | [], σ, f, i, d, v, f1, h, hd, k, n, n1, hx => by
    obtain ⟨rfl, rfl⟩ := h
    exact ⟨[], ⟨rfl, rfl⟩, List.nodup_nil, fun _ m => nomatch m⟩
  | none :: env, _, f, 0, d, v, f1, h, hd, k, n, n1, hx => by
    obtain ⟨x, τ, rfl, h⟩ := h
    exact ⟨f1 ++ f, ⟨v, τ, f1, f, rfl, rfl, hd, k, h⟩, List.nodup_append.mpr ⟨n1, n, fun a ha b hb e => hx a ha (e ▸ hb)⟩, fun a m => (List.mem_append.mp m).symm⟩
  | none :: env, _, f, i + 1, d, v, f1, h, hd, k, n, n1, hx => by
    obtain ⟨x, τ, rfl, h⟩ := h
    obtain ⟨f', h1, h2, h3⟩ := RE.set (i := i) h hd k n n1 hx
    exact ⟨f', ⟨x, _, rfl, h1⟩, h2, h3⟩
  | some d0 :: env, _, _, 0, d, v, f1, h, hd, k, n, n1, hx => by
    obtain ⟨v0, τ, g1, g2, rfl, rfl, h1, k0, h2⟩ := h
    refine ⟨f1 ++ g2, ⟨v, τ, f1, g2, rfl, rfl, hd, k, h2⟩, List.nodup_append.mpr ⟨n1, (List.nodup_append.mp n).2.1, fun a ha b hb e => hx a ha (List.mem_append_right _ (e ▸ hb))⟩, fun a m => ?_⟩
    rcases List.mem_append.mp m with m | m
    · exact .inr m
    · exact .inl (List.mem_append_right _ m)
  | some d0 :: env, _, _, i + 1, d, v, f1, h, hd, k, n, n1, hx => by
    obtain ⟨v0, τ, g1, g2, rfl, rfl, h1, k0, h2⟩ := h
    have nn := List.nodup_append.mp n
    obtain ⟨f', e1, e2, e3⟩ := RE.set (i := i) h2 hd k nn.2.1 n1 (fun a m z => hx a m (List.mem_append_right _ z))
    refine ⟨g1 ++ f', ⟨v0, _, g1, f', rfl, rfl, h1, k0, e1⟩, List.nodup_append.mpr ⟨nn.1, e2, fun a ha b hb e => ?_⟩, fun a m => ?_⟩
    · subst e
      rcases e3 a hb with m | m
      · exact nn.2.2 a ha a m rfl
      · exact hx a m (List.mem_append_left _ ha)
    · rcases List.mem_append.mp m with m | m
      · exact .inl (List.mem_append_left _ m)
      · rcases e3 a m with m | m
        · exact .inl (List.mem_append_right _ m)
        · exact .inr m
/-- a slot is taken out: the rest stands beside it -/
theorem RE.out : ∀ {env : Env} {σ : L2.St} {f : List Addr} {i : Nat} {d : D}, RE w G H env σ f → env[i]? = some (some d) → f.Nodup →
    ∃ v f1 f2, σ[i]? = some (some v) ∧ RD w G H d v f1 ∧ okf notLo d = true ∧ RE w G H (env.set i none) σ f2 ∧ f1.Nodup ∧ f2.Nodup ∧ (∀ a ∈ f1, a ∉ f2) ∧ (∀ a ∈ f1, a ∈ f) ∧ (∀ a ∈ f2, a ∈ f)
  | [], _, _, _, _, _, e, _ => by simp at e
  | none :: env, _, _, 0, _, _, e, _ => by simp at e
  | none :: env, _, _, i + 1, _, h, e, n => by
    obtain ⟨x, τ, rfl, h⟩ := h
    obtain ⟨v, f1, f2, h1, h2, h3, h4, h5⟩ := RE.out (i := i) h (by simpa using e) n
    exact ⟨v, f1, f2, by simpa using h1, h2, h3, ⟨x, τ, rfl, h4⟩, h5⟩
  | some d0 :: env, _, _, 0, _, h, e, n => by
    obtain ⟨v0, τ, g1, g2, rfl, rfl, h1, k0, h2⟩ := h
    obtain rfl : d0 = _ := by simpa using e
    have nn := List.nodup_append.mp n
    exact ⟨v0, g1, g2, rfl, h1, k0, ⟨some v0, τ, rfl, h2⟩, nn.1, nn.2.1, fun a m z => nn.2.2 a m a z rfl, fun a m => List.mem_append_left _ m, fun a m => List.mem_append_right _ m⟩
  | some d0 :: env, _, _, i + 1, _, h, e, n => by
    obtain ⟨v0, τ, g1, g2, rfl, rfl, h1, k0, h2⟩ := h
    have nn := List.nodup_append.mp n
    obtain ⟨v, f1, f2, a1, a2, a3, a4, a5, a6, a7, a8, a9⟩ := RE.out (i := i) h2 (by simpa using e) nn.2.1
    refine ⟨v, f1, g1 ++ f2, by simpa using a1, a2, a3, ⟨v0, τ, g1, f2, rfl, rfl, h1, k0, a4⟩, a5, List.nodup_append.mpr ⟨nn.1, a6, fun a ha b hb q => nn.2.2 a ha b (a9 b hb) q⟩, fun a m z => ?_, fun a m => List.mem_append_right _ (a8 a m), fun a m => ?_⟩
    · rcases List.mem_append.mp z with z | z
      · exact nn.2.2 a z a (a8 a m) rfl
      · exact a7 a m z
    · rcases List.mem_append.mp m with m | m
      · exact List.mem_append_left _ m
      · exact List.mem_append_right _ (a9 a m)
/-- more frozen, more in the heap -/
theorem Rel.step (R : Rel w G env L σ H fp) (hG : Sub G G') (hs : Step w H H') (hg : Sub G' H') (ho : ∀ a ∈ fp, G' a = none) (hst : ∀ a, w.st = some a → H' a = some (.lst (L'.map V.int)) ∧ G' a = none) : Rel w G' env L' σ H' fp :=
  ⟨R.re.mono hG fun a m o e => hs a o e (R.ow a m).2.2, R.nd, hg, fun a o e => hs a o (R.bs a o e) (fun z => by rw [(R.st a z).2.2] at e; cases e), fun a m => ⟨ho a m, (R.ow a m).2⟩, fun a e => ⟨(hst a e).1, (hst a e).2, (R.st a e).2.2⟩⟩
theorem Rel.lendB (R : Rel w G env L σ H fp) : ∀ a o, w.B a = some o → H a = some o ∧ w.st ≠ some a := fun a o e => ⟨R.bs a o e, fun z => by rw [(R.st a z).2.2] at e; cases e⟩
end
end Qd

set_option Elab.async false
set_option linter.all false
set_option maxRecDepth 100000
set_option maxHeartbeats 4000000
namespace Qd
open PySem PySem.Spec PyProof.Rows L2

/-! ### what an expression gives -/
inductive Res (α : Type) where
  | ok (x : α) (L : List Int)
  | exc (c : Str) (ns : List Str) (xs : List D) (L : List Int)
  | stuck
def Res.bind {α β : Type} (r : Res α) (k : α → List Int → Res β) : Res β := match r with
  | .ok x L => k x L
  | .exc c ns xs L => .exc c ns xs L
  | .stuck => .stuck
/-- .. frozen first -/
def Res.bindF {β : Type} (r : Res D) (k : D → List Int → Res β) : Res β := match r with
  | .ok x L => k (fz x) L
  | .exc c ns xs L => .exc c ns xs L
  | .stuck => .stuck
abbrev DE := Env → List Int → Res D
abbrev DA := Env → List Int → Res (List D)
abbrev DT := Env → List Int → Res Bool

structure Ahead (w : Gw) (G : Hp) (env : Env) (σ : L2.St) (H : Hp) (fp : List Addr) (L' : List Int) (G' H' : Hp) : Prop where
  sub : Sub G G'
  step : Step w H H'
  rel : Rel w G' env L' σ H' fp
  new : ∀ a o, G' a = some o → G a = some o ∨ H a = none
structure ValOk (w : Gw) (G : Hp) (env : Env) (σ : L2.St) (H : Hp) (fp : List Addr) (x : D) (L' : List Int) (G' H' : Hp) (v : V) (f : List Addr) : Prop extends Ahead w G env σ H fp L' G' H' where
  rd : RD w G' H' x v f
  fr : ∀ a ∈ f, H a = none
  nd : f.Nodup
  ow : ∀ a ∈ f, G' a = none ∧ w.B a = none ∧ w.st ≠ some a
  ap : ∀ a ∈ f, a ∉ fp
structure ExcOk (w : Gw) (G : Hp) (env : Env) (σ : L2.St) (H : Hp) (fp : List Addr) (c : Str) (ns : List Str) (xs : List D) (L' : List Int) (G' H' : Hp) (cls : Value) (dd : Option Addr) : Prop extends Ahead w G env σ H fp L' G' H' where
  cls : ∃ C, cls = .ref C ∧ w.mg c = some (.ref C)
  fld : (ns = [] ∧ xs = [] ∧ dd = none) ∨ ∃ d fs, dd = some d ∧ G' d = some (.xd fs) ∧ fs.map (·.1) = ns ∧ RDs w G' H' xs (fs.map (·.2)) [] ∧ okfs isFz xs = true
/-- what is wanted of what an expression gives -/
def PV (w : Gw) (G : Hp) (env : Env) (σ : L2.St) (H : Hp) (fp : List Addr) (W : WX) (r : Res D) (Q : V → Hp → Prop) : Prop := match r with
  | .ok x L' => ∀ G' H' v f, ValOk w G env σ H fp x L' G' H' v f → Q v H'
  | .exc c ns xs L' => ∀ G' H' cls dd, ExcOk w G env σ H fp c ns xs L' G' H' cls dd → W cls dd σ H'
  | .stuck => False
def PVs (w : Gw) (G : Hp) (env : Env) (σ : L2.St) (H : Hp) (fp : List Addr) (W : WX) (r : Res (List D)) (Q : List V → Hp → Prop) : Prop := match r with
  | .ok xs L' => ∀ G' H' vs, Ahead w G env σ H fp L' G' H' → RDs w G' H' xs vs [] → Q vs H'
  | .exc c ns xs L' => ∀ G' H' cls dd, ExcOk w G env σ H fp c ns xs L' G' H' cls dd → W cls dd σ H'
  | .stuck => False
def PVt (w : Gw) (G : Hp) (env : Env) (σ : L2.St) (H : Hp) (fp : List Addr) (W : WX) (r : Res Bool) (Q : Bool → Hp → Prop) : Prop := match r with
  | .ok b L' => ∀ G' H', Ahead w G env σ H fp L' G' H' → Q b H'
  | .exc c ns xs L' => ∀ G' H' cls dd, ExcOk w G env σ H fp c ns xs L' G' H' cls dd → W cls dd σ H'
  | .stuck => False
/-- the exception that is handled, if any -/
def _root_.L2.Cx.exA (X : Cx) : Option (Addr × Obj) := match X.calm, X.A.handled with
  | false, some (.ref a) => X.pn.find? fun p => p.1 == a
  | _, _ => none
theorem exA_calm {X : Cx} (h : X.calm = true) : X.exA = none := by
  unfold L2.Cx.exA
  rw [h]
/-- the readings of a meaning -/
def tE (K : PySem.W.Frag) (mg : Str → Option Value) (ex : Option (Addr × Obj)) (W : WX) (d : DE) : TE := fun σ H Q => ∃ w G env L fp, (w.K = K ∧ w.mg = mg ∧ w.ex = ex) ∧ Rel w G env L σ H fp ∧ PV w G env σ H fp W (d env L) Q
def tAs (K : PySem.W.Frag) (mg : Str → Option Value) (ex : Option (Addr × Obj)) (W : WX) (d : DA) : TA := fun σ H Q => ∃ w G env L fp, (w.K = K ∧ w.mg = mg ∧ w.ex = ex) ∧ Rel w G env L σ H fp ∧ PVs w G env σ H fp W (d env L) Q
def tT (K : PySem.W.Frag) (mg : Str → Option Value) (ex : Option (Addr × Obj)) (W : WX) (d : DT) : TT := fun σ H Q => ∃ w G env L fp, (w.K = K ∧ w.mg = mg ∧ w.ex = ex) ∧ Rel w G env L σ H fp ∧ PVt w G env σ H fp W (d env L) Q
abbrev SE (X : Cx) (W : WX) (e : Expr) (d : DE) : Prop := PE X e (tE X.K X.mg X.exA W d)
abbrev SA (X : Cx) (W : WX) (e : List Expr) (d : DA) : Prop := PA X e (tAs X.K X.mg X.exA W d)
abbrev SEt (X : Cx) (W : WX) (e : Expr) (d : DT) : Prop := PT X e (tT X.K X.mg X.exA W d)
abbrev SW (X : Cx) (W : WX) (e : Expr) (d : DT) : Prop := PW X e (tT X.K X.mg X.exA W d)

section
variable {X : Cx} {e : Expr} {es : List Expr}
theorem PE_imp {t t' : TE} (h : PE X e t) (i : ∀ σ H Q, t' σ H Q → t σ H Q) : PE X e t' := ⟨fun pins s σ H Q I q => h.run pins s σ H Q I (i σ H Q q)⟩
theorem PT_imp {t t' : TT} (h : PT X e t) (i : ∀ σ H Q, t' σ H Q → t σ H Q) : PT X e t' := ⟨fun pins s σ H Q I q => h.run pins s σ H Q I (i σ H Q q)⟩
theorem PW_imp {t t' : TT} (h : PW X e t) (i : ∀ σ H Q, t' σ H Q → t σ H Q) : PW X e t' := ⟨fun wh pins s σ H Q I q => h.run wh pins s σ H Q I (i σ H Q q)⟩
theorem PA_imp {t t' : TA} (h : PA X es t) (i : ∀ σ H Q, t' σ H Q → t σ H Q) : PA X es t' := ⟨fun pos pins s σ H Q I q => h.run pos pins s σ H Q I (i σ H Q q)⟩
end

section
variable {w : Gw} {G G1 : Hp} {env : Env} {σ : L2.St} {H H1 : Hp} {fp : List Addr} {W : WX} {L L' : List Int} {Q : V → Hp → Prop} {x : D} {v : V}
theorem Ahead.refl (R : Rel w G env L σ H fp) : Ahead w G env σ H fp L G H := ⟨Sub.refl _, Step.refl _ _, R, fun _ _ e => .inl e⟩
theorem Ahead.trans {L1 L2 : List Int} {G2 H2 : Hp} (a : Ahead w G env σ H fp L1 G1 H1) (b : Ahead w G1 env σ H1 fp L2 G2 H2) : Ahead w G env σ H fp L2 G2 H2 := ⟨a.sub.trans b.sub, a.step.trans b.step, b.rel, fun c o e => by
  rcases b.new c o e with h | h
  · exact a.new c o h
  · by_cases z : w.st = some c
    · rw [(b.rel.st c z).2.1] at e; cases e
    · exact .inr (a.step.free h z)⟩
/-- from a later start -/
theorem PV.later {r : Res D} (h : PV w G env σ H fp W r Q) {L1 : List Int} (a : Ahead w G env σ H fp L1 G1 H1) : PV w G1 env σ H1 fp W r Q := by
  cases r with
  | ok x L' => exact fun G' H' v f o => h G' H' v f ⟨a.trans o.toAhead, o.rd, fun b m => a.step.free (o.fr b m) (o.ow b m).2.2, o.nd, o.ow, o.ap⟩
  | exc c ns xs L' => exact fun G' H' cls dd o => h G' H' cls dd ⟨a.trans o.toAhead, o.cls, o.fld⟩
  | stuck => exact h
theorem PVs.later {r : Res (List D)} {Q : List V → Hp → Prop} (h : PVs w G env σ H fp W r Q) {L1 : List Int} (a : Ahead w G env σ H fp L1 G1 H1) : PVs w G1 env σ H1 fp W r Q := by
  cases r with
  | ok x L' => exact fun G' H' v o d => h G' H' v (a.trans o) d
  | exc c ns xs L' => exact fun G' H' cls dd o => h G' H' cls dd ⟨a.trans o.toAhead, o.cls, o.fld⟩
  | stuck => exact h
theorem PVt.later {r : Res Bool} {Q : Bool → Hp → Prop} (h : PVt w G env σ H fp W r Q) {L1 : List Int} (a : Ahead w G env σ H fp L1 G1 H1) : PVt w G1 env σ H1 fp W r Q := by
  cases r with
  | ok x L' => exact fun G' H' o => h G' H' (a.trans o)
  | exc c ns xs L' => exact fun G' H' cls dd o => h G' H' cls dd ⟨a.trans o.toAhead, o.cls, o.fld⟩
  | stuck => exact h
/-- what was made is frozen -/
theorem ValOk.freeze {G' H' : Hp} {f : List Addr} (o : ValOk w G env σ H fp x L' G' H' v f) : ∃ G'', ValOk w G env σ H fp (fz x) L' G'' H' v [] := by
  have hs : Sub G' (Gf G' H' f) := Gf.sub fun a m => (o.ow a m).1
  have apart : ∀ a ∈ fp, a ∉ f := fun a m z => o.ap a z m
  refine ⟨Gf G' H' f, ⟨⟨o.sub.trans hs, o.step, o.rel.step hs (Step.refl _ _) (fun a u e => ?_) (fun a m => ?_) (fun a e => ⟨(o.rel.st a e).1, ?_⟩), fun a u e => ?_⟩, (freeze_all hs).1 _ _ _ o.rd (fun _ m => m), (fun _ m => nomatch m), List.nodup_nil, (fun _ m => nomatch m), (fun _ m => nomatch m)⟩⟩
  · unfold Gf at e
    split at e
    · exact e
    · exact o.rel.gs a u e
  · unfold Gf
    rw [if_neg (apart a m)]
    exact (o.rel.ow a m).1
  · unfold Gf
    rw [if_neg fun m => (o.ow a m).2.2 e]
    exact (o.rel.st a e).2.1
  · unfold Gf at e
    split at e
    · rename_i m
      exact .inr (o.fr a m)
    · exact o.new a u e
theorem PV.imp {r : Res D} {Q' : V → Hp → Prop} (h : PV w G env σ H fp W r Q) (i : ∀ v H', Q v H' → Q' v H') : PV w G env σ H fp W r Q' := by
  cases r with
  | ok x L' => exact fun G' H' v f o => i _ _ (h G' H' v f o)
  | exc c ns xs L' => exact h
  | stuck => exact h
/-- a second step behind a first -/
theorem PV.bindF {r : Res D} {k : D → List Int → Res D} (h : PV w G env σ H fp W (r.bindF k) Q) :
    PV w G env σ H fp W r (fun v H1 => ∃ G1 L1 x, Ahead w G env σ H fp L1 G1 H1 ∧ RD w G1 H1 x v [] ∧ PV w G1 env σ H1 fp W (k x L1) Q) := by
  cases r with
  | ok x L' =>
    intro G' H' v f o
    obtain ⟨G'', p⟩ := o.freeze
    exact ⟨G'', L', fz x, p.toAhead, p.rd, PV.later h p.toAhead⟩
  | exc c ns xs L' => exact h
  | stuck => exact h
theorem PV.bindFs {r : Res D} {k : D → List Int → Res (List D)} {Q : List V → Hp → Prop} (h : PVs w G env σ H fp W (r.bindF k) Q) :
    PV w G env σ H fp W r (fun v H1 => ∃ G1 L1 x, Ahead w G env σ H fp L1 G1 H1 ∧ RD w G1 H1 x v [] ∧ PVs w G1 env σ H1 fp W (k x L1) Q) := by
  cases r with
  | ok x L' =>
    intro G' H' v f o
    obtain ⟨G'', p⟩ := o.freeze
    exact ⟨G'', L', fz x, p.toAhead, p.rd, PVs.later h p.toAhead⟩
  | exc c ns xs L' => exact h
  | stuck => exact h
theorem PV.bindFt {r : Res D} {k : D → List Int → Res Bool} {Q : Bool → Hp → Prop} (h : PVt w G env σ H fp W (r.bindF k) Q) :
    PV w G env σ H fp W r (fun v H1 => ∃ G1 L1 x, Ahead w G env σ H fp L1 G1 H1 ∧ RD w G1 H1 x v [] ∧ PVt w G1 env σ H1 fp W (k x L1) Q) := by
  cases r with
  | ok x L' =>
    intro G' H' v f o
    obtain ⟨G'', p⟩ := o.freeze
    exact ⟨G'', L', fz x, p.toAhead, p.rd, PVt.later h p.toAhead⟩
  | exc c ns xs L' => exact h
  | stuck => exact h
theorem PVs.bind {r : Res (List D)} {k : List D → List Int → Res D} (h : PV w G env σ H fp W (r.bind k) Q) :
    PVs w G env σ H fp W r (fun vs H1 => ∃ G1 L1 xs, Ahead w G env σ H fp L1 G1 H1 ∧ RDs w G1 H1 xs vs [] ∧ PV w G1 env σ H1 fp W (k xs L1) Q) := by
  cases r with
  | ok x L' => exact fun G' H' v o d => ⟨G', L', x, o, d, PV.later h o⟩
  | exc c ns xs L' => exact h
  | stuck => exact h
theorem PVs.binds {r : Res (List D)} {k : List D → List Int → Res (List D)} {Q : List V → Hp → Prop} (h : PVs w G env σ H fp W (r.bind k) Q) :
    PVs w G env σ H fp W r (fun vs H1 => ∃ G1 L1 xs, Ahead w G env σ H fp L1 G1 H1 ∧ RDs w G1 H1 xs vs [] ∧ PVs w G1 env σ H1 fp W (k xs L1) Q) := by
  cases r with
  | ok x L' => exact fun G' H' v o d => ⟨G', L', x, o, d, PVs.later h o⟩
  | exc c ns xs L' => exact h
  | stuck => exact h
theorem PVt.bind {r : Res Bool} {k : Bool → List Int → Res D} (h : PV w G env σ H fp W (r.bind k) Q) :
    PVt w G env σ H fp W r (fun b H1 => ∃ G1 L1, Ahead w G env σ H fp L1 G1 H1 ∧ PV w G1 env σ H1 fp W (k b L1) Q) := by
  cases r with
  | ok x L' => exact fun G' H' o => ⟨G', L', o, PV.later h o⟩
  | exc c ns xs L' => exact h
  | stuck => exact h
theorem PVt.bindt {r : Res Bool} {k : Bool → List Int → Res Bool} {Q : Bool → Hp → Prop} (h : PVt w G env σ H fp W (r.bind k) Q) :
    PVt w G env σ H fp W r (fun b H1 => ∃ G1 L1, Ahead w G env σ H fp L1 G1 H1 ∧ PVt w G1 env σ H1 fp W (k b L1) Q) := by
  cases r with
  | ok x L' => exact fun G' H' o => ⟨G', L', o, PVt.later h o⟩
  | exc c ns xs L' => exact h
  | stuck => exact h
/-- a value that is there -/
theorem PV.done (h : PV w G env σ H fp W (.ok x L) Q) (R : Rel w G env L σ H fp) (d : RD w G H x v []) : Q v H :=
  h G H v [] ⟨.refl R, d, (fun _ m => nomatch m), List.nodup_nil, (fun _ m => nomatch m), (fun _ m => nomatch m)⟩
theorem Rel.free {p : Addr} (R : Rel w G env L σ H fp) (n : H p = none) : G p = none ∧ w.B p = none ∧ w.st ≠ some p ∧ p ∉ fp :=
  ⟨Sub.none R.gs n, Sub.none R.bs n, (fun e => by rw [(R.st p e).1] at n; cases n), (fun m => by
    obtain ⟨o, e⟩ := R.re.there p m
    rw [n] at e; cases e)⟩
/-- a new object -/
theorem Rel.push {p : Addr} {o : HO} (R : Rel w G env L σ H fp) (n : H p = none) : Rel w G env L σ (upd H p o) fp :=
  R.step (Sub.refl _) (Step.new n) (fun a u e => by rw [upd_ne (ne_of_none (R.gs a u e) n)]; exact R.gs a u e) (fun a m => (R.ow a m).1) fun a e => ⟨by rw [upd_ne (ne_of_none (R.st a e).1 n)]; exact (R.st a e).1, (R.st a e).2.1⟩
theorem Rel.pushG {p : Addr} {o : HO} (R : Rel w G env L σ H fp) (n : H p = none) : Rel w (upd G p o) env L σ (upd H p o) fp := by
  have g := R.free n
  have s1 : Sub G (upd G p o) := Sub.new g.1
  refine R.step s1 (Step.new n) (fun a u e => ?_) (fun a m => ?_) fun a e => ⟨by rw [upd_ne (ne_of_none (R.st a e).1 n)]; exact (R.st a e).1, ?_⟩
  · by_cases h : a = p
    · subst h; rw [upd_same] at e ⊢; exact e
    · rw [upd_ne h] at e ⊢; exact R.gs a u e
  · rw [upd_ne (fun z => by subst z; exact g.2.2.2 m)]; exact (R.ow a m).1
  · rw [upd_ne (fun z => by subst z; exact g.2.2.1 e)]; exact (R.st a e).2.1
theorem Ahead.push {p : Addr} {o : HO} (R : Rel w G env L σ H fp) (n : H p = none) : Ahead w G env σ H fp L G (upd H p o) := ⟨Sub.refl _, Step.new n, R.push n, fun _ _ e => .inl e⟩
theorem Ahead.pushG {p : Addr} {o : HO} (R : Rel w G env L σ H fp) (n : H p = none) : Ahead w G env σ H fp L (upd G p o) (upd H p o) := ⟨Sub.new (R.free n).1, Step.new n, R.pushG n, fun a u e => by
  by_cases h : a = p
  · subst h; exact .inr n
  · rw [upd_ne h] at e; exact .inl e⟩
theorem RDs.ahead {xs : List D} {vs : List V} {L' : List Int} (d : RDs w G H xs vs []) (a : Ahead w G env σ H fp L' G1 H1) : RDs w G1 H1 xs vs [] := d.step a.sub a.step (fun _ m => nomatch m)
theorem RD.ahead {x : D} {v : V} {L' : List Int} (d : RD w G H x v []) (a : Ahead w G env σ H fp L' G1 H1) : RD w G1 H1 x v [] := d.step a.sub a.step (fun _ m => nomatch m)
/-- a new list, owned -/
theorem PV.newL {ds : List D} {vs : List V} (h : PV w G env σ H fp W (.ok (.lst .ow ds) L) Q) (R : Rel w G env L σ H fp) (d : RDs w G H ds vs []) (k : okfs isSto ds = true) : ∀ p, H p = none → Q (.ref p) (upd H p (.lst vs)) := fun p n => by
  have g := R.free n
  have a := Ahead.push (o := .lst vs) R n
  refine h G _ _ [p] ⟨a, ?_, fun b m => ?_, by simp, fun b m => ?_, fun b m => ?_⟩
  · simp only [RD]
    exact ⟨p, vs, [], rfl, ⟨upd_same, k, rfl⟩, d.ahead a⟩
  · obtain rfl : b = p := by simpa using m
    exact n
  · obtain rfl : b = p := by simpa using m
    exact ⟨g.1, g.2.1, g.2.2.1⟩
  · obtain rfl : b = p := by simpa using m
    exact g.2.2.2
/-- a new tuple -/
theorem PV.newT {ds : List D} {vs : List V} (h : PV w G env σ H fp W (.ok (.tup ds) L) Q) (R : Rel w G env L σ H fp) (d : RDs w G H ds vs []) (k : okfs isFz ds = true) : ∀ p, H p = none → Q (.ref p) (upd H p (.tup vs)) := fun p n => by
  have a := Ahead.pushG (o := .tup vs) R n
  refine h _ _ _ [] ⟨a, ?_, (fun _ m => nomatch m), List.nodup_nil, (fun _ m => nomatch m), (fun _ m => nomatch m)⟩
  simp only [RD]
  exact ⟨p, vs, rfl, trivial, .of upd_same, k, d.ahead a⟩
end

/-! ### parts of values -/
section
variable {w : Gw} {G H : Hp} {v : V} {f : List Addr}
theorem RD.int_of {i : Int} (h : RD w G H (.int i) v f) : v = .int i := by simp only [RD] at h; exact h.1
theorem RD.bl_of {i : Bool} (h : RD w G H (.bl i) v f) : v = .bl i := by simp only [RD] at h; exact h.1
theorem RD.str_of {i : Str} (h : RD w G H (.str i) v f) : v = .str i := by simp only [RD] at h; exact h.1
theorem RD.non_of (h : RD w G H .non v f) : v = .non := by simp only [RD] at h; exact h.1
theorem RD.ty_of {n : String} (h : RD w G H (.ty n) v f) : v = .ty n := by simp only [RD] at h; exact h.1
theorem RD.int (i : Int) : RD w G H (.int i) (.int i) [] := by simp only [RD]; trivial
theorem RD.bl (i : Bool) : RD w G H (.bl i) (.bl i) [] := by simp only [RD]; trivial
theorem RD.str (i : Str) : RD w G H (.str i) (.str i) [] := by simp only [RD]; trivial
theorem RD.non : RD w G H .non .non [] := by simp only [RD]; trivial
theorem RD.ty (n : String) : RD w G H (.ty n) (.ty n) [] := by simp only [RD]; trivial
theorem RDs.nil_of {vs : List V} (h : RDs w G H [] vs f) : vs = [] := by simp only [RDs] at h; exact h.1
theorem RDs.nil : RDs w G H [] [] [] := by simp only [RDs]; trivial
theorem RDs.cons_of {d : D} {ds : List D} {vs : List V} (h : RDs w G H (d :: ds) vs []) : ∃ v us, vs = v :: us ∧ RD w G H d v [] ∧ RDs w G H ds us [] := by
  simp only [RDs] at h
  obtain ⟨v, us, f1, f2, e1, e2, h1, h2⟩ := h
  obtain ⟨rfl, rfl⟩ := List.append_eq_nil_iff.mp e2.symm
  exact ⟨v, us, e1, h1, h2⟩
theorem RDs.cons {d : D} {ds : List D} {v : V} {vs : List V} (h : RD w G H d v []) (r : RDs w G H ds vs []) : RDs w G H (d :: ds) (v :: vs) [] := by
  simp only [RDs]
  exact ⟨v, vs, [], [], rfl, rfl, h, r⟩
theorem RDs.len : ∀ {ds : List D} {vs : List V} {f : List Addr}, RDs w G H ds vs f → ds.length = vs.length
  | [], _, _, h => by simp only [RDs] at h; rw [h.1]; rfl
  | d :: ds, _, _, h => by
    simp only [RDs] at h
    obtain ⟨v, us, f1, f2, rfl, _, _, h2⟩ := h
    simp [RDs.len h2]
theorem RDs.get : ∀ {ds : List D} {vs : List V} {i : Nat} {d : D}, RDs w G H ds vs [] → ds[i]? = some d → ∃ v, vs[i]? = some v ∧ RD w G H d v []
  | [], _, _, _, _, e => by simp at e
  | d :: ds, _, 0, _, h, e => by
    obtain ⟨v, us, rfl, h1, _⟩ := h.cons_of
    obtain rfl : d = _ := by simpa using e
    exact ⟨v, rfl, h1⟩
  | d :: ds, _, i + 1, _, h, e => by
    obtain ⟨v, us, rfl, _, h2⟩ := h.cons_of
    obtain ⟨v', e1, e2⟩ := RDs.get (i := i) h2 (by simpa using e)
    exact ⟨v', by simpa using e1, e2⟩
theorem RDs.append : ∀ {ds : List D} {vs : List V} {es : List D} {us : List V}, RDs w G H ds vs [] → RDs w G H es us [] → RDs w G H (ds ++ es) (vs ++ us) []
  | [], _, _, _, h, r => by rw [h.nil_of]; exact r
  | d :: ds, _, _, _, h, r => by
    obtain ⟨v, us, rfl, h1, h2⟩ := h.cons_of
    exact RDs.cons h1 (RDs.append h2 r)
theorem RDs.take : ∀ {ds : List D} {vs : List V} (n : Nat), RDs w G H ds vs [] → RDs w G H (ds.take n) (vs.take n) []
  | _, _, 0, _ => by simp only [List.take_zero]; exact RDs.nil
  | [], _, n + 1, h => by rw [h.nil_of]; exact RDs.nil
  | d :: ds, _, n + 1, h => by
    obtain ⟨v, us, rfl, h1, h2⟩ := h.cons_of
    exact RDs.cons h1 (RDs.take n h2)
theorem RDs.drop : ∀ {ds : List D} {vs : List V} (n : Nat), RDs w G H ds vs [] → RDs w G H (ds.drop n) (vs.drop n) []
  | _, _, 0, h => h
  | [], _, n + 1, h => by rw [h.nil_of]; exact RDs.nil
  | d :: ds, _, n + 1, h => by
    obtain ⟨v, us, rfl, h1, h2⟩ := h.cons_of
    exact RDs.drop n h2
theorem RDs.reverse : ∀ {ds : List D} {vs : List V}, RDs w G H ds vs [] → RDs w G H ds.reverse vs.reverse []
  | [], _, h => by rw [h.nil_of]; exact RDs.nil
  | d :: ds, _, h => by
    obtain ⟨v, us, rfl, h1, h2⟩ := h.cons_of
    rw [List.reverse_cons, List.reverse_cons]
    exact RDs.append (RDs.reverse h2) (RDs.cons h1 RDs.nil)
/-- a list that is looked at: where its items stand -/
theorem RD.lst_of {w : Gw} {G H : Hp} {fl : Fl} {ds : List D} {env : Env} {L : List Int} {σ : L2.St} {fp : List Addr} (h : RD w G H (.lst fl ds) v []) (R : Rel w G env L σ H fp) : ∃ a vs, v = .ref a ∧ SqL w.K H a vs ∧ RDs w G H ds vs [] ∧ (fl ≠ .kz → H a = some (.lst vs)) := by
  simp only [RD] at h
  obtain ⟨a, vs, fp', e, hl, r⟩ := h
  cases fl with
  | fz => obtain ⟨h1, h2, rfl, _⟩ := hl; exact ⟨a, vs, e, .of (R.gs _ _ h1), r, fun _ => R.gs _ _ h1⟩
  | kz => obtain ⟨h1, h2, rfl, _⟩ := hl; exact ⟨a, vs, e, Sub.seqL R.gs h1, r, fun z => (z rfl).elim⟩
  | bo => obtain ⟨h1, h2, rfl, _⟩ := hl; exact ⟨a, vs, e, .of (R.bs _ _ h1), r, fun _ => R.bs _ _ h1⟩
  | lo => obtain ⟨h1, h2, rfl, _⟩ := hl; exact ⟨a, vs, e, .of h1, r, fun _ => h1⟩
  | ow => obtain ⟨_, _, z⟩ := hl; cases z
  | me => exact hl.elim
theorem RD.tup_of {w : Gw} {G H : Hp} {ds : List D} {env : Env} {L : List Int} {σ : L2.St} {fp : List Addr} (h : RD w G H (.tup ds) v []) (R : Rel w G env L σ H fp) : ∃ a vs, v = .ref a ∧ SqT w.K H a vs ∧ RDs w G H ds vs [] ∧ okfs isFz ds = true := by
  simp only [RD] at h
  obtain ⟨a, vs, e, _, hq, k, r⟩ := h
  exact ⟨a, vs, e, Sub.seqT R.gs hq, r, k⟩
theorem RD.obj_of {w : Gw} {G H : Hp} {fl : Fl} {c : Str} {ns : List Str} {ds : List D} {env : Env} {L : List Int} {σ : L2.St} {fp : List Addr} (h : RD w G H (.obj fl c ns ds) v []) (R : Rel w G env L σ H fp) :
    (∀ C, w.mg c = some (.ref C) → PySem.W.plainGet w.K C Str.empty = true) → ∃ a C dx fs, v = .ref a ∧ w.mg c = some (.ref C) ∧ fs.map (·.1) = ns ∧ H a = some (.ins C dx fs) ∧ RDs w G H ds (fs.map (·.2)) [] := by
  intro hpl
  simp only [RD] at h
  obtain ⟨a, C, dx, fs, fp', e, hm, hn, hl, r⟩ := h
  cases fl with
  | fz => obtain ⟨h1, h2, rfl, _⟩ := hl; exact ⟨a, C, dx, fs, e, hm, hn, R.gs _ _ h1, r⟩
  | kz =>
    obtain ⟨⟨_, ⟨_, _, q⟩, _⟩, _⟩ := hl
    have z := hpl C hm
    unfold PySem.W.plainGet at z
    rw [q] at z
    exact absurd z (by simp)
  | bo => obtain ⟨h1, h2, rfl, _⟩ := hl; exact ⟨a, C, dx, fs, e, hm, hn, R.bs _ _ h1, r⟩
  | lo => obtain ⟨h1, h2, rfl, _⟩ := hl; exact ⟨a, C, dx, fs, e, hm, hn, h1, r⟩
  | ow => obtain ⟨_, _, _, z⟩ := hl; cases z
  | me => obtain ⟨_, _, _, _, _, z⟩ := hl; cases z
end
end Qd

set_option Elab.async false
set_option linter.all false
set_option maxRecDepth 100000
set_option maxHeartbeats 4000000
namespace Qd
open PySem PySem.Spec PyProof.Rows L2

/-! ### meanings of expressions -/
def dC (x : D) : DE := fun _ L => .ok x L
def dVar (i : Nat) : DE := fun env L => match env[i]? with
  | some (some d) => .ok (lk d) L
  | _ => .stuck
def dBin (f : D → D → List Int → Res D) (a b : DE) : DE := fun env L => (a env L).bindF fun x L1 => (b env L1).bindF fun y L2 => f x y L2
def dUn (f : D → List Int → Res D) (a : DE) : DE := fun env L => (a env L).bindF fun x L1 => f x L1
def dNil : DA := fun _ L => .ok [] L
def dCons (a : DE) (r : DA) : DA := fun env L => (a env L).bindF fun x L1 => (r env L1).bind fun xs L2 => .ok (x :: xs) L2
def dApp (f : List D → List Int → Res D) (a : DA) : DE := fun env L => (a env L).bind fun xs L1 => f xs L1
def dIf (t : DT) (a b : DE) : DE := fun env L => (t env L).bind fun c L1 => if c then a env L1 else b env L1
def blOf (k : Bool → List Int → Res D) : D → List Int → Res D
  | .bl c, L => k c L
  | _, _ => .stuck
def dAnd (a b : DE) : DE := fun env L => (a env L).bindF (blOf fun c L1 => if c then b env L1 else .ok (.bl false) L1)
def dOr (a b : DE) : DE := fun env L => (a env L).bindF (blOf fun c L1 => if c then .ok (.bl true) L1 else b env L1)
def dNot (a : DE) : DE := fun env L => (a env L).bindF (blOf fun c L1 => .ok (.bl (!c)) L1)
/-- tests -/
def tstD : D → List Int → Res Bool
  | .bl c, L => .ok c L
  | _, _ => .stuck
def dTst (a : DE) : DT := fun env L => (a env L).bindF tstD
def dTAnd (a b : DT) : DT := fun env L => (a env L).bind fun c L1 => if c then b env L1 else .ok false L1
def dTOr (a b : DT) : DT := fun env L => (a env L).bind fun c L1 => if c then .ok true L1 else b env L1
def dTNot (a : DT) : DT := fun env L => (a env L).bind fun c L1 => .ok (!c) L1

/-- a two-place operation on values: the rule r serves the meaning f -/
def OpD (X : Cx) (r : R2) (f : D → D → List Int → Res D) : Prop := ∀ {w : Gw} {G : Hp} {env : Env} {L : List Int} {σ : L2.St} {H : Hp} {fp : List Addr} {W : WX} {x y : D} {v u : V} {Q : VK},
  w.K = X.K → w.mg = X.mg → Rel w G env L σ H fp → RD w G H x v [] → RD w G H y u [] → PV w G env σ H fp W (f x y L) Q → r v u H Q
def UnD (X : Cx) (r : V → Hp → VK → Prop) (f : D → List Int → Res D) : Prop := ∀ {w : Gw} {G : Hp} {env : Env} {L : List Int} {σ : L2.St} {H : Hp} {fp : List Addr} {W : WX} {x : D} {v : V} {Q : VK},
  w.K = X.K → w.mg = X.mg → Rel w G env L σ H fp → RD w G H x v [] → PV w G env σ H fp W (f x L) Q → r v H Q
def CallD (X : Cx) (r : List V → Hp → VK → Prop) (f : List D → List Int → Res D) : Prop := ∀ {w : Gw} {G : Hp} {env : Env} {L : List Int} {σ : L2.St} {H : Hp} {fp : List Addr} {W : WX} {xs : List D} {vs : List V} {Q : VK},
  w.K = X.K → w.mg = X.mg → Rel w G env L σ H fp → RDs w G H xs vs [] → PV w G env σ H fp W (f xs L) Q → r vs H Q

section
variable {w : Gw} {G : Hp} {env : Env} {σ : L2.St} {H : Hp} {fp : List Addr} {W : WX} {L : List Int} {Q : V → Hp → Prop} {x : D}
theorem blOf_inv {k : Bool → List Int → Res D} (h : PV w G env σ H fp W (blOf k x L) Q) : ∃ c, x = .bl c ∧ PV w G env σ H fp W (k c L) Q := by
  cases x <;> first | exact ⟨_, rfl, h⟩ | exact h.elim
theorem tstD_inv {Q : Bool → Hp → Prop} (h : PVt w G env σ H fp W (tstD x L) Q) : ∃ c, x = .bl c ∧ PVt w G env σ H fp W (.ok c L) Q := by
  cases x <;> first | exact ⟨_, rfl, h⟩ | exact h.elim
theorem PVt.done {b : Bool} {Q : Bool → Hp → Prop} (h : PVt w G env σ H fp W (.ok b L) Q) (R : Rel w G env L σ H fp) : Q b H := h G H (.refl R)
end

section
variable {X : Cx} {W : WX} {a b c e : Expr} {es : List Expr} {da db : DE} {ds : DA} {pos : Pos} {dt du : DT}
theorem so_int {i j pos} : SE X W (.Constant (.int i) j pos) (dC (.int i)) := PE_imp pe_int fun σ H Q ⟨w, G, env, L, fp, hk, R, h⟩ => h.done R (.int i)
theorem so_bl {i j pos} : SE X W (.Constant (.bool i) j pos) (dC (.bl i)) := PE_imp pe_bl fun σ H Q ⟨w, G, env, L, fp, hk, R, h⟩ => h.done R (.bl i)
theorem so_str {i j pos} : SE X W (.Constant (.str i) j pos) (dC (.str i)) := PE_imp pe_str fun σ H Q ⟨w, G, env, L, fp, hk, R, h⟩ => h.done R (.str i)
theorem so_non {j pos} : SE X W (.Constant .none j pos) (dC .non) := PE_imp pe_non fun σ H Q ⟨w, G, env, L, fp, hk, R, h⟩ => h.done R .non
theorem so_ty {x : Str} {n : String} (hg : Gl X x) (hm : X.mg x = none) (hv : bootBuiltins x = some (.type n)) (hn : x ≠ "__name__" := by decide) (hd : (x == ("__debug__" : Str)) = false := by decide) : SE X W (.Name x pos) (dC (.ty n)) :=
  PE_imp (pe_bltn (v := .ty n) hg hm hv rfl hn hd) fun σ H Q ⟨w, G, env, L, fp, hk, R, h⟩ => h.done R (.ty n)
theorem so_cls {x : Str} {C : Addr} (hg : Gl X x) (hm : X.mg x = some (.ref C)) (hd : (x == ("__debug__" : Str)) = false := by decide) : SE X W (.Name x pos) (dC (.cls x)) :=
  PE_imp (pe_glob (v := .ref C) hg hm rfl hd) fun σ H Q ⟨w, G, env, L, fp, hk, R, h⟩ => h.done R (by simp only [RD]; exact ⟨C, rfl, trivial, by rw [hk.2.1]; exact hm⟩)
theorem so_var (i : Nat) {x : Str} (hN : X.N[i]? = some x := by rfl) (hv : Vis X.env.scope x := by first | exact Or.inl rfl | exact Or.inr (Or.inl rfl) | exact Or.inr (Or.inr rfl)) (hd : (x == ("__debug__" : Str)) = false := by decide)
    (hcd : (x == ("__classdict__" : Str)) = false := by decide) : SE X W (.Name x pos) (dVar i) :=
  PE_imp (pe_var hN hv hd hcd) fun σ H Q ⟨w, G, env, L, fp, hk, R, h⟩ => by
    unfold dVar at h
    split at h
    · rename_i d e
      obtain ⟨v, f1, e1, h1, k, hs, _⟩ := R.re.get e
      exact ⟨v, e1, h.done R (look_all.1 _ _ _ h1 fun b m => (R.ow b (hs b m)).2.2)⟩
    · exact h.elim
theorem so_bin {op : Operator} {r : R2} {f : D → D → List Int → Res D} (ho : OpR X (binaryOp op) r) (hf : OpD X r f) (ha : SE X W a da) (hb : SE X W b db) : SE X W (.BinOp a op b pos) (dBin f da db) :=
  PE_imp (pe_op ho ha hb) fun σ H Q ⟨w, G, env, L, fp, hk, R, h⟩ =>
    ⟨w, G, env, L, fp, hk, R, h.bindF.imp fun v H1 ⟨G1, L1, x, a1, d1, h1⟩ => ⟨w, G1, env, L1, fp, hk, a1.rel, h1.bindF.imp fun u H2 ⟨G2, L2, y, a2, d2, h2⟩ => hf hk.1 hk.2.1 a2.rel (d1.ahead a2) d2 h2⟩⟩
theorem so_cmp {op : CmpOp} {r : R2} {f : D → D → List Int → Res D} (ho : OpR X (compareOp op) r) (hf : OpD X r f) (ha : SE X W a da) (hb : SE X W b db) (hm : behindInMarks op b = false := by first | exact nomark _ | rfl) : SE X W (.Compare a [op] [b] pos) (dBin f da db) :=
  PE_imp (pe_cmpR ho ha hb hm) fun σ H Q ⟨w, G, env, L, fp, hk, R, h⟩ =>
    ⟨w, G, env, L, fp, hk, R, h.bindF.imp fun v H1 ⟨G1, L1, x, a1, d1, h1⟩ => ⟨w, G1, env, L1, fp, hk, a1.rel, h1.bindF.imp fun u H2 ⟨G2, L2, y, a2, d2, h2⟩ => hf hk.1 hk.2.1 a2.rel (d1.ahead a2) d2 h2⟩⟩
theorem so_un {op : UnaryOp} {r : V → Hp → VK → Prop} {f : D → List Int → Res D} (ho : UnR X (unaryOp op) r) (hf : UnD X r f) (ha : SE X W a da) : SE X W (.UnaryOp op a pos) (dUn f da) :=
  PE_imp (pe_un ho ha) fun σ H Q ⟨w, G, env, L, fp, hk, R, h⟩ =>
    ⟨w, G, env, L, fp, hk, R, h.bindF.imp fun v H1 ⟨G1, L1, x, a1, d1, h1⟩ => hf hk.1 hk.2.1 a1.rel d1 h1⟩
theorem so_not (ha : SE X W a da) : SE X W (.UnaryOp .Not a pos) (dNot da) :=
  PE_imp (pe_not ha) fun σ H Q ⟨w, G, env, L, fp, hk, R, h⟩ =>
    ⟨w, G, env, L, fp, hk, R, h.bindF.imp fun v H1 ⟨G1, L1, x, a1, d1, h1⟩ => by
      obtain ⟨c, rfl, h2⟩ := blOf_inv h1
      exact ⟨_, d1.bl_of, h2.done a1.rel (.bl _)⟩⟩
theorem so_one {op} (ha : SE X W a da) : SE X W (.BoolOp op [a] pos) da := pe_one ha
theorem so_and {rest : List Expr} (ha : SE X W a da) (hb : SE X W (.BoolOp .And (b :: rest) pos) db) : SE X W (.BoolOp .And (a :: b :: rest) pos) (dAnd da db) :=
  PE_imp (pe_and ha hb) fun σ H Q ⟨w, G, env, L, fp, hk, R, h⟩ =>
    ⟨w, G, env, L, fp, hk, R, h.bindF.imp fun v H1 ⟨G1, L1, x, a1, d1, h1⟩ => by
      obtain ⟨c, rfl, h2⟩ := blOf_inv h1
      refine ⟨_, d1.bl_of, ?_⟩
      cases c with
      | true => exact ⟨w, G1, env, _, fp, hk, a1.rel, h2⟩
      | false => exact PV.done h2 a1.rel (.bl _)⟩
theorem so_or {rest : List Expr} (ha : SE X W a da) (hb : SE X W (.BoolOp .Or (b :: rest) pos) db) : SE X W (.BoolOp .Or (a :: b :: rest) pos) (dOr da db) :=
  PE_imp (pe_or ha hb) fun σ H Q ⟨w, G, env, L, fp, hk, R, h⟩ =>
    ⟨w, G, env, L, fp, hk, R, h.bindF.imp fun v H1 ⟨G1, L1, x, a1, d1, h1⟩ => by
      obtain ⟨c, rfl, h2⟩ := blOf_inv h1
      refine ⟨_, d1.bl_of, ?_⟩
      cases c with
      | true => exact PV.done h2 a1.rel (.bl _)
      | false => exact ⟨w, G1, env, _, fp, hk, a1.rel, h2⟩⟩
theorem so_if (hc : SEt X W c dt) (ha : SE X W a da) (hb : SE X W b db) : SE X W (.IfExp c a b pos) (dIf dt da db) :=
  PE_imp (pe_ifExp hc ha hb) fun σ H Q ⟨w, G, env, L, fp, hk, R, h⟩ => by
    refine ⟨w, G, env, L, fp, hk, R, ?_⟩
    have h' := PVt.bind h
    revert h'
    cases dt env L with
    | stuck => exact fun z => z
    | exc c ns xs L' => exact fun z => z
    | ok x L' =>
      intro z G' H' o
      obtain ⟨G1, L1, a1, h1⟩ := z G' H' o
      cases x with
      | true => exact ⟨w, G1, env, L1, fp, hk, a1.rel, h1⟩
      | false => exact ⟨w, G1, env, L1, fp, hk, a1.rel, h1⟩
/-! ### tests -/
theorem PVt.imp {w : Gw} {G : Hp} {env : Env} {σ : L2.St} {H : Hp} {fp : List Addr} {W : WX} {r : Res Bool} {Q Q' : Bool → Hp → Prop} (h : PVt w G env σ H fp W r Q) (i : ∀ b H', Q b H' → Q' b H') : PVt w G env σ H fp W r Q' := by
  cases r with
  | ok x L' => exact fun G' H' o => i _ _ (h G' H' o)
  | exc c ns xs L' => exact h
  | stuck => exact h
theorem tst_tE {σ : L2.St} {H : Hp} {Q : Bool → Hp → Prop} {K : PySem.W.Frag} {mg : Str → Option Value} {ex : Option (Addr × Obj)} (h : tT K mg ex W (dTst da) σ H Q) : tE K mg ex W da σ H fun x H1 => ∃ c, x = .bl c ∧ Q c H1 := by
  obtain ⟨w, G, env, L, fp, hk, R, h⟩ := h
  refine ⟨w, G, env, L, fp, hk, R, (PV.bindFt h).imp fun v H1 ⟨G1, L1, x, a1, d1, h1⟩ => ?_⟩
  obtain ⟨c, rfl, h2⟩ := tstD_inv h1
  exact ⟨_, d1.bl_of, h2.done a1.rel⟩
theorem st_val (ha : SE X W a da) (he : ∀ whole, isTrue a X.env whole = (do let v ← whole; standAt a.pos; holding [v] (truthy v)) := by intro _; rfl) : SEt X W a (dTst da) :=
  PT_imp (pt_val ha he) fun σ H Q h => tst_tE h
theorem st_cmp {op : CmpOp} {r : R2} {f : D → D → List Int → Res D} (ho : OpR X (compareOp op) r) (hf : OpD X r f) (ha : SE X W a da) (hb : SE X W b db) (hm : behindInMarks op b = false := by first | exact nomark _ | rfl) : SEt X W (.Compare a [op] [b] pos) (dTst (dBin f da db)) :=
  PT_imp (pt_cmpR ho ha hb hm) fun σ H Q h => by
    obtain ⟨w, G, env, L, fp, hk, R, h⟩ := tst_tE h
    exact ⟨w, G, env, L, fp, hk, R, h.bindF.imp fun v H1 ⟨G1, L1, x, a1, d1, h1⟩ => ⟨w, G1, env, L1, fp, hk, a1.rel, h1.bindF.imp fun u H2 ⟨G2, L2, y, a2, d2, h2⟩ => hf hk.1 hk.2.1 a2.rel (d1.ahead a2) d2 h2⟩⟩
theorem tT_bind {σ : L2.St} {H : Hp} {Q : Bool → Hp → Prop} {K : PySem.W.Frag} {mg : Str → Option Value} {ex : Option (Addr × Obj)} {k : Env → Bool → List Int → Res Bool} (h : tT K mg ex W (fun env L => (dt env L).bind (k env)) σ H Q) :
    tT K mg ex W dt σ H fun c H1 => ∃ w G1 env L1 fp, (w.K = K ∧ w.mg = mg ∧ w.ex = ex) ∧ Rel w G1 env L1 σ H1 fp ∧ PVt w G1 env σ H1 fp W (k env c L1) Q := by
  obtain ⟨w, G, env, L, fp, hk, R, h⟩ := h
  exact ⟨w, G, env, L, fp, hk, R, (PVt.bindt h).imp fun c H1 ⟨G1, L1, a1, h1⟩ => ⟨w, G1, env, L1, fp, hk, a1.rel, h1⟩⟩
theorem st_not (ha : SEt X W a dt) : SEt X W (.UnaryOp .Not a pos) (dTNot dt) :=
  PT_imp (pt_not ha) fun σ H Q h => by
    obtain ⟨w, G, env, L, fp, hk, R, h⟩ := tT_bind (k := fun _ c L1 => .ok (!c) L1) h
    exact ⟨w, G, env, L, fp, hk, R, h.imp fun c H1 ⟨w, G1, env, L1, fp, hk, R1, h1⟩ => h1.done R1⟩
theorem sw_and1 (ha : SEt X W a dt) : SW X W (.BoolOp .And [a] pos) dt := pw_and1 ha
theorem sw_or1 (ha : SEt X W a dt) : SW X W (.BoolOp .Or [a] pos) dt := pw_or1 ha
theorem sw_and {rest : List Expr} (ha : SEt X W a dt) (hb : SW X W (.BoolOp .And (b :: rest) pos) du) : SW X W (.BoolOp .And (a :: b :: rest) pos) (dTAnd dt du) :=
  PW_imp (pw_and ha hb) fun σ H Q h => by
    obtain ⟨w, G, env, L, fp, hk, R, h⟩ := tT_bind (k := fun env c L1 => if c then du env L1 else .ok false L1) h
    refine ⟨w, G, env, L, fp, hk, R, h.imp fun c H1 ⟨w, G1, env, L1, fp, hk, R1, h1⟩ => ?_⟩
    cases c with
    | true => exact ⟨w, G1, env, L1, fp, hk, R1, h1⟩
    | false => exact PVt.done h1 R1
theorem sw_or {rest : List Expr} (ha : SEt X W a dt) (hb : SW X W (.BoolOp .Or (b :: rest) pos) du) : SW X W (.BoolOp .Or (a :: b :: rest) pos) (dTOr dt du) :=
  PW_imp (pw_or ha hb) fun σ H Q h => by
    obtain ⟨w, G, env, L, fp, hk, R, h⟩ := tT_bind (k := fun env c L1 => if c then .ok true L1 else du env L1) h
    refine ⟨w, G, env, L, fp, hk, R, h.imp fun c H1 ⟨w, G1, env, L1, fp, hk, R1, h1⟩ => ?_⟩
    cases c with
    | true => exact PVt.done h1 R1
    | false => exact ⟨w, G1, env, L1, fp, hk, R1, h1⟩
theorem st_w (h : SW X W a dt) : SEt X W a dt := h.pt
/-! ### arguments, displays -/
theorem sa_nil : SA X W [] dNil := PA_imp pa_nil fun σ H Q ⟨w, G, env, L, fp, hk, R, h⟩ => h G H [] (.refl R) RDs.nil
theorem PVs.imp {w : Gw} {G : Hp} {env : Env} {σ : L2.St} {H : Hp} {fp : List Addr} {W : WX} {r : Res (List D)} {Q Q' : List V → Hp → Prop} (h : PVs w G env σ H fp W r Q) (i : ∀ b H', Q b H' → Q' b H') : PVs w G env σ H fp W r Q' := by
  cases r with
  | ok x L' => exact fun G' H' v o d => i _ _ (h G' H' v o d)
  | exc c ns xs L' => exact h
  | stuck => exact h
theorem sa_cons (ha : SE X W a da) (hr : SA X W es ds) (hs : starEach (a :: es) X.env = (false, eval a X.env) :: starEach es X.env := by rfl) : SA X W (a :: es) (dCons da ds) :=
  PA_imp (pa_cons ha hr hs) fun σ H Q ⟨w, G, env, L, fp, hk, R, h⟩ =>
    ⟨w, G, env, L, fp, hk, R, (PV.bindFs h).imp fun v H1 ⟨G1, L1, x, a1, d1, h1⟩ => ⟨w, G1, env, L1, fp, hk, a1.rel, (PVs.binds h1).imp fun vs H2 ⟨G2, L2, xs, a2, d2, h2⟩ => h2 G2 H2 (v :: vs) (.refl a2.rel) (RDs.cons (d1.ahead a2) d2)⟩⟩
/-- room in a list, a tuple -/
def okLen (n : Nat) : Bool := decide (n ≤ 1000000)
theorem okLen_size {n : Nat} (h : okLen n = true) : n ≤ sizeLine := by
  have := of_decide_eq_true h
  rw [sizeLine_eq]; omega
def tupD (xs : List D) (L : List Int) : Res D := if okLen xs.length && okfs isFz xs then .ok (.tup xs) L else .stuck
def lstD (xs : List D) (L : List Int) : Res D := if okLen xs.length && okfs isFz xs then .ok (.lst .ow xs) L else .stuck
theorem so_tup {k} (ha : SA X W es ds) : SE X W (.Tuple es k pos) (dApp tupD ds) :=
  PE_imp (pe_tup ha) fun σ H Q ⟨w, G, env, L, fp, hk, R, h⟩ =>
    ⟨w, G, env, L, fp, hk, R, (PVs.bind h).imp fun vs H1 ⟨G1, L1, xs, a1, d1, h1⟩ => by
      unfold tupD at h1
      split at h1
      · rename_i c
        simp only [Bool.and_eq_true] at c
        exact ⟨d1.len ▸ okLen_size c.1, h1.newT a1.rel d1 c.2⟩
      · exact h1.elim⟩
theorem so_lst (ha : SA X W es ds) : SE X W (.List es pos) (dApp lstD ds) :=
  PE_imp (pe_lst ha) fun σ H Q ⟨w, G, env, L, fp, hk, R, h⟩ =>
    ⟨w, G, env, L, fp, hk, R, (PVs.bind h).imp fun vs H1 ⟨G1, L1, xs, a1, d1, h1⟩ => by
      unfold lstD at h1
      split at h1
      · rename_i c
        simp only [Bool.and_eq_true] at c
        exact ⟨d1.len ▸ okLen_size c.1, h1.newL a1.rel d1 ((okf_imp fz_sto).2 _ c.2)⟩
      · exact h1.elim⟩
/-! ### calls of built-ins -/
theorem so_callB {x : Str} {id : String} {r : List V → Hp → VK → Prop} {f : List D → List Int → Res D} {p : Pos} (hc : CallR X (.builtin id) r) (hf : CallD X r f) (hg : Gl X x) (hm : X.mg x = none) (hv : bootBuiltins x = some (.builtin id)) (ha : SA X W (e :: es) ds)
    (hn : x ≠ "__name__" := by decide) (hdb : (x == ("__debug__" : Str)) = false := by decide) (he : starEach (e :: es) X.env = (false, eval e X.env) :: starEach es X.env := by rfl) (hpl : (backTo pos (starEach es X.env)).any (·.1) = false := by rfl) :
    SE X W (.Call (.Name x p) (e :: es) [] pos) (dApp f ds) :=
  PE_imp (pe_callB hc hg hm hv ha hn hdb he hpl) fun σ H Q ⟨w, G, env, L, fp, hk, R, h⟩ =>
    ⟨w, G, env, L, fp, hk, R, (PVs.bind h).imp fun vs H1 ⟨G1, L1, xs, a1, d1, h1⟩ => hf hk.1 hk.2.1 a1.rel d1 h1⟩
theorem so_callT {x : Str} {T : String} {r : List V → Hp → VK → Prop} {f : List D → List Int → Res D} {p : Pos} (hc : CallR X (.type T) r) (hf : CallD X r f) (hg : Gl X x) (hm : X.mg x = none) (hv : bootBuiltins x = some (.type T)) (ha : SA X W (e :: es) ds)
    (hn : x ≠ "__name__" := by decide) (hdb : (x == ("__debug__" : Str)) = false := by decide) (he : starEach (e :: es) X.env = (false, eval e X.env) :: starEach es X.env := by rfl) (hpl : (backTo pos (starEach es X.env)).any (·.1) = false := by rfl) :
    SE X W (.Call (.Name x p) (e :: es) [] pos) (dApp f ds) :=
  PE_imp (pe_callTy hc hg hm hv ha hn hdb he hpl) fun σ H Q ⟨w, G, env, L, fp, hk, R, h⟩ =>
    ⟨w, G, env, L, fp, hk, R, (PVs.bind h).imp fun vs H1 ⟨G1, L1, xs, a1, d1, h1⟩ => hf hk.1 hk.2.1 a1.rel d1 h1⟩
end
end Qd

set_option Elab.async false
set_option linter.all false
set_option maxRecDepth 100000
set_option maxHeartbeats 4000000
namespace Qd
open PySem PySem.Spec PyProof.Rows L2

/-! ### equality of data -/
mutual
def eqd : D → D → Bool
  | .non, .non => true
  | .bl a, .bl b => a == b
  | .bl a, .int j => (if a then 1 else 0) == j
  | .int i, .bl b => i == (if b then 1 else 0)
  | .int i, .int j => i == j
  | .str x, .str y => x == y
  | .lst _ xs, .lst _ ys => eqds xs ys
  | .tup xs, .tup ys => eqds xs ys
  | _, _ => false
def eqds : List D → List D → Bool
  | [], [] => true
  | x :: xs, y :: ys => eqd x y && eqds xs ys
  | _, _ => false
end
mutual
/-- plain data of depth at most n -/
def plainN : Nat → D → Bool
  | _, .non => true
  | _, .bl _ => true
  | _, .int _ => true
  | _, .str x => PyData.strOk x
  | n + 1, .lst _ xs => plainNs n xs
  | n + 1, .tup xs => plainNs n xs
  | _, _ => false
def plainNs : Nat → List D → Bool
  | _, [] => true
  | n, x :: r => plainN n x && plainNs n r
end
mutual
def pd : D → PyData
  | .bl b => .bool b
  | .int i => .int i
  | .str x => .str x
  | .lst _ xs => .list (pds xs)
  | .tup xs => .tuple (pds xs)
  | _ => .none
def pds : List D → List PyData
  | [] => []
  | d :: r => pd d :: pds r
end
theorem plain_all : (∀ d n, plainN n d = true → (pd d).canLay0 = true ∧ (pd d).depth ≤ n) ∧ ∀ ds n, plainNs n ds = true → PyData.canLayAll0 (pds ds) = true ∧ PyData.depthAll (pds ds) ≤ n := by
  refine D.ind ?_ ?_ ?_ ?_ ?_ ?_ ?_ ?_ ?_ ?_ ?_ ?_
  · intro n h; simp [pd, PyData.canLay0, PyData.depth]
  · intro b n h; simp [pd, PyData.canLay0, PyData.depth]
  · intro b n h; simp [pd, PyData.canLay0, PyData.depth]
  · intro b n h; simp only [plainN] at h; simp [pd, PyData.canLay0, PyData.depth, h]
  · intro b n h; simp [plainN] at h
  · intro b n h; simp [plainN] at h
  · intro n h; simp [plainN] at h
  · intro xs ih n h
    cases n with
    | zero => simp [plainN] at h
    | succ n =>
      simp only [plainN] at h
      obtain ⟨h1, h2⟩ := ih n h
      simp only [pd, PyData.canLay0, PyData.depth]
      exact ⟨h1, by omega⟩
  · intro fl xs ih n h
    cases n with
    | zero => simp [plainN] at h
    | succ n =>
      simp only [plainN] at h
      obtain ⟨h1, h2⟩ := ih n h
      simp only [pd, PyData.canLay0, PyData.depth]
      exact ⟨h1, by omega⟩
  · intro fl c ns xs ih n h; simp [plainN] at h
  · intro n h; simp [pds, PyData.canLayAll0, PyData.depthAll]
  · intro d r i1 i2 n h
    simp only [plainNs, Bool.and_eq_true] at h
    obtain ⟨h1, h2⟩ := i1 n h.1
    obtain ⟨h3, h4⟩ := i2 n h.2
    simp only [pds, PyData.canLayAll0, PyData.depthAll, h1, h3, Bool.and_true, true_and]
    omega
theorem eqd_all : (∀ d e n m, plainN n d = true → plainN m e = true → PyData.eqv (pd d) (pd e) = eqd d e) ∧ ∀ ds es n m, plainNs n ds = true → plainNs m es = true → PyData.eqvAll (pds ds) (pds es) = eqds ds es := by
  refine D.ind ?_ ?_ ?_ ?_ ?_ ?_ ?_ ?_ ?_ ?_ ?_ ?_
  · intro e n m h k; cases e <;> simp_all [pd, PyData.eqv, eqd, plainN]
  · intro b e n m h k; cases e <;> simp_all [pd, PyData.eqv, eqd, plainN]
  · intro b e n m h k; cases e <;> simp_all [pd, PyData.eqv, eqd, plainN]
  · intro b e n m h k; cases e <;> simp_all [pd, PyData.eqv, eqd, plainN]
  · intro b e n m h; simp [plainN] at h
  · intro b e n m h; simp [plainN] at h
  · intro e n m h; simp [plainN] at h
  · intro xs ih e n m h k
    cases n with
    | zero => simp [plainN] at h
    | succ n =>
      simp only [plainN] at h
      cases e with
      | tup ys =>
        cases m with
        | zero => simp [plainN] at k
        | succ m =>
          simp only [plainN] at k
          simp only [pd, PyData.eqv, eqd]
          exact ih ys n m h k
      | _ => simp_all [pd, PyData.eqv, eqd, plainN]
  · intro fl xs ih e n m h k
    cases n with
    | zero => simp [plainN] at h
    | succ n =>
      simp only [plainN] at h
      cases e with
      | lst fl' ys =>
        cases m with
        | zero => simp [plainN] at k
        | succ m =>
          simp only [plainN] at k
          simp only [pd, PyData.eqv, eqd]
          exact ih ys n m h k
      | _ => simp_all [pd, PyData.eqv, eqd, plainN]
  · intro fl c ns xs ih e n m h; simp [plainN] at h
  · intro es n m h k; cases es <;> simp [pds, PyData.eqvAll, eqds]
  · intro d r i1 i2 es n m h k
    simp only [plainNs, Bool.and_eq_true] at h
    cases es with
    | nil => simp [pds, PyData.eqvAll, eqds]
    | cons e es =>
      simp only [plainNs, Bool.and_eq_true] at k
      simp only [pds, PyData.eqvAll, eqds]
      rw [i1 e n m h.1 k.1, i2 es n m h.2 k.2]
theorem dp_all {w : Gw} {G H : Hp} {env : Env} {L : List Int} {σ : L2.St} {fp : List Addr} (R : Rel w G env L σ H fp) : (∀ d n v, plainN n d = true → RD w G H d v [] → Dp w.K H v (pd d)) ∧ ∀ ds n vs, plainNs n ds = true → RDs w G H ds vs [] → DpAll w.K H vs (pds ds) := by
  refine D.ind ?_ ?_ ?_ ?_ ?_ ?_ ?_ ?_ ?_ ?_ ?_ ?_
  · intro n v h r; rw [r.non_of]; exact .non
  · intro b n v h r; rw [r.bl_of]; exact .bl b
  · intro b n v h r; rw [r.int_of]; exact .int b
  · intro b n v h r; rw [r.str_of]; exact .str b
  · intro b n v h; simp [plainN] at h
  · intro b n v h; simp [plainN] at h
  · intro n v h; simp [plainN] at h
  · intro xs ih n v h r
    obtain ⟨a, vs, rfl, hq, d, k⟩ := r.tup_of R
    cases n with
    | zero => simp [plainN] at h
    | succ n => simp only [plainN] at h; exact .tup hq (ih n vs h d)
  · intro fl xs ih n v h r
    obtain ⟨a, vs, rfl, hq, d, k⟩ := r.lst_of R
    cases n with
    | zero => simp [plainN] at h
    | succ n => simp only [plainN] at h; exact .lst hq (ih n vs h d)
  · intro fl c ns xs ih n v h; simp [plainN] at h
  · intro n vs h r; rw [r.nil_of]; exact .nil
  · intro d r i1 i2 n vs h q
    obtain ⟨v, us, rfl, h1, h2⟩ := q.cons_of
    simp only [plainNs, Bool.and_eq_true] at h
    exact .cons (i1 n v h.1 h1) (i2 n us h.2 h2)
theorem shaped_of {d : D} (h : plainN 60 d = true) : SeqAt.shaped (pd d) = true := by
  obtain ⟨h1, h2⟩ := plain_all.1 d 60 h
  unfold SeqAt.shaped
  rw [h1, Bool.true_and]
  exact decide_eq_true (by omega)
def eqD (x y : D) (L : List Int) : Res D := if plainN 60 x && plainN 60 y then .ok (.bl (eqd x y)) L else .stuck
def neD (x y : D) (L : List Int) : Res D := if plainN 60 x && plainN 60 y then .ok (.bl (!eqd x y)) L else .stuck
section
variable {X : Cx}
theorem od_eq : OpD X (rEqD X.K) eqD := by
  intro w G env L σ H fp W x y v u Q hK hM R d1 d2 h
  unfold eqD at h
  split at h
  · rename_i c
    simp only [Bool.and_eq_true] at c
    refine ⟨pd x, pd y, hK ▸ (dp_all R).1 x 60 v c.1 d1, hK ▸ (dp_all R).1 y 60 u c.2 d2, shaped_of c.1, shaped_of c.2, ?_⟩
    rw [eqd_all.1 x y 60 60 c.1 c.2]
    exact h.done R (.bl _)
  · exact h.elim
theorem od_ne : OpD X (rNeD X.K) neD := by
  intro w G env L σ H fp W x y v u Q hK hM R d1 d2 h
  unfold neD at h
  split at h
  · rename_i c
    simp only [Bool.and_eq_true] at c
    refine ⟨pd x, pd y, hK ▸ (dp_all R).1 x 60 v c.1 d1, hK ▸ (dp_all R).1 y 60 u c.2 d2, shaped_of c.1, shaped_of c.2, ?_⟩
    rw [eqd_all.1 x y 60 60 c.1 c.2]
    exact h.done R (.bl _)
  · exact h.elim
end
/-! ### arithmetic -/
def notKz : Fl → Bool | .kz => false | _ => true
def addD : D → D → List Int → Res D
  | .int i, .int j, L => .ok (.int (i + j)) L
  | .tup xs, .tup ys, L => if okLen (xs.length + ys.length) then .ok (.tup (xs ++ ys)) L else .stuck
  | .lst f xs, .lst g ys, L => if okLen (xs.length + ys.length) && notKz f && notKz g && okfs isFz xs && okfs isFz ys then .ok (.lst .ow (xs ++ ys)) L else .stuck
  | .str x, .str y, L => if okLen (x.length + y.length) then .ok (.str (x ++ y)) L else .stuck
  | _, _, _ => .stuck
def subD : D → D → List Int → Res D
  | .int i, .int j, L => .ok (.int (i - j)) L
  | _, _, _ => .stuck
/-- factors that may be multiplied -/
def mulOk (i j : Int) : Bool := decide (-(2 ^ 64) < i ∧ i < 2 ^ 64) || decide (-(2 ^ 64) < j ∧ j < 2 ^ 64) || decide (i.natAbs.log2 + j.natAbs.log2 < 1000000)
def mulD : D → D → List Int → Res D
  | .int i, .int j, L => if mulOk i j then .ok (.int (i * j)) L else .stuck
  | .lst f xs, .int k, L => if okLen (xs.length * k.toNat) && notKz f && okfs isFz xs && decide (-(2 ^ 63) ≤ k ∧ k < 2 ^ 63) then .ok (.lst .ow (List.replicate k.toNat xs).flatten) L else .stuck
  | _, _, _ => .stuck
def fdivOk (j : Int) : Bool := decide (j ≠ 0 ∧ j.natAbs < 1073741824) || decide (0 < j ∧ j.natAbs.log2 < 9000)
def fdivD : D → D → List Int → Res D
  | .int i, .int j, L => if fdivOk j then .ok (.int (i.fdiv j)) L else .stuck
  | _, _, _ => .stuck
def modD : D → D → List Int → Res D
  | .int i, .int j, L => if j = 0 then .stuck else .ok (.int (i.fmod j)) L
  | _, _, _ => .stuck
def powD : D → D → List Int → Res D
  | .int i, .int j, L => if 0 ≤ j ∧ j ≤ 1000000 ∧ i.natAbs < 2 ^ 64 then .ok (.int (i ^ j.toNat)) L else .stuck
  | _, _, _ => .stuck
def negD : D → List Int → Res D
  | .int i, L => .ok (.int (-i)) L
  | _, _ => .stuck
/-! ### order -/
def ints? : List D → Option (List Int)
  | [] => some []
  | .int i :: r => (ints? r).map (i :: ·)
  | _ => none
def cmpD (p : Int → Int → Bool) : D → D → List Int → Res D
  | .int i, .int j, L => .ok (.bl (p i j)) L
  | _, _, _ => .stuck
def ltD : D → D → List Int → Res D
  | .int i, .int j, L => .ok (.bl (decide (i < j))) L
  | .tup xs, .tup ys, L => match ints? xs, ints? ys with
    | some ns, some ms => .ok (.bl (HT.lexLt ns ms)) L
    | _, _ => .stuck
  | _, _, _ => .stuck
def leD : D → D → List Int → Res D
  | .int i, .int j, L => .ok (.bl (decide (i ≤ j))) L
  | .tup xs, .tup ys, L => match ints? xs, ints? ys with
    | some ns, some ms => .ok (.bl (Ob.lexAt (fun j => decide (ns.getD j 0 = ms.getD j 0)) (fun j => decide (ns.getD j 0 ≤ ms.getD j 0)) (decide (ns.length ≤ ms.length)) 0 (min ns.length ms.length))) L
    | _, _ => .stuck
  | _, _, _ => .stuck
def gtD : D → D → List Int → Res D := cmpD fun i j => decide (j < i)
def geD : D → D → List Int → Res D := cmpD fun i j => decide (j ≤ i)
/-! ### identity with None, of truth values -/
def isNonD : D → Bool | .non => true | _ => false
def isD : D → D → List Int → Res D
  | x, .non, L => .ok (.bl (isNonD x)) L
  | .bl a, .bl b, L => .ok (.bl (decide (a = b))) L
  | _, _, _ => .stuck
def isNotD : D → D → List Int → Res D
  | x, .non, L => .ok (.bl (!isNonD x)) L
  | .bl a, .bl b, L => .ok (.bl (!decide (a = b))) L
  | _, _, _ => .stuck
/-! ### in -/
def inD : D → D → List Int → Res D
  | x, .lst f xs, L => if plainN 60 x && plainN 60 (.lst f xs) then .ok (.bl (xs.any fun z => eqd z x)) L else .stuck
  | x, .tup xs, L => if plainN 0 x && plainNs 0 xs then .ok (.bl (xs.any fun z => eqd z x)) L else .stuck
  | _, _, _ => .stuck
def notInD : D → D → List Int → Res D
  | x, .lst f xs, L => if plainN 60 x && plainN 60 (.lst f xs) then .ok (.bl (!xs.any fun z => eqd z x)) L else .stuck
  | x, .tup xs, L => if plainN 0 x && plainNs 0 xs then .ok (.bl (!xs.any fun z => eqd z x)) L else .stuck
  | _, _, _ => .stuck

section
variable {X : Cx}
abbrev rAddS : R2 := fun x y H Q => ∃ i j, x = .str i ∧ y = .str j ∧ i.length + j.length ≤ sizeLine ∧ Q (.str (i ++ j)) H
abbrev rAdd (K : PySem.W.Frag) : R2 := fun x y H Q => rI0 (fun i j => .int (i + j)) x y H Q ∨ (fun x y H Q => rCatA K x y H Q ∨ (fun x y H Q => rCat x y H Q ∨ rAddS x y H Q) x y H Q) x y H Q
theorem op_addA : OpR X (binaryOp .Add) (rAdd X.K) := op_add.or (op_catA.or (op_cat.or op_add_str))
theorem RDs.isNil {w : Gw} {G H : Hp} {xs : List D} {vs : List V} {f : List Addr} (h : RDs w G H xs vs f) : vs = [] → xs = [] := fun e => by
  have := h.len
  rw [e] at this
  exact List.length_eq_zero_iff.mp this
theorem notKz_ne {f : Fl} (h : notKz f = true) : f ≠ .kz := by intro e; subst e; cases h
theorem od_add : OpD X (rAdd X.K) addD := by
  intro w G env L σ H fp W x y v u Q hK hM R d1 d2 h
  unfold addD at h
  split at h
  · exact .inl ⟨_, _, d1.int_of, d2.int_of, h.done R (.int _)⟩
  · rename_i xs ys
    split at h
    · rename_i c
      obtain ⟨a, vs, rfl, hq, r1, k1⟩ := d1.tup_of R
      obtain ⟨b, us, rfl, hq2, r2, k2⟩ := d2.tup_of R
      have kk : okfs isFz (xs ++ ys) = true := by
        have : ∀ (as bs : List D), okfs isFz as = true → okfs isFz bs = true → okfs isFz (as ++ bs) = true := by
          intro as
          induction as with
          | nil => intro bs _ h; exact h
          | cons z r ih => intro bs h1 h2; simp only [List.cons_append, okfs, Bool.and_eq_true] at h1 ⊢; exact ⟨h1.1, ih bs h1.2 h2⟩
        exact this xs ys k1 k2
      refine .inr (.inl ⟨a, b, vs, us, rfl, rfl, hK ▸ hq, hK ▸ hq2, by rw [← r1.len, ← r2.len]; exact okLen_size c, fun e => ?_, fun _ e => ?_, fun _ _ p n => h.newT R (r1.append r2) kk p n⟩)
      · obtain rfl := r1.isNil e
        exact h.done R d2
      · obtain rfl := r2.isNil e
        rw [List.append_nil] at h
        exact h.done R d1
    · exact h.elim
  · rename_i f xs g ys
    split at h
    · rename_i c
      simp only [Bool.and_eq_true] at c
      obtain ⟨⟨⟨⟨c1, c2⟩, c3⟩, c4⟩, c5⟩ := c
      obtain ⟨a, vs, rfl, hq, r1, k1⟩ := d1.lst_of R
      obtain ⟨b, us, rfl, hq2, r2, k2⟩ := d2.lst_of R
      have kk : okfs isFz (xs ++ ys) = true := by
        have : ∀ (as bs : List D), okfs isFz as = true → okfs isFz bs = true → okfs isFz (as ++ bs) = true := by
          intro as
          induction as with
          | nil => intro bs _ h; exact h
          | cons z r ih => intro bs h1 h2; simp only [List.cons_append, okfs, Bool.and_eq_true] at h1 ⊢; exact ⟨h1.1, ih bs h1.2 h2⟩
        exact this xs ys c4 c5
      exact .inr (.inr (.inl ⟨a, b, vs, us, rfl, rfl, k1 (notKz_ne c2), k2 (notKz_ne c3), by rw [← r1.len, ← r2.len]; exact okLen_size c1, h.newL R (r1.append r2) ((okf_imp fz_sto).2 _ kk)⟩))
    · exact h.elim
  · split at h
    · rename_i c
      exact .inr (.inr (.inr ⟨_, _, d1.str_of, d2.str_of, okLen_size c, h.done R (.str _)⟩))
    · exact h.elim
  · exact h.elim
theorem od_sub : OpD X (rI0 fun i j => .int (i - j)) subD := by
  intro w G env L σ H fp W x y v u Q hK hM R d1 d2 h
  unfold subD at h
  split at h
  · exact ⟨_, _, d1.int_of, d2.int_of, h.done R (.int _)⟩
  · exact h.elim
abbrev rMul : R2 := fun x y H Q => rI CMul (fun i j => .int (i * j)) x y H Q ∨ (fun x y H Q => rI CMulW (fun i j => .int (i * j)) x y H Q ∨ rRep x y H Q) x y H Q
theorem op_mulA : OpR X (binaryOp .Mult) rMul := op_mul.or (op_mulW.or op_rep)
theorem okfs_rep {xs : List D} (h : okfs isFz xs = true) : ∀ n, okfs isFz (List.replicate n xs).flatten = true
  | 0 => rfl
  | n + 1 => by
    have app : ∀ (as bs : List D), okfs isFz as = true → okfs isFz bs = true → okfs isFz (as ++ bs) = true := by
      intro as
      induction as with
      | nil => intro bs _ h; exact h
      | cons z r ih => intro bs h1 h2; simp only [List.cons_append, okfs, Bool.and_eq_true] at h1 ⊢; exact ⟨h1.1, ih bs h1.2 h2⟩
    rw [List.replicate_succ, List.flatten_cons]
    exact app _ _ h (okfs_rep h n)
theorem RDs.rep {w : Gw} {G H : Hp} {xs : List D} {vs : List V} (h : RDs w G H xs vs []) : ∀ n, RDs w G H (List.replicate n xs).flatten (List.replicate n vs).flatten []
  | 0 => RDs.nil
  | n + 1 => by
    rw [List.replicate_succ, List.flatten_cons, List.replicate_succ, List.flatten_cons]
    exact h.append (RDs.rep h n)
theorem od_mul : OpD X rMul mulD := by
  intro w G env L σ H fp W x y v u Q hK hM R d1 d2 h
  unfold mulD at h
  split at h
  · split at h
    · rename_i c
      unfold mulOk at c
      simp only [Bool.or_eq_true, decide_eq_true_eq] at c
      rcases c with (c | c) | c
      · exact .inl ⟨_, _, d1.int_of, d2.int_of, .inl c, h.done R (.int _)⟩
      · exact .inl ⟨_, _, d1.int_of, d2.int_of, .inr c, h.done R (.int _)⟩
      · exact .inr (.inl ⟨_, _, d1.int_of, d2.int_of, c, h.done R (.int _)⟩)
    · exact h.elim
  · rename_i f xs k
    split at h
    · rename_i c
      simp only [Bool.and_eq_true, decide_eq_true_eq] at c
      obtain ⟨⟨⟨c1, c2⟩, c3⟩, c4⟩ := c
      obtain ⟨a, vs, rfl, hq, r1, k1⟩ := d1.lst_of R
      exact .inr (.inr ⟨a, k, vs, rfl, d2.int_of, k1 (notKz_ne c2), c4.1, c4.2, by rw [← r1.len]; exact okLen_size c1, h.newL R (r1.rep _) ((okf_imp fz_sto).2 _ (okfs_rep c3 _))⟩)
    · exact h.elim
  · exact h.elim
abbrev rFdiv : R2 := fun x y H Q => rI CDivN (fun i j => .int (i.fdiv j)) x y H Q ∨ rI CDivW (fun i j => .int (i / j)) x y H Q
theorem op_fdivA : OpR X (binaryOp .FloorDiv) rFdiv := op_fdivN.or op_fdivW
theorem od_fdiv : OpD X rFdiv fdivD := by
  intro w G env L σ H fp W x y v u Q hK hM R d1 d2 h
  unfold fdivD at h
  split at h
  · rename_i i j
    split at h
    · rename_i c
      unfold fdivOk at c
      simp only [Bool.or_eq_true, decide_eq_true_eq] at c
      rcases c with c | c
      · exact .inl ⟨_, _, d1.int_of, d2.int_of, c, h.done R (.int _)⟩
      · refine .inr ⟨_, _, d1.int_of, d2.int_of, c, ?_⟩
        rw [Int.fdiv_eq_ediv_of_nonneg _ (Int.le_of_lt c.1)] at h
        exact h.done R (.int _)
    · exact h.elim
  · exact h.elim
theorem od_mod : OpD X (rI (fun _ j => j ≠ 0) fun i j => .int (i.fmod j)) modD := by
  intro w G env L σ H fp W x y v u Q hK hM R d1 d2 h
  unfold modD at h
  split at h
  · split at h
    · exact h.elim
    · rename_i c
      exact ⟨_, _, d1.int_of, d2.int_of, c, h.done R (.int _)⟩
  · exact h.elim
theorem od_pow : OpD X (rI CPow fun i j => .int (i ^ j.toNat)) powD := by
  intro w G env L σ H fp W x y v u Q hK hM R d1 d2 h
  unfold powD at h
  split at h
  · split at h
    · rename_i c
      exact ⟨_, _, d1.int_of, d2.int_of, c, h.done R (.int _)⟩
    · exact h.elim
  · exact h.elim
theorem ud_neg : UnD X (rU fun i => .int (-i)) negD := by
  intro w G env L σ H fp W x v Q hK hM R d1 h
  unfold negD at h
  split at h
  · exact ⟨_, d1.int_of, h.done R (.int _)⟩
  · exact h.elim
theorem od_cmp {p : Int → Int → Bool} : OpD X (rI0 fun i j => .bl (p i j)) (cmpD p) := by
  intro w G env L σ H fp W x y v u Q hK hM R d1 d2 h
  unfold cmpD at h
  split at h
  · exact ⟨_, _, d1.int_of, d2.int_of, h.done R (.bl _)⟩
  · exact h.elim
theorem ints_of {w : Gw} {G H : Hp} : ∀ {xs : List D} {ns : List Int} {vs : List V}, ints? xs = some ns → RDs w G H xs vs [] → vs = ns.map V.int
  | [], _, _, e, h => by
    simp only [ints?, Option.some.injEq] at e
    subst e
    rw [h.nil_of]; rfl
  | x :: xs, _, _, e, h => by
    cases x with
    | int i =>
      simp only [ints?, Option.map_eq_some_iff] at e
      obtain ⟨ns, e, rfl⟩ := e
      obtain ⟨v, us, rfl, h1, h2⟩ := h.cons_of
      rw [h1.int_of, ints_of e h2]; rfl
    | _ => simp [ints?] at e
abbrev rLtA (K : PySem.W.Frag) : R2 := fun x y H Q => rI0 (fun i j => .bl (decide (i < j))) x y H Q ∨ rLtT K x y H Q
theorem op_ltA (hu : X.A.units < cLine) : OpR X (compareOp .Lt) (rLtA X.K) := op_lt.or (op_ltT hu)
theorem od_lt : OpD X (rLtA X.K) ltD := by
  intro w G env L σ H fp W x y v u Q hK hM R d1 d2 h
  unfold ltD at h
  split at h
  · exact .inl ⟨_, _, d1.int_of, d2.int_of, h.done R (.bl _)⟩
  · split at h
    · rename_i ns ms e1 e2
      obtain ⟨a, vs, rfl, hq, r1, k1⟩ := d1.tup_of R
      obtain ⟨b, us, rfl, hq2, r2, k2⟩ := d2.tup_of R
      rw [ints_of e1 r1] at hq
      rw [ints_of e2 r2] at hq2
      exact .inr ⟨a, b, ns, ms, rfl, rfl, hK ▸ hq, hK ▸ hq2, h.done R (.bl _)⟩
    · exact h.elim
  · exact h.elim
abbrev rLeA (K : PySem.W.Frag) : R2 := fun x y H Q => rI0 (fun i j => .bl (decide (i ≤ j))) x y H Q ∨ rLeT K x y H Q
theorem op_leA (hu : X.A.units < cLine) : OpR X (compareOp .LtE) (rLeA X.K) := op_le.or (op_leT hu)
theorem od_le : OpD X (rLeA X.K) leD := by
  intro w G env L σ H fp W x y v u Q hK hM R d1 d2 h
  unfold leD at h
  split at h
  · exact .inl ⟨_, _, d1.int_of, d2.int_of, h.done R (.bl _)⟩
  · split at h
    · rename_i ns ms e1 e2
      obtain ⟨a, vs, rfl, hq, r1, k1⟩ := d1.tup_of R
      obtain ⟨b, us, rfl, hq2, r2, k2⟩ := d2.tup_of R
      rw [ints_of e1 r1] at hq
      rw [ints_of e2 r2] at hq2
      exact .inr ⟨a, b, ns, ms, rfl, rfl, hK ▸ hq, hK ▸ hq2, h.done R (.bl _)⟩
    · exact h.elim
  · exact h.elim
theorem isNon_of {w : Gw} {G H : Hp} {x : D} {v : V} (d : RD w G H x v []) : decide (v = .non) = isNonD x := by
  cases x with
  | non => rw [d.non_of]; rfl
  | bl b => rw [d.bl_of]; rfl
  | int b => rw [d.int_of]; rfl
  | str b => rw [d.str_of]; rfl
  | ty b => rw [d.ty_of]; rfl
  | cls c => simp only [RD] at d; obtain ⟨a, rfl, _⟩ := d; rfl
  | tok => simp only [RD] at d; obtain ⟨a, rfl, _⟩ := d; rfl
  | tup xs => simp only [RD] at d; obtain ⟨a, _, rfl, _⟩ := d; rfl
  | lst f xs => simp only [RD] at d; obtain ⟨a, _, _, rfl, _⟩ := d; rfl
  | obj f c ns xs => simp only [RD] at d; obtain ⟨a, _, _, _, _, rfl, _⟩ := d; rfl
abbrev rIsN' : R2 := fun x y H Q => y = .non ∧ Q (.bl (decide (x = .non))) H
abbrev rIsA : R2 := fun x y H Q => rIsN' x y H Q ∨ rIsB x y H Q
abbrev rNotN' : R2 := fun x y H Q => y = .non ∧ Q (.bl (!decide (x = .non))) H
abbrev rNotA : R2 := fun x y H Q => rNotN' x y H Q ∨ rNotB x y H Q
theorem op_isA : OpR X (compareOp .Is) rIsA := op_isN.or op_isBl
theorem op_isNotA : OpR X (compareOp .IsNot) rNotA := op_notN.or op_notBl
theorem od_is : OpD X rIsA isD := by
  intro w G env L σ H fp W x y v u Q hK hM R d1 d2 h
  unfold isD at h
  split at h
  · refine .inl ⟨d2.non_of, ?_⟩
    rw [isNon_of d1]
    exact h.done R (.bl _)
  · exact .inr ⟨_, _, d1.bl_of, d2.bl_of, h.done R (.bl _)⟩
  · exact h.elim
theorem od_isNot : OpD X rNotA isNotD := by
  intro w G env L σ H fp W x y v u Q hK hM R d1 d2 h
  unfold isNotD at h
  split at h
  · refine .inl ⟨d2.non_of, ?_⟩
    rw [isNon_of d1]
    exact h.done R (.bl _)
  · exact .inr ⟨_, _, d1.bl_of, d2.bl_of, h.done R (.bl _)⟩
  · exact h.elim
end
end Qd

set_option Elab.async false
set_option linter.all false
set_option maxRecDepth 100000
set_option maxHeartbeats 4000000
namespace Qd
open PySem PySem.Spec PyProof.Rows L2

/-! ### calls of built-ins on values -/
def lenD : List D → List Int → Res D
  | [.lst _ xs], L => .ok (.int (xs.length : Int)) L
  | [.tup xs], L => .ok (.int (xs.length : Int)) L
  | [.str x], L => if okLen x.length then .ok (.int (x.length : Int)) L else .stuck
  | [.tok], L => .ok (.int (L.length : Int)) L
  | _, _ => .stuck
def intD : List D → List Int → Res D
  | [.int i], L => .ok (.int i) L
  | [.bl k], L => .ok (.int (if k then 1 else 0)) L
  | _, _ => .stuck
def boolD : List D → List Int → Res D
  | [.int i], L => .ok (.bl (i != 0)) L
  | [.bl k], L => .ok (.bl k) L
  | _, _ => .stuck
def absD : List D → List Int → Res D
  | [.int i], L => .ok (.int (if i < 0 then -i else i)) L
  | _, _ => .stuck
def min2D : List D → List Int → Res D
  | [.int i, .int j], L => .ok (.int (if j < i then j else i)) L
  | _, _ => .stuck
def max2D : List D → List Int → Res D
  | [.int i, .int j], L => .ok (.int (if j > i then j else i)) L
  | _, _ => .stuck
def listD : List D → List Int → Res D
  | [.lst _ xs], L => if okfs isFz xs then .ok (.lst .ow xs) L else .stuck
  | [.tup xs], L => .ok (.lst .ow xs) L
  | _, _ => .stuck
def tupleD : List D → List Int → Res D
  | [.lst _ xs], L => if okfs isFz xs then .ok (.tup xs) L else .stuck
  | [.tup xs], L => .ok (.tup xs) L
  | _, _ => .stuck
def bls? : List D → Option (List Bool)
  | [] => some []
  | .bl i :: r => (bls? r).map (i :: ·)
  | _ => none
def sumD : List D → List Int → Res D
  | [.lst _ xs], L => match ints? xs with
    | some ns => .ok (.int ns.sum) L
    | none => .stuck
  | _, _ => .stuck
def allD : List D → List Int → Res D
  | [.lst _ xs], L => match bls? xs with
    | some bs => .ok (.bl (bs.all id)) L
    | none => .stuck
  | _, _ => .stuck
def anyD : List D → List Int → Res D
  | [.lst _ xs], L => match bls? xs with
    | some bs => .ok (.bl (bs.any id)) L
    | none => .stuck
  | _, _ => .stuck
def maxOf : Int → List Int → Int
  | m, [] => m
  | m, x :: r => maxOf (if m < x then x else m) r
def minOf : Int → List Int → Int
  | m, [] => m
  | m, x :: r => minOf (if x < m then x else m) r
def maxD : List D → List Int → Res D
  | [.lst _ xs], L => match ints? xs with
    | some (n :: r) => .ok (.int (maxOf n r)) L
    | _ => .stuck
  | _, _ => .stuck
def minD : List D → List Int → Res D
  | [.lst _ xs], L => match ints? xs with
    | some (n :: r) => .ok (.int (minOf n r)) L
    | _ => .stuck
  | _, _ => .stuck
def insI (x : Int) : List Int → List Int
  | [] => [x]
  | y :: r => if x ≤ y then x :: y :: r else y :: insI x r
def sortI : List Int → List Int
  | [] => []
  | x :: r => insI x (sortI r)
def sortedD : List D → List Int → Res D
  | [.lst _ xs], L => match ints? xs with
    | some ns => .ok (.lst .ow ((sortI ns).map D.int)) L
    | _ => .stuck
  | _, _ => .stuck

theorem insI_perm (x : Int) : ∀ l, (insI x l).Perm (x :: l)
  | [] => .refl _
  | y :: r => by
    unfold insI
    split
    · exact .refl _
    · exact ((insI_perm x r).cons y).trans (.swap x y r)
theorem sortI_perm : ∀ l, (sortI l).Perm l
  | [] => .refl _
  | x :: r => (insI_perm x _).trans ((sortI_perm r).cons x)
theorem insI_sorted (x : Int) : ∀ l, l.Pairwise (· ≤ ·) → (insI x l).Pairwise (· ≤ ·)
  | [], _ => by simp [insI]
  | y :: r, h => by
    unfold insI
    split
    · rename_i c
      rw [List.pairwise_cons] at h
      refine List.pairwise_cons.mpr ⟨fun z hz => ?_, List.pairwise_cons.mpr h⟩
      rcases List.mem_cons.mp hz with rfl | hz
      · exact c
      · exact Int.le_trans c (h.1 z hz)
    · rename_i c
      rw [List.pairwise_cons] at h
      refine List.pairwise_cons.mpr ⟨fun z hz => ?_, insI_sorted x r h.2⟩
      rcases List.mem_cons.mp ((insI_perm x r).mem_iff.mp hz) with rfl | hz
      · omega
      · exact h.1 z hz
theorem sortI_sorted : ∀ l, (sortI l).Pairwise (· ≤ ·)
  | [] => List.Pairwise.nil
  | x :: r => insI_sorted x _ (sortI_sorted r)
theorem sorted_one : ∀ {l l' : List Int}, l.Perm l' → l.Pairwise (· ≤ ·) → l'.Pairwise (· ≤ ·) → l = l'
  | [], l', p, _, _ => (List.nil_perm.mp p).symm
  | x :: r, [], p, _, _ => absurd p.symm (by simp)
  | x :: r, y :: s, p, h1, h2 => by
    rw [List.pairwise_cons] at h1 h2
    have e : x = y := by
      have m1 := p.mem_iff (a := x)
      have m2 := p.mem_iff (a := y)
      simp only [List.mem_cons, true_or, true_iff, iff_true] at m1 m2
      rcases m1 with e | m1
      · exact e
      · rcases m2 with e | m2
        · exact e.symm
        · have := h1.1 y m2
          have := h2.1 x m1
          omega
    subst e
    rw [sorted_one (p.cons_inv) h1.2 h2.2]
theorem maxOf_mem : ∀ (r : List Int) (m : Int), maxOf m r ∈ m :: r ∧ ∀ y ∈ m :: r, y ≤ maxOf m r
  | [], m => by simp [maxOf]
  | x :: r, m => by
    unfold maxOf
    by_cases c : m < x
    · rw [if_pos c]
      obtain ⟨h1, h2⟩ := maxOf_mem r x
      have hm := h2 _ (List.mem_cons_self ..)
      refine ⟨List.mem_cons_of_mem _ h1, fun y hy => ?_⟩
      rcases List.mem_cons.mp hy with rfl | hy
      · omega
      · exact h2 y hy
    · rw [if_neg c]
      obtain ⟨h1, h2⟩ := maxOf_mem r m
      have hm := h2 _ (List.mem_cons_self ..)
      refine ⟨?_, fun y hy => ?_⟩
      · rcases List.mem_cons.mp h1 with e | h
        · rw [e]; simp
        · simp [h]
      · rcases List.mem_cons.mp hy with rfl | hy
        · exact hm
        · rcases List.mem_cons.mp hy with rfl | hy
          · omega
          · exact h2 y (List.mem_cons_of_mem _ hy)
theorem minOf_mem : ∀ (r : List Int) (m : Int), minOf m r ∈ m :: r ∧ ∀ y ∈ m :: r, minOf m r ≤ y
  | [], m => by simp [minOf]
  | x :: r, m => by
    unfold minOf
    by_cases c : x < m
    · rw [if_pos c]
      obtain ⟨h1, h2⟩ := minOf_mem r x
      have hm := h2 _ (List.mem_cons_self ..)
      refine ⟨List.mem_cons_of_mem _ h1, fun y hy => ?_⟩
      rcases List.mem_cons.mp hy with rfl | hy
      · omega
      · exact h2 y hy
    · rw [if_neg c]
      obtain ⟨h1, h2⟩ := minOf_mem r m
      have hm := h2 _ (List.mem_cons_self ..)
      refine ⟨?_, fun y hy => ?_⟩
      · rcases List.mem_cons.mp h1 with e | h
        · rw [e]; simp
        · simp [h]
      · rcases List.mem_cons.mp hy with rfl | hy
        · exact hm
        · rcases List.mem_cons.mp hy with rfl | hy
          · omega
          · exact h2 y (List.mem_cons_of_mem _ hy)
section
variable {X : Cx} {w : Gw} {G H : Hp}
theorem RDs.one_of {x : D} {vs : List V} (h : RDs w G H [x] vs []) : ∃ v, vs = [v] ∧ RD w G H x v [] := by
  obtain ⟨v, us, rfl, h1, h2⟩ := h.cons_of
  rw [h2.nil_of]
  exact ⟨v, rfl, h1⟩
theorem RDs.two_of {x y : D} {vs : List V} (h : RDs w G H [x, y] vs []) : ∃ v u, vs = [v, u] ∧ RD w G H x v [] ∧ RD w G H y u [] := by
  obtain ⟨v, us, rfl, h1, h2⟩ := h.cons_of
  obtain ⟨u, rfl, h3⟩ := h2.one_of
  exact ⟨v, u, rfl, h1, h3⟩
theorem bls_of : ∀ {xs : List D} {ns : List Bool} {vs : List V}, bls? xs = some ns → RDs w G H xs vs [] → vs = ns.map V.bl
  | [], _, _, e, h => by
    simp only [bls?, Option.some.injEq] at e
    subst e
    rw [h.nil_of]; rfl
  | x :: xs, _, _, e, h => by
    cases x with
    | bl i =>
      simp only [bls?, Option.map_eq_some_iff] at e
      obtain ⟨ns, e, rfl⟩ := e
      obtain ⟨v, us, rfl, h1, h2⟩ := h.cons_of
      rw [h1.bl_of, bls_of e h2]; rfl
    | _ => simp [bls?] at e
abbrev rLen (K : PySem.W.Frag) : List V → Hp → VK → Prop := fun xs H Q => (fun xs H Q => ∃ p ys, xs = [.ref p] ∧ (SqL K H p ys ∨ SqT K H p ys) ∧ Q (.int ys.length) H) xs H Q ∨ (fun xs H Q => ∃ z, xs = [.str z] ∧ z.length ≤ sizeLine ∧ Q (.int z.length) H) xs H Q
theorem cr_len : CallR X (.builtin "len") (rLen X.K) := call_len_seq.or call_len_str
theorem cd_len : CallD X (rLen X.K) lenD := by
  intro w G env L σ H fp W xs vs Q hK hM R d h
  unfold lenD at h
  split at h
  · obtain ⟨v, rfl, d1⟩ := d.one_of
    obtain ⟨a, us, rfl, hq, r1, k1⟩ := d1.lst_of R
    rw [r1.len] at h
    exact .inl ⟨a, us, rfl, .inl (hK ▸ hq), h.done R (.int _)⟩
  · obtain ⟨v, rfl, d1⟩ := d.one_of
    obtain ⟨a, us, rfl, hq, r1, k1⟩ := d1.tup_of R
    rw [r1.len] at h
    exact .inl ⟨a, us, rfl, .inr (hK ▸ hq), h.done R (.int _)⟩
  · split at h
    · rename_i c
      obtain ⟨v, rfl, d1⟩ := d.one_of
      rw [d1.str_of]
      exact .inr ⟨_, rfl, okLen_size c, h.done R (.int _)⟩
    · exact h.elim
  · obtain ⟨v, rfl, d1⟩ := d.one_of
    simp only [RD] at d1
    obtain ⟨a, rfl, _, e⟩ := d1
    refine .inl ⟨a, _, rfl, .inl (.of (R.st a e).1), ?_⟩
    rw [List.length_map]
    exact h.done R (.int _)
  · exact h.elim
theorem cd_int : CallD X (fun xs H Q => (∃ i, xs = [.int i] ∧ Q (.int i) H) ∨ ∃ k, xs = [.bl k] ∧ Q (.int (if k then 1 else 0)) H) intD := by
  intro w G env L σ H fp W xs vs Q hK hM R d h
  unfold intD at h
  split at h
  · obtain ⟨v, rfl, d1⟩ := d.one_of
    rw [d1.int_of]
    exact .inl ⟨_, rfl, h.done R (.int _)⟩
  · obtain ⟨v, rfl, d1⟩ := d.one_of
    rw [d1.bl_of]
    exact .inr ⟨_, rfl, h.done R (.int _)⟩
  · exact h.elim
theorem cd_bool : CallD X (fun xs H Q => (∃ i, xs = [.int i] ∧ Q (.bl (i != 0)) H) ∨ ∃ k, xs = [.bl k] ∧ Q (.bl k) H) boolD := by
  intro w G env L σ H fp W xs vs Q hK hM R d h
  unfold boolD at h
  split at h
  · obtain ⟨v, rfl, d1⟩ := d.one_of
    rw [d1.int_of]
    exact .inl ⟨_, rfl, h.done R (.bl _)⟩
  · obtain ⟨v, rfl, d1⟩ := d.one_of
    rw [d1.bl_of]
    exact .inr ⟨_, rfl, h.done R (.bl _)⟩
  · exact h.elim
theorem cd_abs : CallD X (fun xs H Q => ∃ i, xs = [.int i] ∧ Q (.int (if i < 0 then -i else i)) H) absD := by
  intro w G env L σ H fp W xs vs Q hK hM R d h
  unfold absD at h
  split at h
  · obtain ⟨v, rfl, d1⟩ := d.one_of
    rw [d1.int_of]
    exact ⟨_, rfl, h.done R (.int _)⟩
  · exact h.elim
theorem cd_min2 : CallD X (fun xs H Q => ∃ i j, xs = [.int i, .int j] ∧ Q (.int (if j < i then j else i)) H) min2D := by
  intro w G env L σ H fp W xs vs Q hK hM R d h
  unfold min2D at h
  split at h
  · obtain ⟨v, u, rfl, d1, d2⟩ := d.two_of
    rw [d1.int_of, d2.int_of]
    exact ⟨_, _, rfl, h.done R (.int _)⟩
  · exact h.elim
theorem cd_max2 : CallD X (fun xs H Q => ∃ i j, xs = [.int i, .int j] ∧ Q (.int (if j > i then j else i)) H) max2D := by
  intro w G env L σ H fp W xs vs Q hK hM R d h
  unfold max2D at h
  split at h
  · obtain ⟨v, u, rfl, d1, d2⟩ := d.two_of
    rw [d1.int_of, d2.int_of]
    exact ⟨_, _, rfl, h.done R (.int _)⟩
  · exact h.elim
theorem cd_list : CallD X (fun xs H Q => ∃ p ys, xs = [.ref p] ∧ (SqL X.K H p ys ∨ SqT X.K H p ys) ∧ ∀ l, H l = none → Q (.ref l) (upd H l (.lst ys))) listD := by
  intro w G env L σ H fp W xs vs Q hK hM R d h
  unfold listD at h
  split at h
  · split at h
    · rename_i c
      obtain ⟨v, rfl, d1⟩ := d.one_of
      obtain ⟨a, us, rfl, hq, r1, k1⟩ := d1.lst_of R
      exact ⟨a, us, rfl, .inl (hK ▸ hq), h.newL R r1 ((okf_imp fz_sto).2 _ c)⟩
    · exact h.elim
  · obtain ⟨v, rfl, d1⟩ := d.one_of
    obtain ⟨a, us, rfl, hq, r1, k1⟩ := d1.tup_of R
    exact ⟨a, us, rfl, .inr (hK ▸ hq), h.newL R r1 ((okf_imp fz_sto).2 _ k1)⟩
  · exact h.elim
theorem cd_tuple : CallD X (fun xs H Q => ∃ p ys, xs = [.ref p] ∧ ((SqL X.K H p ys ∧ ∀ l, H l = none → Q (.ref l) (upd H l (.tup ys))) ∨ (SqT X.K H p ys ∧ Q (.ref p) H))) tupleD := by
  intro w G env L σ H fp W xs vs Q hK hM R d h
  unfold tupleD at h
  split at h
  · split at h
    · rename_i c
      obtain ⟨v, rfl, d1⟩ := d.one_of
      obtain ⟨a, us, rfl, hq, r1, k1⟩ := d1.lst_of R
      exact ⟨a, us, rfl, .inl ⟨hK ▸ hq, h.newT R r1 c⟩⟩
    · exact h.elim
  · obtain ⟨v, rfl, d1⟩ := d.one_of
    have d1' := d1
    obtain ⟨a, us, rfl, hq, r1, k1⟩ := d1.tup_of R
    exact ⟨a, us, rfl, .inr ⟨hK ▸ hq, h.done R d1'⟩⟩
  · exact h.elim
theorem cd_sum : CallD X (rSum X.K) sumD := by
  intro w G env L σ H fp W xs vs Q hK hM R d h
  unfold sumD at h
  split at h
  · split at h
    · rename_i ns e
      obtain ⟨v, rfl, d1⟩ := d.one_of
      obtain ⟨a, us, rfl, hq, r1, k1⟩ := d1.lst_of R
      rw [ints_of e r1] at hq
      exact ⟨a, ns, rfl, hK ▸ hq, h.done R (.int _)⟩
    · exact h.elim
  · exact h.elim
theorem cd_all : CallD X (rAll X.K) allD := by
  intro w G env L σ H fp W xs vs Q hK hM R d h
  unfold allD at h
  split at h
  · split at h
    · rename_i ns e
      obtain ⟨v, rfl, d1⟩ := d.one_of
      obtain ⟨a, us, rfl, hq, r1, k1⟩ := d1.lst_of R
      rw [bls_of e r1] at hq
      exact ⟨a, ns, rfl, hK ▸ hq, h.done R (.bl _)⟩
    · exact h.elim
  · exact h.elim
theorem cd_any : CallD X (rAny X.K) anyD := by
  intro w G env L σ H fp W xs vs Q hK hM R d h
  unfold anyD at h
  split at h
  · split at h
    · rename_i ns e
      obtain ⟨v, rfl, d1⟩ := d.one_of
      obtain ⟨a, us, rfl, hq, r1, k1⟩ := d1.lst_of R
      rw [bls_of e r1] at hq
      exact ⟨a, ns, rfl, hK ▸ hq, h.done R (.bl _)⟩
    · exact h.elim
  · exact h.elim
theorem cd_max : CallD X (rMax X.K) maxD := by
  intro w G env L σ H fp W xs vs Q hK hM R d h
  unfold maxD at h
  split at h
  · split at h
    · rename_i n r e
      obtain ⟨v, rfl, d1⟩ := d.one_of
      obtain ⟨a, us, rfl, hq, r1, k1⟩ := d1.lst_of R
      rw [ints_of e r1] at hq
      refine ⟨a, n :: r, rfl, hK ▸ hq, by simp, fun m hm hy => ?_⟩
      have e2 : m = maxOf n r := by
        have h1 := (maxOf_mem r n).2 m hm
        have h2 := hy _ (maxOf_mem r n).1
        omega
      rw [e2]
      exact h.done R (.int _)
    · exact h.elim
  · exact h.elim
theorem cd_min : CallD X (rMin X.K) minD := by
  intro w G env L σ H fp W xs vs Q hK hM R d h
  unfold minD at h
  split at h
  · split at h
    · rename_i n r e
      obtain ⟨v, rfl, d1⟩ := d.one_of
      obtain ⟨a, us, rfl, hq, r1, k1⟩ := d1.lst_of R
      rw [ints_of e r1] at hq
      refine ⟨a, n :: r, rfl, hK ▸ hq, by simp, fun m hm hy => ?_⟩
      have e2 : m = minOf n r := by
        have h1 := (minOf_mem r n).2 m hm
        have h2 := hy _ (minOf_mem r n).1
        omega
      rw [e2]
      exact h.done R (.int _)
    · exact h.elim
  · exact h.elim
theorem RDs.ints : ∀ ns : List Int, RDs w G H (ns.map D.int) (ns.map V.int) []
  | [] => RDs.nil
  | n :: r => RDs.cons (.int n) (RDs.ints r)
theorem okfs_ints (p : Fl → Bool) : ∀ ns : List Int, okfs p (ns.map D.int) = true
  | [] => rfl
  | n :: r => okfs_ints p r
theorem cd_sorted : CallD X (rSortedI X.K) sortedD := by
  intro w G env L σ H fp W xs vs Q hK hM R d h
  unfold sortedD at h
  split at h
  · split at h
    · rename_i ns e
      obtain ⟨v, rfl, d1⟩ := d.one_of
      obtain ⟨a, us, rfl, hq, r1, k1⟩ := d1.lst_of R
      rw [ints_of e r1] at hq
      refine ⟨a, ns, rfl, hK ▸ hq, fun ns' p hp hs n => ?_⟩
      have e2 : ns' = sortI ns := sorted_one (hp.trans (sortI_perm ns).symm) hs (sortI_sorted ns)
      rw [e2]
      exact h.newL R (RDs.ints _) (okfs_ints _ _) p n
    · exact h.elim
  · exact h.elim
end

/-! ### places -/
def ixD : D → D → List Int → Res D
  | .lst _ xs, .int i, L => match atI xs i with
    | some x => .ok x L
    | none => .stuck
  | .tup xs, .int i, L => match atI xs i with
    | some x => .ok x L
    | none => .stuck
  | _, _, _ => .stuck
abbrev rIxA (K : PySem.W.Frag) : R2 := fun x y H Q => rIxL K x y H Q ∨ rIxT K x y H Q
theorem atI_RDs {w : Gw} {G H : Hp} {xs : List D} {vs : List V} {i : Int} {x : D} (h : RDs w G H xs vs []) (e : atI xs i = some x) : ∃ v, atI vs i = some v ∧ RD w G H x v [] := by
  unfold atI at e ⊢
  rw [← h.len]
  cases q : ixN xs.length i with
  | none => rw [q] at e; cases e
  | some j =>
    rw [q] at e
    exact h.get e
section
variable {X : Cx} {W : WX} {a b e : Expr} {da db : DE} {pos : Pos}
theorem ix_A : IxR X (rIxA X.K) := ix_list.or ix_tup
theorem od_ix : OpD X (rIxA X.K) ixD := by
  intro w G env L σ H fp W x y v u Q hK hM R d1 d2 h
  unfold ixD at h
  split at h
  · split at h
    · rename_i z e
      obtain ⟨p, us, rfl, hq, r1, k1⟩ := d1.lst_of R
      obtain ⟨v', e1, e2⟩ := atI_RDs r1 e
      exact .inl ⟨p, us, _, v', rfl, d2.int_of, hK ▸ hq, e1, h.done R e2⟩
    · exact h.elim
  · split at h
    · rename_i z e
      obtain ⟨p, us, rfl, hq, r1, k1⟩ := d1.tup_of R
      obtain ⟨v', e1, e2⟩ := atI_RDs r1 e
      exact .inr ⟨p, us, _, v', rfl, d2.int_of, hK ▸ hq, e1, h.done R e2⟩
    · exact h.elim
  · exact h.elim
theorem so_ix (ha : SE X W a da) (hb : SE X W b db) (hs : PlainIx b := by exact fun _ _ => rfl) : SE X W (.Subscript a b pos) (dBin ixD da db) :=
  PE_imp (pe_ix ix_A ha hb hs) fun σ H Q ⟨w, G, env, L, fp, hk, R, h⟩ =>
    ⟨w, G, env, L, fp, hk, R, h.bindF.imp fun v H1 ⟨G1, L1, x, a1, d1, h1⟩ => ⟨w, G1, env, L1, fp, hk, a1.rel, h1.bindF.imp fun u H2 ⟨G2, L2, y, a2, d2, h2⟩ => od_ix hk.1 hk.2.1 a2.rel (d1.ahead a2) d2 h2⟩⟩
/-! ### slices -/
def cutD (xs : List D) (lo hi : Option Int) : List D := (xs.drop (HT.sIx xs.length 0 lo)).take (HT.sIx xs.length xs.length hi - HT.sIx xs.length 0 lo)
def slD (lo hi : Option Int) : D → List Int → Res D
  | .lst _ xs, L => if okfs isFz (cutD xs lo hi) then .ok (.lst .ow (cutD xs lo hi)) L else .stuck
  | .tup xs, L => .ok (.tup (cutD xs lo hi)) L
  | _, _ => .stuck
end
/-! ### attributes of instances -/
def lkN (f : Str) : List Str → List D → Option D
  | n :: ns, x :: xs => if f = n then some x else lkN f ns xs
  | _, _ => none
def fldD (cs : List Str) (f : Str) : D → List Int → Res D
  | .obj _ c ns xs, L => if cs.contains c then (match lkN f ns xs with
    | some x => .ok x L
    | none => .stuck) else .stuck
  | _, _ => .stuck
theorem lkN_RDs {w : Gw} {G H : Hp} {f : Str} : ∀ {fs : List (Str × V)} {xs : List D} {x : D}, RDs w G H xs (fs.map (·.2)) [] → lkN f (fs.map (·.1)) xs = some x → ∃ v, fs.lookup f = some v ∧ RD w G H x v []
  | [], xs, x, h, e => by cases xs <;> simp [lkN] at e
  | (n, v) :: fs, [], x, h, e => by simp [lkN] at e
  | (n, v) :: fs, y :: ys, x, h, e => by
    obtain ⟨v', us, e1, h1, h2⟩ := h.cons_of
    obtain ⟨rfl, rfl⟩ := List.cons.inj e1
    simp only [List.map_cons, lkN] at e
    split at e
    · rename_i c
      subst c
      obtain rfl := Option.some.inj e
      exact ⟨v, by simp [List.lookup], h1⟩
    · rename_i c
      obtain ⟨v2, e2, h3⟩ := lkN_RDs h2 e
      have q : (f == n) = false := by simpa using c
      exact ⟨v2, by simp [List.lookup, q, e2], h3⟩
section
variable {X : Cx} {W : WX} {a b e : Expr} {da db : DE} {pos : Pos}
theorem so_fld {f : Str} {cs : List Str} (hc : ∀ c ∈ cs, ∀ C, X.mg c = some (.ref C) → Cls X.K C ∧ NoAttr X.K C f) (ha : SE X W e da) (hb : attributeBase e f X.env (eval e X.env) = eval e X.env := by rfl) : SE X W (.Attribute e f pos) (dUn (fldD cs f) da) :=
  PE_imp (pe_fld ha hb) fun σ H Q ⟨w, G, env, L, fp, hk, R, h⟩ =>
    ⟨w, G, env, L, fp, hk, R, h.bindF.imp fun v H1 ⟨G1, L1, x, a1, d1, h1⟩ => by
      unfold fldD at h1
      split at h1
      · split at h1
        · rename_i c
          split at h1
          · rename_i z e
            obtain ⟨p, C, dx, fs, rfl, hm, rfl, ho, r⟩ := d1.obj_of a1.rel fun C z => by
              rw [hk.1]; exact (hc _ (by simpa using c) C (hk.2.1 ▸ z)).1.pg
            obtain ⟨v, e1, e2⟩ := lkN_RDs r e
            obtain ⟨c1, c2⟩ := hc _ (by simpa using c) C (hk.2.1 ▸ hm)
            exact ⟨p, C, dx, fs, v, rfl, ho, c1, c2, e1, h1.done a1.rel e2⟩
          · exact h1.elim
        · exact h1.elim
      · exact h1.elim⟩
end
/-! ### isinstance -/
def tyName : D → Option String
  | .non => some "NoneType"
  | .bl _ => some "bool"
  | .int _ => some "int"
  | .str _ => some "str"
  | .lst _ _ => some "list"
  | .tup _ => some "tuple"
  | _ => none
def isiB (a n : String) : Bool := a == n || (a == "bool" && n == "int")
def tysA : List String := ["NoneType", "bool", "int", "str", "list", "tuple"]
def tysB : List String := ["int", "bool", "list", "tuple", "str"]
theorem isiB_ok : ∀ a ∈ tysA, ∀ n ∈ tysB, kitB a n = some (isiB a n) := by decide +kernel
/-- what the written part says of a class -/
structure ClsT (K : PySem.W.Frag) (mg : Str → Option Value) (c : Str) (C : Addr) : Prop where
  gC : mg c = some (.ref C)
  cl : Cls K C
  ha : PySem.W.findIn K (.ref C) "__class__" = some (some (.builtin "object.__class__"))
  hn : PySem.W.specialIn K (.builtin "object.__class__") "__get__" = some (some (.builtin "getset_descriptor.__get__"))
  htk : PySem.W.takesIn K (.builtin "object.__class__") = some true
  hm : PySem.W.mroIn K C (.type "object") = some true
def isiT (ns : List String) : D → List Int → Res D := fun x L => match tyName x with
  | some a => if ns.all tysB.contains then .ok (.bl (ns.any (isiB a))) L else .stuck
  | none => .stuck
theorem tyName_mem {x : D} {a : String} (h : tyName x = some a) : a ∈ tysA := by
  cases x <;> simp [tyName] at h <;> subst h <;> decide
theorem tyOf {w : Gw} {G H : Hp} {env : Env} {L : List Int} {σ : L2.St} {fp : List Addr} {x : D} {v : V} {a : String} (R : Rel w G env L σ H fp) (d : RD w G H x v []) (h : tyName x = some a) : TyX w.K H v (.type a) := by
  cases x with
  | non => cases h; rw [d.non_of]; exact .base .non
  | bl b => cases h; rw [d.bl_of]; exact .base (.bl b)
  | int b => cases h; rw [d.int_of]; exact .base (.int b)
  | str b => cases h; rw [d.str_of]; exact .base (.str b)
  | lst f xs =>
    cases h
    obtain ⟨p, us, rfl, hq, _⟩ := d.lst_of R
    rcases hq with (e | ⟨o, e⟩) | ⟨o, its, n, e, c, _⟩
    · exact .base (.lst e)
    · exact .base (.frz e)
    · exact .kList e c
  | tup xs =>
    cases h
    obtain ⟨p, us, rfl, hq, _⟩ := d.tup_of R
    rcases hq with (e | ⟨o, e⟩) | ⟨o, its, n, e, c, _⟩
    · exact .base (.tup e)
    · exact .fTuple e
    · exact .kTuple e c
  | _ => cases h
theorem kitAny_ok {K : PySem.W.Frag} {a : String} (ha : a ∈ tysA) : ∀ ns : List String, ns.all tysB.contains = true → PySem.W.kitAny K (.type a) (ns.map Value.type) = some (ns.any (isiB a))
  | [], _ => rfl
  | n :: r, h => by
    simp only [List.all_cons, Bool.and_eq_true] at h
    have q := kit_ty (K := K) (isiB_ok a ha n (by simpa using h.1))
    refine kitAny_cons (b := isiB a n) q (fun e => ?_) (fun e => ?_)
    · rw [kitAny_ok ha r h.2, List.any_cons, e, Bool.false_or]
    · rw [List.any_cons, e, Bool.true_or]
section
variable {X : Cx} {W : WX} {a b e : Expr} {es : List Expr} {da db : DE} {p pos : Pos}
/-- isinstance(e, T) -/
theorem so_isi1 {n : String} {t : Str} {pt : Pos} (hg : Gl X "isinstance") (hm : X.mg "isinstance" = none) (ha : SE X W e da) (gt : Gl X t) (mt : X.mg t = none) (bt : bootBuiltins t = some (.type n))
    (h1 : t ≠ "__name__" := by decide) (h2 : (t == ("__debug__" : Str)) = false := by decide)
    (hs : starEach [e, .Name t pt] X.env = (false, eval e X.env) :: starEach [.Name t pt] X.env := by rfl) (hpl : (backTo pos (starEach [.Name t pt] X.env)).any (·.1) = false := by rfl) :
    SE X W (.Call (.Name "isinstance" p) [e, .Name t pt] [] pos) (dUn (isiT [n]) da) :=
  PE_imp (pe_callB call_isi hg hm (by decide +kernel) (pa_cons ha (pa_cons (pe_bltn (v := .ty n) gt mt bt rfl h1 h2) pa_nil) hs) (by decide) (by decide) hs hpl) fun σ H Q ⟨w, G, env, L, fp, hk, R, h⟩ =>
    ⟨w, G, env, L, fp, hk, R, h.bindF.imp fun v H1 ⟨G1, L1, x, a1, d1, h1⟩ => by
      unfold isiT at h1
      split at h1
      · rename_i a' e'
        split at h1
        · rename_i c
          refine ⟨v, .ty n, .type a', .type n, isiB a' n, rfl, .ty n, hk.1 ▸ tyOf a1.rel d1 e', kit_ty (isiB_ok a' (tyName_mem e') n (by simpa using c)), ?_⟩
          simp only [List.any_cons, List.any_nil, Bool.or_false] at h1
          exact h1.done a1.rel (.bl _)
        · exact h1.elim
      · exact h1.elim⟩
/-- the written built-in types of a tuple -/
inductive TyEs (X : Cx) : List Expr → List String → Prop
  | nil : TyEs X [] []
  | cons {t : Str} {n : String} {pt : Pos} {es : List Expr} {ns : List String} (gt : Gl X t) (mt : X.mg t = none) (bt : bootBuiltins t = some (.type n)) (h1 : t ≠ "__name__" := by decide) (h2 : (t == ("__debug__" : Str)) = false := by decide)
      (hs : starEach (.Name t pt :: es) X.env = (false, eval (.Name t pt) X.env) :: starEach es X.env := by rfl) (r : TyEs X es ns) : TyEs X (.Name t pt :: es) (n :: ns)
theorem TyEs.pa {ns : List String} (h : TyEs X es ns) : PA X es (fun _ H Q => Q (ns.map V.ty) H) := by
  induction h with
  | nil => exact pa_nil
  | cons gt mt bt h1 h2 hs r ih => exact PA_imp (pa_cons (pe_bltn (v := .ty _) gt mt bt rfl h1 h2) ih hs) fun σ H Q q => q
theorem so_isiN {ns : List String} {k : Nat} {pt : Pos} (hg : Gl X "isinstance") (hm : X.mg "isinstance" = none) (ha : SE X W e da) (ht : TyEs X es ns) (hl : ns.length ≤ 100 := by decide)
    (hs : starEach [e, .Tuple es k pt] X.env = (false, eval e X.env) :: starEach [.Tuple es k pt] X.env := by rfl) (hs2 : starEach [.Tuple es k pt] X.env = (false, eval (.Tuple es k pt) X.env) :: starEach [] X.env := by rfl) (hpl : (backTo pos (starEach [.Tuple es k pt] X.env)).any (·.1) = false := by rfl) :
    SE X W (.Call (.Name "isinstance" p) [e, .Tuple es k pt] [] pos) (dUn (isiT ns) da) :=
  PE_imp (pe_callB call_isiT hg hm (by decide +kernel) (pa_cons ha (pa_cons (pe_tup ht.pa) pa_nil hs2) hs) (by decide) (by decide) hs hpl) fun σ H Q ⟨w, G, env, L, fp, hk, R, h⟩ =>
    ⟨w, G, env, L, fp, hk, R, h.bindF.imp fun v H1 ⟨G1, L1, x, a1, d1, h1⟩ => by
      refine ⟨by rw [List.length_map, sizeLine_eq]; omega, fun tp n => ?_⟩
      have a2 := Ahead.push (o := .tup (ns.map V.ty)) a1.rel n
      unfold isiT at h1
      split at h1
      · rename_i a' e'
        split at h1
        · rename_i c
          have pr : ∀ ns : List String, Paired ClsV (ns.map V.ty) (ns.map Value.type) := by
            intro ns
            induction ns with
            | nil => exact .nil
            | cons n r ih => exact .cons (.ty n) ih
          exact ⟨v, tp, _, .type a', ns.map Value.type, _, rfl, upd_same, pr ns, hk.1 ▸ tyOf a2.rel (d1.ahead a2) e', kitAny_ok (tyName_mem e') ns c, (PV.later h1 a2).done a2.rel (.bl _)⟩
        · exact h1.elim
      · exact h1.elim⟩
/-- isinstance(e, C), C an own class: cs the classes that are told apart -/
def isiC (cs : List Str) (c : Str) : D → List Int → Res D
  | .obj _ c' _ _, L => if cs.contains c' then .ok (.bl (c' == c)) L else .stuck
  | x, L => match tyName x with
    | some _ => .ok (.bl false) L
    | none => .stuck
structure IsiF (K : PySem.W.Frag) (mg : Str → Option Value) (cs : List Str) (c : Str) (C : Addr) : Prop where
  gC : mg c = some (.ref C)
  base : ∀ a ∈ tysA, PySem.W.kitOne K (.type a) (.ref C) = some false
  own : ∀ c' ∈ cs, ∀ C', mg c' = some (.ref C') → ClsT K mg c' C' ∧ PySem.W.kitOne K (.ref C') (.ref C) = some (c' == c)
theorem so_isiC {cs : List Str} {c : Str} {C : Addr} {pt : Pos} (hg : Gl X "isinstance") (hm : X.mg "isinstance" = none) (F : IsiF X.K X.mg cs c C) (ha : SE X W e da) (gt : Gl X c) (h2 : (c == ("__debug__" : Str)) = false := by decide)
    (hs : starEach [e, .Name c pt] X.env = (false, eval e X.env) :: starEach [.Name c pt] X.env := by rfl) (hpl : (backTo pos (starEach [.Name c pt] X.env)).any (·.1) = false := by rfl) :
    SE X W (.Call (.Name "isinstance" p) [e, .Name c pt] [] pos) (dUn (isiC cs c) da) :=
  PE_imp (pe_callB call_isi hg hm (by decide +kernel) (pa_cons ha (pa_cons (pe_glob (v := .ref C) gt F.gC rfl h2) pa_nil) hs) (by decide) (by decide) hs hpl) fun σ H Q ⟨w, G, env, L, fp, hk, R, h⟩ =>
    ⟨w, G, env, L, fp, hk, R, h.bindF.imp fun v H1 ⟨G1, L1, x, a1, d1, h1⟩ => by
      have fin : ∀ a', tyName x = some a' → PV w G1 env σ H1 fp W (.ok (.bl false) L1) Q → tCB (rIsi X.K) (tCons (tC v) (tCons (tC (.ref C)) tNil)) σ H1 Q := fun a' e' h1 =>
        ⟨v, .ref C, .type a', .ref C, false, rfl, .own C, hk.1 ▸ tyOf a1.rel d1 e', F.base a' (tyName_mem e'), h1.done a1.rel (.bl _)⟩
      cases x with
      | obj f c' ns xs =>
        simp only [isiC] at h1
        split at h1
        · rename_i k
          obtain ⟨p', C2, dx, fs, rfl, hm2, _, ho, r⟩ := d1.obj_of a1.rel fun C z => by
            rw [hk.1]; exact (F.own c' (by simpa using k) C (hk.2.1 ▸ z)).1.cl.pg
          obtain ⟨T, q⟩ := F.own c' (by simpa using k) C2 (hk.2.1 ▸ hm2)
          exact ⟨.ref p', .ref C, .ref C2, .ref C, _, rfl, .own C, .base (.ins ho T.cl T.ha T.hn T.htk T.hm), q, h1.done a1.rel (.bl _)⟩
        · exact h1.elim
      | non => exact fin _ rfl h1
      | bl b => exact fin _ rfl h1
      | int b => exact fin _ rfl h1
      | str b => exact fin _ rfl h1
      | lst f xs => exact fin _ rfl h1
      | tup xs => exact fin _ rfl h1
      | _ => exact h1.elim⟩
end
end Qd

set_option Elab.async false
set_option linter.all false
set_option maxRecDepth 100000
set_option maxHeartbeats 4000000
namespace Qd
open PySem PySem.Spec PyProof.Rows L2

/-! ### what a statement gives -/
inductive SRes where
  | nx (env : Env) (L : List Int)
  | ret (x : D) (L : List Int)
  | brk (env : Env) (L : List Int)
  | cnt (env : Env) (L : List Int)
  | exc (c : Str) (ns : List Str) (xs : List D) (env : Env) (L : List Int)
  | stuck
abbrev DS := Env → List Int → SRes
/-- an expression, then a statement's rest -/
def Res.then {α : Type} (r : Res α) (env : Env) (k : α → List Int → SRes) : SRes := match r with
  | .ok x L => k x L
  | .exc c ns xs L => .exc c ns xs env L
  | .stuck => .stuck
def Res.thenF (r : Res D) (env : Env) (k : D → List Int → SRes) : SRes := match r with
  | .ok x L => k (fz x) L
  | .exc c ns xs L => .exc c ns xs env L
  | .stuck => .stuck

structure After (w : Gw) (G : Hp) (H : Hp) (fp : List Addr) (env' : Env) (L' : List Int) (G' H' : Hp) (σ' : L2.St) (fp' : List Addr) : Prop where
  sub : Sub G G'
  step : ∀ a o, H a = some o → a ∉ fp → w.st ≠ some a → H' a = some o
  rel : Rel w G' env' L' σ' H' fp'
  fpx : ∀ a ∈ fp', a ∈ fp ∨ H a = none
  new : ∀ a o, G' a = some o → G a = some o ∨ H a = none ∨ a ∈ fp
structure RetOk (w : Gw) (G : Hp) (H : Hp) (fp : List Addr) (x : D) (L' : List Int) (G' H' : Hp) (v : V) (f : List Addr) : Prop where
  sub : Sub G G'
  step : ∀ a o, H a = some o → a ∉ fp → w.st ≠ some a → H' a = some o
  rd : RD w G' H' x v f
  nd : f.Nodup
  fpx : ∀ a ∈ f, a ∈ fp ∨ H a = none
  ow : ∀ a ∈ f, G' a = none ∧ w.B a = none ∧ w.st ≠ some a
  gs : Sub G' H'
  bs : Sub w.B H'
  st : ∀ a, w.st = some a → H' a = some (.lst (L'.map V.int)) ∧ G' a = none ∧ w.B a = none
  new : ∀ a o, G' a = some o → G a = some o ∨ H a = none ∨ a ∈ fp
structure ExcAt (w : Gw) (c : Str) (ns : List Str) (xs : List D) (G' H' : Hp) (cls : Value) (dd : Option Addr) : Prop where
  cls : ∃ C, cls = .ref C ∧ w.mg c = some (.ref C)
  fld : (ns = [] ∧ xs = [] ∧ dd = none) ∨ ∃ d fs, dd = some d ∧ G' d = some (.xd fs) ∧ fs.map (·.1) = ns ∧ RDs w G' H' xs (fs.map (·.2)) [] ∧ okfs isFz xs = true
def PVS (w : Gw) (G : Hp) (H : Hp) (fp : List Addr) (W : WX) (r : SRes) (E : Ends) : Prop := match r with
  | .nx env' L' => ∀ G' H' σ' fp', After w G H fp env' L' G' H' σ' fp' → E.nx σ' H'
  | .ret x L' => ∀ G' H' v f, RetOk w G H fp x L' G' H' v f → E.rt v H'
  | .brk env' L' => ∀ G' H' σ' fp', After w G H fp env' L' G' H' σ' fp' → E.bk σ' H'
  | .cnt env' L' => ∀ G' H' σ' fp', After w G H fp env' L' G' H' σ' fp' → E.ct σ' H'
  | .exc c ns xs env' L' => ∀ G' H' σ' fp' cls dd, After w G H fp env' L' G' H' σ' fp' → ExcAt w c ns xs G' H' cls dd → W cls dd σ' H'
  | .stuck => False
def tS (K : PySem.W.Frag) (mg : Str → Option Value) (ex : Option (Addr × Obj)) (W : WX) (d : DS) : TS := fun E σ H => ∃ w G env L fp, (w.K = K ∧ w.mg = mg ∧ w.ex = ex) ∧ Rel w G env L σ H fp ∧ PVS w G H fp W (d env L) E
abbrev SS (X : Cx) (W : WX) (st : Stmt) (d : DS) : Prop := PS X st (tS X.K X.mg X.exA W d)
abbrev SSs (X : Cx) (W : WX) (st : List Stmt) (d : DS) : Prop := PSs X st (tS X.K X.mg X.exA W d)
theorem PS_imp {X : Cx} {st : Stmt} {t t' : TS} (h : PS X st t) (i : ∀ E σ H, t' E σ H → t E σ H) : PS X st t' := ⟨fun pins s σ H D I q => h.run pins s σ H D I (i D σ H q)⟩
theorem PSs_imp {X : Cx} {st : List Stmt} {t t' : TS} (h : PSs X st t) (i : ∀ E σ H, t' E σ H → t E σ H) : PSs X st t' := ⟨fun pins s σ H D I q => h.run pins s σ H D I (i D σ H q)⟩
section
variable {w : Gw} {G G1 H H1 : Hp} {fp fp1 : List Addr} {W : WX} {E : Ends} {env env1 : Env} {L L1 : List Int} {σ σ1 : L2.St}
theorem After.refl (R : Rel w G env L σ H fp) : After w G H fp env L G H σ fp := ⟨Sub.refl _, fun _ _ h _ _ => h, R, fun _ m => .inl m, fun _ _ e => .inl e⟩
theorem Ahead.after (a : Ahead w G env σ H fp L1 G1 H1) : After w G H fp env L1 G1 H1 σ fp := ⟨a.sub, fun b o e _ n => a.step b o e n, a.rel, fun _ m => .inl m, fun b o e => (a.new b o e).imp id .inl⟩
theorem After.keep (a : After w G H fp env1 L1 G1 H1 σ1 fp1) : ∀ b o, H b = some o → b ∉ fp → b ∉ fp1 := fun b o e n m => by
  rcases a.fpx b m with z | z
  · exact n z
  · rw [e] at z; cases z
theorem After.back (a : After w G H fp env1 L1 G1 H1 σ1 fp1) {b : Addr} (h : b ∈ fp1 ∨ H1 b = none) (n : w.st ≠ some b) : b ∈ fp ∨ H b = none := by
  rcases h with h | h
  · exact a.fpx b h
  · by_cases m : b ∈ fp
    · exact .inl m
    · refine .inr ?_
      cases q : H b with
      | none => rfl
      | some o => rw [a.step b o q m n] at h; cases h
theorem After.newB {G2 : Hp} (a : After w G H fp env1 L1 G1 H1 σ1 fp1) {b : Addr} {o : HO} (h : G1 b = some o ∨ H1 b = none ∨ b ∈ fp1) (g : G2 b = some o) (n : w.st = some b → G2 b = none) : G b = some o ∨ H b = none ∨ b ∈ fp := by
  rcases h with h | h | h
  · exact a.new b o h
  · exact .inr ((a.back (.inr h) (fun z => by rw [n z] at g; cases g)).symm)
  · exact .inr (a.fpx b h).symm
theorem After.trans {env2 : Env} {L2' : List Int} {G2 H2 : Hp} {σ2 : L2.St} {fp2 : List Addr} (a : After w G H fp env1 L1 G1 H1 σ1 fp1) (b : After w G1 H1 fp1 env2 L2' G2 H2 σ2 fp2) : After w G H fp env2 L2' G2 H2 σ2 fp2 :=
  ⟨a.sub.trans b.sub, fun c o e n k => b.step c o (a.step c o e n k) (a.keep c o e n) k, b.rel, fun c m => a.back (b.fpx c m) (b.rel.ow c m).2.2, fun c o e => a.newB (b.new c o e) e fun z => (b.rel.st c z).2.1⟩
theorem PVS.later {r : SRes} (h : PVS w G H fp W r E) (a : After w G H fp env1 L1 G1 H1 σ1 fp1) : PVS w G1 H1 fp1 W r E := by
  cases r with
  | nx env' L' => exact fun G' H' σ' fp' b => h G' H' σ' fp' (a.trans b)
  | brk env' L' => exact fun G' H' σ' fp' b => h G' H' σ' fp' (a.trans b)
  | cnt env' L' => exact fun G' H' σ' fp' b => h G' H' σ' fp' (a.trans b)
  | exc c ns xs env' L' => exact fun G' H' σ' fp' cls dd b => h G' H' σ' fp' cls dd (a.trans b)
  | ret x L' => exact fun G' H' v f b => h G' H' v f ⟨a.sub.trans b.sub, fun c o e n k => b.step c o (a.step c o e n k) (a.keep c o e n) k, b.rd, b.nd, fun c m => a.back (b.fpx c m) (b.ow c m).2.2, b.ow, b.gs, b.bs, b.st, fun c o e => a.newB (b.new c o e) e fun z => (b.st c z).2.1⟩
  | stuck => exact h
/-- an expression ahead of a statement's rest -/
theorem PVS.thenF {r : Res D} {k : D → List Int → SRes} (h : PVS w G H fp W (r.thenF env k) E) : PV w G env σ H fp W r (fun v H1 => ∃ G1 L1 x, Ahead w G env σ H fp L1 G1 H1 ∧ RD w G1 H1 x v [] ∧ PVS w G1 H1 fp W (k x L1) E) := by
  cases r with
  | ok x L' =>
    intro G' H' v f o
    obtain ⟨G'', p⟩ := o.freeze
    exact ⟨G'', L', fz x, p.toAhead, p.rd, PVS.later h p.toAhead.after⟩
  | exc c ns xs L' => exact fun G' H' cls dd o => h G' H' σ fp cls dd o.toAhead.after ⟨o.cls, o.fld⟩
  | stuck => exact h
theorem PVS.thenO {r : Res D} {k : D → List Int → SRes} (h : PVS w G H fp W (r.then env k) E) : PV w G env σ H fp W r (fun v H1 => ∃ G1 L1 x f, ValOk w G env σ H fp x L1 G1 H1 v f ∧ PVS w G H fp W (k x L1) E) := by
  cases r with
  | ok x L' => exact fun G' H' v f o => ⟨G', L', x, f, o, h⟩
  | exc c ns xs L' => exact fun G' H' cls dd o => h G' H' σ fp cls dd o.toAhead.after ⟨o.cls, o.fld⟩
  | stuck => exact h
theorem PVS.thent {r : Res Bool} {k : Bool → List Int → SRes} (h : PVS w G H fp W (r.then env k) E) : PVt w G env σ H fp W r (fun b H1 => ∃ G1 L1, Ahead w G env σ H fp L1 G1 H1 ∧ PVS w G1 H1 fp W (k b L1) E) := by
  cases r with
  | ok x L' => exact fun G' H' o => ⟨G', L', o, PVS.later h o.after⟩
  | exc c ns xs L' => exact fun G' H' cls dd o => h G' H' σ fp cls dd o.toAhead.after ⟨o.cls, o.fld⟩
  | stuck => exact h
theorem PVS.thens {r : Res (List D)} {k : List D → List Int → SRes} (h : PVS w G H fp W (r.then env k) E) : PVs w G env σ H fp W r (fun vs H1 => ∃ G1 L1 xs, Ahead w G env σ H fp L1 G1 H1 ∧ RDs w G1 H1 xs vs [] ∧ PVS w G1 H1 fp W (k xs L1) E) := by
  cases r with
  | ok x L' => exact fun G' H' v o d => ⟨G', L', x, o, d, PVS.later h o.after⟩
  | exc c ns xs L' => exact fun G' H' cls dd o => h G' H' σ fp cls dd o.toAhead.after ⟨o.cls, o.fld⟩
  | stuck => exact h
theorem PVS.next (h : PVS w G H fp W (.nx env L) E) (R : Rel w G env L σ H fp) : E.nx σ H := h G H σ fp (.refl R)
/-- a slot is stored -/
theorem Rel.set {i : Nat} {x : D} {v : V} {f : List Addr} (R : Rel w G env L σ H fp) (d : RD w G H x v f) (k : okf notLo x = true) (nd : f.Nodup) (ow : ∀ a ∈ f, G a = none ∧ w.B a = none ∧ w.st ≠ some a) (ap : ∀ a ∈ f, a ∉ fp) :
    ∃ fp', Rel w G (env.set i (some x)) L (σ.set i (some v)) H fp' ∧ ∀ a ∈ fp', a ∈ fp ∨ a ∈ f := by
  obtain ⟨fp', h1, h2, h3⟩ := R.re.set (i := i) d k R.nd nd ap
  exact ⟨fp', ⟨h1, h2, R.gs, R.bs, fun a m => (h3 a m).elim (R.ow a) (ow a), R.st⟩, h3⟩
theorem Rel.set0 {i : Nat} {x : D} {v : V} (R : Rel w G env L σ H fp) (d : RD w G H x v []) (k : okf notLo x = true) : ∃ fp', Rel w G (env.set i (some x)) L (σ.set i (some v)) H fp' ∧ ∀ a ∈ fp', a ∈ fp := by
  obtain ⟨fp', h1, h2⟩ := R.set (i := i) d k List.nodup_nil (fun _ m => nomatch m) (fun _ m => nomatch m)
  exact ⟨fp', h1, fun a m => (h2 a m).elim id fun z => nomatch z⟩
theorem After.set0 {i : Nat} {x : D} {v : V} (R : Rel w G env L σ H fp) (d : RD w G H x v []) (k : okf notLo x = true) : ∃ fp', After w G H fp (env.set i (some x)) L G H (σ.set i (some v)) fp' := by
  obtain ⟨fp', h1, h2⟩ := R.set0 (i := i) d k
  exact ⟨fp', Sub.refl _, fun _ _ h _ _ => h, h1, fun a m => .inl (h2 a m), fun _ _ e => .inl e⟩
end

/-! ### meanings of statements -/
def dNext : DS := fun env L => .nx env L
def dSeq (a b : DS) : DS := fun env L => match a env L with
  | .nx env1 L1 => b env1 L1
  | r => r
def dIfS (t : DT) (a b : DS) : DS := fun env L => (t env L).then env fun c L1 => if c then a env L1 else b env L1
/-- x = e, frozen; kept owned -/
def dSet (i : Nat) (e : DE) : DS := fun env L => (e env L).thenF env fun x L1 => if okf notLo x then .nx (env.set i (some x)) L1 else .stuck
def dSetO (i : Nat) (e : DE) : DS := fun env L => (e env L).then env fun x L1 => if okf notLo x then .nx (env.set i (some x)) L1 else .stuck
def dDrop (e : DE) : DS := fun env L => (e env L).thenF env fun _ L1 => .nx env L1
def dRet (e : DE) : DS := fun env L => (e env L).then env fun x L1 => .ret x L1
def dRetN : DS := fun _ L => .ret .non L
/-- return x, what x owns is handed on -/
def dRetMv (i : Nat) : DS := fun env L => match env[i]? with
  | some (some x) => .ret x L
  | _ => .stuck
def dBrk : DS := fun env L => .brk env L
def dCnt : DS := fun env L => .cnt env L
def dNever : DS := fun _ _ => .stuck
/-- slot i is frozen first -/
def dFrz (i : Nat) (d : DS) : DS := fun env L => match env[i]? with
  | some (some x) => if okf notLo (fz x) then d (env.set i (some (fz x))) L else .stuck
  | _ => .stuck
/-- x.append(e) -/
def dAppend (i : Nat) (e : DE) : DS := fun env L => match env[i]? with
  | some (some (.lst .ow xs)) => (e env L).thenF env fun y L1 => if okf isFz y && okLen (xs.length + 1) then .nx (env.set i (some (.lst .ow (xs ++ [y])))) L1 else .stuck
  | _ => .stuck
/-- x.reverse() -/
def dRev (i : Nat) : DS := fun env L => match env[i]? with
  | some (some (.lst .ow xs)) => .nx (env.set i (some (.lst .ow xs.reverse))) L
  | _ => .stuck
/-- x[a] = e -/
def dSetIx (i : Nat) (a : DE) (e : DE) : DS := fun env L => match env[i]? with
  | some (some (.lst .ow xs)) => (e env L).thenF env fun y L1 => (a env L1).thenF env fun k L2 => match k with
    | .int k => (match ixN xs.length k with
      | some j => if okf isFz y && okfs isFz xs then .nx (env.set i (some (.lst .ow (xs.set j y)))) L2 else .stuck
      | none => .stuck)
    | _ => .stuck
  | _ => .stuck
/-- x[a][b] = e -/
def dSetIx2 (i : Nat) (a b : DE) (e : DE) : DS := fun env L => match env[i]? with
  | some (some (.lst .ow rows)) => (e env L).thenF env fun y L1 => (a env L1).thenF env fun k L2 => match k with
    | .int k => (match ixN rows.length k with
      | some j => (match rows[j]? with
        | some (.lst .ow xs) => (b env L2).thenF env fun k2 L3 => (match k2 with
          | .int k2 => (match ixN xs.length k2 with
            | some j2 => if okf isFz y && okfs isFz xs then .nx (env.set i (some (.lst .ow (rows.set j (.lst .ow (xs.set j2 y)))))) L3 else .stuck
            | none => .stuck)
          | _ => .stuck)
        | _ => .stuck)
      | none => .stuck)
    | _ => .stuck
  | _ => .stuck
def augD (f : Int → Int → Int) : D → D → Option D
  | .int i, .int j => some (.int (f i j))
  | _, _ => none
def dAug (i : Nat) (f : Int → Int → Int) (e : DE) : DS := fun env L => match env[i]? with
  | some (some x) => (e env L).thenF env fun y L1 => match augD f x y with
    | some z => .nx (env.set i (some z)) L1
    | none => .stuck
  | _ => .stuck

section
variable {X : Cx} {W : WX} {e c : Expr} {de : DE} {dt : DT} {st : Stmt} {a b rest : List Stmt} {da db : DS} {pos : Pos}
theorem ss_nil : SSs X W [] dNext := PSs_imp pss_nil fun E σ H ⟨w, G, env, L, fp, hk, R, h⟩ => PVS.next h R
theorem PVS.seq {w : Gw} {G H : Hp} {fp : List Addr} {E : Ends} {env : Env} {L : List Int} (h : PVS w G H fp W (dSeq da db env L) E) (hk : w.K = X.K ∧ w.mg = X.mg ∧ w.ex = X.exA) : PVS w G H fp W (da env L) { E with nx := tS X.K X.mg X.exA W db E } := by
  unfold dSeq at h
  cases q : da env L with
  | nx env1 L1 =>
    rw [q] at h
    exact fun G' H' σ' fp' a => ⟨w, G', env1, L1, fp', hk, a.rel, PVS.later h a⟩
  | ret x L' => rw [q] at h; exact h
  | brk env' L' => rw [q] at h; exact h
  | cnt env' L' => rw [q] at h; exact h
  | exc c ns xs env' L' => rw [q] at h; exact h
  | stuck => rw [q] at h; exact h
theorem ss_cons (h1 : SS X W st da) (h2 : SSs X W rest db) : SSs X W (st :: rest) (dSeq da db) :=
  PSs_imp (pss_cons h1 h2) fun E σ H ⟨w, G, env, L, fp, hk, R, h⟩ => ⟨w, G, env, L, fp, hk, R, PVS.seq h hk⟩
theorem ss_one (h1 : SS X W st da) : SSs X W [st] da := pss_one h1
theorem sx_pass : SS X W (.Pass pos) dNext := PS_imp ps_pass fun E σ H ⟨w, G, env, L, fp, hk, R, h⟩ => PVS.next h R
theorem sx_brk : SS X W (.Break pos) dBrk := PS_imp ps_break fun E σ H ⟨w, G, env, L, fp, hk, R, h⟩ => h G H σ fp (.refl R)
theorem sx_cnt : SS X W (.Continue pos) dCnt := PS_imp ps_continue fun E σ H ⟨w, G, env, L, fp, hk, R, h⟩ => h G H σ fp (.refl R)
theorem sx_doc {x j pos pos'} : SS X W (.Expr (.Constant (.str x) j pos) pos') dNext := PS_imp ps_doc fun E σ H ⟨w, G, env, L, fp, hk, R, h⟩ => PVS.next h R
theorem sx_never : SS X W st dNever := PS_imp ps_never fun E σ H ⟨w, G, env, L, fp, hk, R, h⟩ => h
theorem ss_never {sts : List Stmt} : SSs X W sts dNever := PSs_imp pss_never fun E σ H ⟨w, G, env, L, fp, hk, R, h⟩ => h
theorem sx_if (hc : SEt X W c dt) (ha : SSs X W a da) (hb : SSs X W b db) : SS X W (.If c a b pos) (dIfS dt da db) :=
  PS_imp (ps_if hc ha hb) fun E σ H ⟨w, G, env, L, fp, hk, R, h⟩ => ⟨w, G, env, L, fp, hk, R, (PVS.thent h).imp fun b H1 ⟨G1, L1, a1, h1⟩ => by
    cases b with
    | true => exact ⟨w, G1, env, L1, fp, hk, a1.rel, h1⟩
    | false => exact ⟨w, G1, env, L1, fp, hk, a1.rel, h1⟩⟩
theorem sx_expr (he : SE X W e de) (hs : swapsWith e none pos.line X.env = pure false := by rfl) : SS X W (.Expr e pos) (dDrop de) :=
  PS_imp (ps_expr he hs) fun E σ H ⟨w, G, env, L, fp, hk, R, h⟩ => ⟨w, G, env, L, fp, hk, R, (PVS.thenF h).imp fun v H1 ⟨G1, L1, x, a1, d1, h1⟩ => PVS.next h1 a1.rel⟩
theorem sx_ret (he : SE X W e de) : SS X W (.Return (some e) pos) (dRet de) :=
  PS_imp (ps_ret he) fun E σ H ⟨w, G, env, L, fp, hk, R, h⟩ => ⟨w, G, env, L, fp, hk, R, (PVS.thenO h).imp fun v H1 ⟨G1, L1, x, f, o, h1⟩ =>
    h1 G1 H1 v f ⟨o.sub, fun b u e _ n => o.step b u e n, o.rd, o.nd, fun b m => .inr (o.fr b m), o.ow, o.rel.gs, o.rel.bs, o.rel.st, fun b u e => (o.new b u e).imp id .inl⟩⟩
theorem sx_retN : SS X W (.Return none pos) dRetN := PS_imp ps_retN fun E σ H ⟨w, G, env, L, fp, hk, R, h⟩ =>
  h G H .non [] ⟨Sub.refl _, fun _ _ h _ _ => h, .non, List.nodup_nil, (fun _ m => nomatch m), (fun _ m => nomatch m), R.gs, R.bs, R.st, fun _ _ e => .inl e⟩
theorem sx_retMv (i : Nat) {x : Str} {p : Pos} (hN : X.N[i]? = some x := by rfl) (hv : Vis X.env.scope x := by first | exact Or.inl rfl | exact Or.inr (Or.inl rfl) | exact Or.inr (Or.inr rfl)) (hd : (x == ("__debug__" : Str)) = false := by decide)
    (hcd : (x == ("__classdict__" : Str)) = false := by decide) : SS X W (.Return (some (.Name x p)) pos) (dRetMv i) :=
  PS_imp (ps_ret (pe_var hN hv hd hcd)) fun E σ H ⟨w, G, env, L, fp, hk, R, h⟩ => by
    unfold dRetMv at h
    split at h
    · rename_i d e
      obtain ⟨v, f1, e1, h1, k, hs, hn⟩ := R.re.get e
      exact ⟨v, e1, h G H v f1 ⟨Sub.refl _, fun _ _ h _ _ => h, h1, hn R.nd, fun b m => .inl (hs b m), fun b m => R.ow b (hs b m), R.gs, R.bs, R.st, fun _ _ e => .inl e⟩⟩
    · exact h.elim
theorem sx_set (i : Nat) {x : Str} {p : Pos} (hN : X.N.Nodup) (he : SE X W e de) (hi : X.N[i]? = some x := by rfl) (hx : Loc X.env.scope x := by first | exact Or.inl rfl | exact Or.inr rfl) (hs : swapsWith e (some (.Name x p)) pos.line X.env = pure false := by rfl)
    (hf : X.fn x = true ∨ X.env.scope.names.lookup x = some .local := by first | exact .inl rfl | exact .inr rfl | assumption) : SS X W (.Assign [.Name x p] e pos) (dSet i de) :=
  PS_imp (ps_set hN hi hx he hs hf) fun E σ H ⟨w, G, env, L, fp, hk, R, h⟩ => ⟨w, G, env, L, fp, hk, R, (PVS.thenF h).imp fun v H1 ⟨G1, L1, x, a1, d1, h1⟩ => by
    split at h1
    · rename_i c
      obtain ⟨fp', A⟩ := After.set0 (i := i) a1.rel d1 c
      exact h1 _ _ _ _ A
    · exact h1.elim⟩
theorem sx_setO (i : Nat) {x : Str} {p : Pos} (hN : X.N.Nodup) (he : SE X W e de) (hi : X.N[i]? = some x := by rfl) (hx : Loc X.env.scope x := by first | exact Or.inl rfl | exact Or.inr rfl) (hs : swapsWith e (some (.Name x p)) pos.line X.env = pure false := by rfl)
    (hf : X.fn x = true ∨ X.env.scope.names.lookup x = some .local := by first | exact .inl rfl | exact .inr rfl | assumption) : SS X W (.Assign [.Name x p] e pos) (dSetO i de) :=
  PS_imp (ps_set hN hi hx he hs hf) fun E σ H ⟨w, G, env, L, fp, hk, R, h⟩ => ⟨w, G, env, L, fp, hk, R, (PVS.thenO h).imp fun v H1 ⟨G1, L1, x, f, o, h1⟩ => by
    split at h1
    · rename_i c
      obtain ⟨fp', r1, r2⟩ := o.rel.set (i := i) o.rd c o.nd o.ow o.ap
      exact h1 _ _ _ _ ⟨o.sub, fun b u e _ n => o.step b u e n, r1, fun b m => (r2 b m).elim .inl fun z => .inr (o.fr b z), fun b u e => (o.new b u e).imp id .inl⟩
    · exact h1.elim⟩
theorem frz_core {E : Ends} {σ : L2.St} {H : Hp} {K : PySem.W.Frag} {mg : Str → Option Value} {ex : Option (Addr × Obj)} {i : Nat} {w : Gw} {G : Hp} {env : Env} {L : List Int} {fp : List Addr} {x : D} (hk : w.K = K ∧ w.mg = mg ∧ w.ex = ex) (R : Rel w G env L σ H fp) (e : env[i]? = some (some x)) (kf : okf notLo (fz x) = true)
    (h : PVS w G H fp W (da (env.set i (some (fz x))) L) E) : tS K mg ex W da E σ H := by
  obtain ⟨v, f1, f2, e1, h1, k, h2, n1, n2, ap, s1, s2⟩ := R.re.out e R.nd
  have hs : Sub G (Gf G H f1) := Gf.sub fun a m => (R.ow a (s1 a m)).1
  have d1 := (freeze_all hs).1 _ _ _ h1 (fun _ m => m)
  have R2 : Rel w (Gf G H f1) (env.set i none) L σ H f2 := ⟨h2.mono hs fun _ _ _ z => z, n2, fun a u e => by
      unfold Gf at e
      split at e
      · exact e
      · exact R.gs a u e, R.bs, fun a m => by
      refine ⟨?_, (R.ow a (s2 a m)).2⟩
      unfold Gf
      rw [if_neg fun z => ap a z m]
      exact (R.ow a (s2 a m)).1, fun a e => ⟨(R.st a e).1, by
      unfold Gf
      rw [if_neg fun z => (R.ow a (s1 a z)).2.2 e]
      exact (R.st a e).2.1, (R.st a e).2.2⟩⟩
  obtain ⟨fp', r1, r2⟩ := R2.set0 (i := i) d1 kf
  rw [List.set_set] at r1
  have es : σ.set i (some v) = σ := by
    obtain ⟨hl, e3⟩ := List.getElem?_eq_some_iff.mp e1
    rw [← e3]; exact List.set_getElem_self hl
  rw [es] at r1
  have A : After w G H fp (env.set i (some (fz x))) L (Gf G H f1) H σ fp' := ⟨hs, fun _ _ z _ _ => z, r1, fun a m => .inl (s2 a (r2 a m)), fun a u e => by
    unfold Gf at e
    split at e
    · rename_i m
      exact .inr (.inr (s1 a m))
    · exact .inl e⟩
  exact ⟨w, _, _, L, fp', hk, r1, PVS.later h A⟩
theorem frz_tS {E : Ends} {σ : L2.St} {H : Hp} {K : PySem.W.Frag} {mg : Str → Option Value} {ex : Option (Addr × Obj)} {i : Nat} (h : tS K mg ex W (dFrz i da) E σ H) : tS K mg ex W da E σ H := by
  obtain ⟨w, G, env, L, fp, hk, R, h⟩ := h
  unfold dFrz at h
  split at h
  · rename_i x e
    by_cases kf : okf notLo (fz x) = true
    · rw [if_pos kf] at h
      exact frz_core hk R e kf h
    · rw [if_neg kf] at h
      exact h.elim
  · exact h.elim
theorem sx_frz (i : Nat) (h : SS X W st da) : SS X W st (dFrz i da) := PS_imp h fun _ _ _ q => frz_tS q
theorem ss_frz (i : Nat) (h : SSs X W a da) : SSs X W a (dFrz i da) := PSs_imp h fun _ _ _ q => frz_tS q
end

/-! ### an owned list is changed -/
section
variable {w : Gw} {G H : Hp} {fp : List Addr} {env : Env} {L : List Int} {σ : L2.St}
/-- the list of slot i -/
theorem Rel.own {i : Nat} {xs : List D} (R : Rel w G env L σ H fp) (e : env[i]? = some (some (.lst .ow xs))) :
    ∃ a vs, σ[i]? = some (some (.ref a)) ∧ H a = some (.lst vs) ∧ w.st ≠ some a ∧ a ∈ fp ∧ vs.length = xs.length ∧
      ∀ (xs' : List D) (vs' : List V), (∀ {H' : Hp} {fq : List Addr}, RDs w G H' xs vs fq → RDs w G H' xs' vs' fq) → okfs isSto xs' = true →
        ∃ fp', After w G H fp (env.set i (some (.lst .ow xs'))) L G (upd H a (.lst vs')) σ fp' := by
  obtain ⟨v, f1, f2, e1, h1, k, h2, n1, n2, ap, s1, s2⟩ := R.re.out e R.nd
  simp only [RD] at h1
  obtain ⟨a, vs, fq, rfl, hl, r⟩ := h1
  obtain ⟨ha, ho, rfl⟩ := hl
  have ma : a ∈ fp := s1 a (List.mem_cons_self ..)
  have n1' := List.nodup_cons.mp n1
  refine ⟨a, vs, e1, ha, (R.ow a ma).2.2, ma, r.len.symm, fun xs' vs' tr ho' => ?_⟩
  have st2 : ∀ b o, b ≠ a → H b = some o → upd H a (.lst vs') b = some o := fun b o nb e => by rw [upd_ne nb]; exact e
  have r2 : RDs w G (upd H a (.lst vs')) xs' vs' fq := by
    have q := tr r
    exact (sto_all (w := w) (w' := w) rfl rfl rfl (Sub.refl G)).2 _ _ _ q ho' fun b m o e => st2 b o (fun z => by subst z; exact n1'.1 m) e
  have R2 : Rel w G (env.set i none) L σ (upd H a (.lst vs')) f2 := ⟨h2.mono (Sub.refl _) fun b m o e => st2 b o (fun z => by subst z; exact ap b (List.mem_cons_self ..) m) e, n2,
    fun b o e => st2 b o (fun z => by subst z; rw [(R.ow b ma).1] at e; cases e) (R.gs b o e), fun b o e => st2 b o (fun z => by subst z; rw [(R.ow b ma).2.1] at e; cases e) (R.bs b o e), fun b m => R.ow b (s2 b m),
    fun b e => ⟨st2 b _ (fun z => by subst z; exact (R.ow b ma).2.2 e) (R.st b e).1, (R.st b e).2⟩⟩
  have d2 : RD w G (upd H a (.lst vs')) (.lst .ow xs') (.ref a) (a :: fq) := by
    simp only [RD]
    exact ⟨a, vs', fq, rfl, ⟨upd_same, ho', rfl⟩, r2⟩
  obtain ⟨fp', g1, g2⟩ := R2.set (i := i) d2 (by simp only [okf]; rw [(okf_imp sto_nlo).2 _ ho']; rfl) n1 (fun b m => R.ow b (s1 b m)) ap
  rw [List.set_set] at g1
  have es : σ.set i (some (.ref a)) = σ := by
    obtain ⟨hl, e3⟩ := List.getElem?_eq_some_iff.mp e1
    rw [← e3]; exact List.set_getElem_self hl
  rw [es] at g1
  exact ⟨fp', Sub.refl _, fun b o e n _ => st2 b o (fun z => by subst z; exact n ma) e, g1, fun b m => .inl ((g2 b m).elim (s2 b) (s1 b)), fun _ _ e => .inl e⟩
end
section
variable {X : Cx} {W : WX} {e c o : Expr} {de dc : DE} {pos : Pos}
theorem okfs_app {p : Fl → Bool} : ∀ (as bs : List D), okfs p as = true → okfs p bs = true → okfs p (as ++ bs) = true
  | [], bs, _, h => h
  | z :: r, bs, h1, h2 => by simp only [List.cons_append, okfs, Bool.and_eq_true] at h1 ⊢; exact ⟨h1.1, okfs_app r bs h1.2 h2⟩
theorem okfs_set {p : Fl → Bool} : ∀ (as : List D) (j : Nat) (y : D), okfs p as = true → okf p y = true → okfs p (as.set j y) = true
  | [], _, _, h, _ => h
  | z :: r, 0, y, h1, h2 => by simp only [List.set_cons_zero, okfs, Bool.and_eq_true] at h1 ⊢; exact ⟨h2, h1.2⟩
  | z :: r, j + 1, y, h1, h2 => by simp only [List.set_cons_succ, okfs, Bool.and_eq_true] at h1 ⊢; exact ⟨h1.1, okfs_set r j y h1.2 h2⟩
theorem RDs.app1 {w : Gw} {G H : Hp} : ∀ {xs : List D} {vs : List V} {f : List Addr} {y : D} {v : V}, RDs w G H xs vs f → RD w G H y v [] → RDs w G H (xs ++ [y]) (vs ++ [v]) f
  | [], _, _, _, _, h, d => by
    simp only [RDs] at h
    obtain ⟨rfl, rfl⟩ := h
    exact RDs.cons d RDs.nil
  | x :: xs, _, _, _, _, h, d => by
    simp only [RDs] at h
    obtain ⟨v, us, f1, f2, rfl, rfl, h1, h2⟩ := h
    simp only [List.cons_append, RDs]
    exact ⟨v, _, f1, f2, rfl, rfl, h1, RDs.app1 h2 d⟩
theorem sto_of_ow {w : Gw} {G H : Hp} {xs : List D} {v : V} {f : List Addr} (h : RD w G H (.lst .ow xs) v f) : okfs isSto xs = true := by
  simp only [RD] at h
  obtain ⟨a, vs, fq, rfl, hl, r⟩ := h
  exact hl.2.1
theorem RD.fzAny {w : Gw} {G H H' : Hp} {y : D} {v : V} (d : RD w G H y v []) (k : okf isFz y = true) : RD w G H' y v [] :=
  (sto_all rfl rfl rfl (Sub.refl G)).1 _ _ _ d ((okf_imp fz_sto).1 _ k) (fun _ m => nomatch m)
/-- x.append(e) -/
theorem sx_append (i : Nat) {x : Str} {p pa pc : Pos} (he : SE X W e de) (hN : X.N[i]? = some x := by rfl) (hv : Vis X.env.scope x := by first | exact Or.inl rfl | exact Or.inr (Or.inl rfl) | exact Or.inr (Or.inr rfl))
    (hd : (x == ("__debug__" : Str)) = false := by decide) (hcd : (x == ("__classdict__" : Str)) = false := by decide)
    (hbase : attributeBase (.Name x p) "append" X.env (eval (.Name x p) X.env) = eval (.Name x p) X.env := by rfl)
    (hfew : ((backTo pc (starEach [e] X.env)).all (fun x => !x.1) && (backToKw pc (keywordEach [] X.env)).all (fun x => x.1.isSome)
      && decide (([e] : List Expr).length + ([] : List Keyword).length + (if ([] : List Keyword).isEmpty then 0 else 1) < 30)) = true := by rfl)
    (hline : (pa.endLine == pc.line) = true := by rfl) (hs : starEach [e] X.env = (false, eval e X.env) :: starEach [] X.env := by rfl) (hplain : (backTo pc (starEach [] X.env)).any (·.1) = false := by rfl)
    (hsw : swapsWith (.Call (.Attribute (.Name x p) "append" pa) [e] [] pc) none pos.line X.env = pure false := by rfl) : SS X W (.Expr (.Call (.Attribute (.Name x p) "append" pa) [e] [] pc) pos) (dAppend i de) :=
  PS_imp (ps_expr (pe_bm PySem.F.plainAttrs_list PySem.F.slot_list_append PySem.F.type_list_append mt_append (pe_var hN hv hd hcd) (pa_cons he pa_nil hs) hbase hfew hline hs hplain) hsw) fun E σ H ⟨w, G, env, L, fp, hk, R, h⟩ => by
    unfold dAppend at h
    split at h
    · rename_i xs ev
      obtain ⟨a, vs, e1, ha, ns, ma, lv, _⟩ := R.own ev
      refine ⟨.ref a, e1, Or.inl ⟨rfl, vs, .of ha⟩, ⟨w, G, env, L, fp, hk, R, (PVS.thenF h).imp fun y H2 ⟨G2, L2, z, a2, d2, h2⟩ => ?_⟩⟩
      split at h2
      · rename_i c
        simp only [Bool.and_eq_true] at c
        obtain ⟨a', vs', e1', ha', _, _, lv', up⟩ := a2.rel.own ev
        rw [e1] at e1'
        obtain rfl : a = a' := by simpa using e1'
        obtain ⟨v0, f0, _, hrd, _, _⟩ := a2.rel.re.get ev
        obtain ⟨fp', A⟩ := up (xs ++ [z]) (vs' ++ [y]) (fun r => RDs.app1 r (RD.fzAny d2 c.1)) (okfs_app _ _ (sto_of_ow hrd) (by simp only [okfs, Bool.and_true]; exact (okf_imp fz_sto).1 _ c.1))
        exact ⟨a, vs', y, rfl, rfl, ha', by rw [lv']; have := okLen_size c.2; omega, h2 _ _ _ _ A⟩
      · exact h2.elim
    · exact h.elim
theorem fz_none {w : Gw} {G H : Hp} : (∀ d v f, RD w G H d v f → okf isFz d = true → f = []) ∧ ∀ ds vs f, RDs w G H ds vs f → okfs isFz ds = true → f = [] := by
  refine D.ind ?_ ?_ ?_ ?_ ?_ ?_ ?_ ?_ ?_ ?_ ?_ ?_
  · intro v f h _; simp only [RD] at h; exact h.2
  · intro b v f h _; simp only [RD] at h; exact h.2
  · intro b v f h _; simp only [RD] at h; exact h.2
  · intro b v f h _; simp only [RD] at h; exact h.2
  · intro b v f h _; simp only [RD] at h; exact h.2
  · intro b v f h _; simp only [RD] at h; obtain ⟨_, _, e, _⟩ := h; exact e
  · intro v f h _; simp only [RD] at h; obtain ⟨_, _, e, _⟩ := h; exact e
  · intro xs ih v f h _; simp only [RD] at h; obtain ⟨_, _, _, e, _⟩ := h; exact e
  · intro fl xs ih v f h k
    simp only [RD] at h
    simp only [okf, Bool.and_eq_true] at k
    obtain ⟨a, vs, fp, e1, hl, r⟩ := h
    cases fl with
    | fz => exact hl.2.2.2
    | _ => exact absurd k.1 (by decide)
  · intro fl c ns xs ih v f h k
    simp only [RD] at h
    simp only [okf, Bool.and_eq_true] at k
    obtain ⟨a, C, dx, fs, fp, e1, hm, hn, hl, r⟩ := h
    cases fl with
    | fz => exact hl.2.2.2
    | _ => exact absurd k.1 (by decide)
  · intro vs f h _; simp only [RDs] at h; exact h.2
  · intro d r i1 i2 vs f h k
    simp only [RDs] at h
    simp only [okfs, Bool.and_eq_true] at k
    obtain ⟨v, us, f1, f2, e1, rfl, h1, h2⟩ := h
    rw [i1 _ _ h1 k.1, i2 _ _ h2 k.2]; rfl
/-- x.reverse() -/
theorem RDs.app_of {w : Gw} {G H : Hp} : ∀ {xs ys : List D} {vs : List V} {f : List Addr}, RDs w G H (xs ++ ys) vs f → ∃ us zs f1 f2, vs = us ++ zs ∧ f = f1 ++ f2 ∧ RDs w G H xs us f1 ∧ RDs w G H ys zs f2
  | [], ys, vs, f, h => ⟨[], vs, [], f, rfl, rfl, RDs.nil, h⟩
  | x :: xs, ys, vs, f, h => by
    simp only [List.cons_append, RDs] at h
    obtain ⟨v, us, f1, f2, rfl, rfl, h1, h2⟩ := h
    obtain ⟨us', zs, g1, g2, rfl, rfl, h3, h4⟩ := RDs.app_of h2
    exact ⟨v :: us', zs, f1 ++ g1, g2, rfl, by rw [List.append_assoc], by simp only [RDs]; exact ⟨v, us', f1, g1, rfl, rfl, h1, h3⟩, h4⟩
theorem RDs.set {w : Gw} {G H : Hp} : ∀ {xs : List D} {vs : List V} {f : List Addr} {j : Nat} {y : D} {v : V}, RDs w G H xs vs f → okfs isFz xs = true → RD w G H y v [] → RDs w G H (xs.set j y) (vs.set j v) f
  | [], vs, f, _, _, _, h, _, _ => by
    simp only [RDs] at h
    obtain ⟨rfl, rfl⟩ := h
    exact RDs.nil
  | x :: xs, _, _, 0, y, v, h, k, d => by
    simp only [RDs] at h
    obtain ⟨v0, us, f1, f2, rfl, rfl, h1, h2⟩ := h
    simp only [okfs, Bool.and_eq_true] at k
    have e : f1 = [] := fz_none.1 _ _ _ h1 k.1
    subst e
    simp only [List.set_cons_zero, RDs]
    exact ⟨v, us, [], f2, rfl, rfl, d, h2⟩
  | x :: xs, _, _, j + 1, y, v, h, k, d => by
    simp only [RDs] at h
    obtain ⟨v0, us, f1, f2, rfl, rfl, h1, h2⟩ := h
    simp only [okfs, Bool.and_eq_true] at k
    simp only [List.set_cons_succ, RDs]
    exact ⟨v0, _, f1, f2, rfl, rfl, h1, RDs.set h2 k.2 d⟩
/-- x[a] = e -/
theorem sx_setIx (i : Nat) {x : Str} {p pt : Pos} (he : SE X W e de) (hc : SE X W c dc) (hN : X.N[i]? = some x := by rfl) (hv : Vis X.env.scope x := by first | exact Or.inl rfl | exact Or.inr (Or.inl rfl) | exact Or.inr (Or.inr rfl))
    (hd : (x == ("__debug__" : Str)) = false := by decide) (hcd : (x == ("__classdict__" : Str)) = false := by decide)
    (ha : ∀ v, assign (.Subscript (.Name x p) c pt) X.env v = (do
      let ov ← holding [v] (eval (.Name x p) X.env)
      let iv ← holding [v, ov] (eval c X.env)
      standAt pt
      holding [v, ov, iv] (setItem ov iv v)
      release [v, ov, iv] []) := by intro _; rfl)
    (hs : swapsWithSole [.Subscript (.Name x p) c pt] e pos.line X.env = pure false := by rfl) (hw : swappedStores [.Subscript (.Name x p) c pt] e X.env = pure none := by rfl)
    (h1 : (assignEach [.Subscript (.Name x p) c pt] X.env).map (·.2) = [assign (.Subscript (.Name x p) c pt) X.env] := by rfl) :
    SS X W (.Assign [.Subscript (.Name x p) c pt] e pos) (dSetIx i dc de) :=
  PS_imp (ps_asg he (pg_sub (pe_var hN hv hd hcd) hc set_list ha) hs hw h1) fun E σ H ⟨w, G, env, L, fp, hk, R, h⟩ => by
    unfold dSetIx at h
    split at h
    · rename_i xs ev
      refine ⟨w, G, env, L, fp, hk, R, (PVS.thenF h).imp fun y H1 ⟨G1, L1, z, a1, d1, h1⟩ => ?_⟩
      obtain ⟨a, vs, e1, ha, ns, ma, lv, _⟩ := a1.rel.own ev
      refine ⟨.ref a, e1, ⟨w, G1, env, L1, fp, hk, a1.rel, (PVS.thenF h1).imp fun k H2 ⟨G2, L2, kd, a2, d2, h2⟩ => ?_⟩⟩
      split at h2
      · rename_i k'
        split at h2
        · rename_i j ej
          split at h2
          · rename_i c
            obtain ⟨a', vs', e1', ha', _, _, lv', up⟩ := a2.rel.own ev
            rw [e1] at e1'
            obtain rfl : a = a' := by simpa using e1'
            obtain ⟨v0, f0, _, hrd, _, _⟩ := a2.rel.re.get ev
            simp only [Bool.and_eq_true] at c
            have lj : ixN vs'.length k' = some j := by rw [lv']; exact ej
            obtain ⟨fp', A⟩ := up (xs.set j z) (vs'.set j y) (fun r => RDs.set r c.2 (RD.fzAny (d1.ahead a2) c.1)) ((okf_imp fz_sto).2 _ (okfs_set _ _ _ c.2 c.1))
            exact ⟨a, vs', k', j, rfl, d2.int_of, ha', lj, h2 _ _ _ _ A⟩
          · exact h2.elim
        · exact h2.elim
      · exact h2.elim
    · exact h.elim
/-- a row of an owned list of owned rows is changed -/
theorem RDs.row {w : Gw} {G H : Hp} : ∀ {rows : List D} {vs : List V} {f : List Addr} {j : Nat} {xs : List D}, RDs w G H rows vs f → okfs isSto rows = true → rows[j]? = some (.lst .ow xs) → f.Nodup →
    ∃ b us g, vs[j]? = some (.ref b) ∧ H b = some (.lst us) ∧ b ∈ f ∧ RDs w G H xs us g ∧ okfs isSto xs = true ∧
      ∀ (xs' : List D) (us' : List V), okfs isSto xs' = true → (∀ H', (∀ a ∈ g, ∀ o, H a = some o → H' a = some o) → RDs w G H' xs' us' g) → RDs w G (upd H b (.lst us')) (rows.set j (.lst .ow xs')) vs f ∧ okfs isSto (rows.set j (.lst .ow xs')) = true
  | [], _, _, _, _, _, _, e, _ => by simp at e
  | r :: rows, _, _, 0, xs, h, k, e, n => by
    simp only [RDs] at h
    obtain ⟨v, us, f1, f2, rfl, rfl, h1, h2⟩ := h
    simp only [okfs, Bool.and_eq_true] at k
    obtain rfl : r = .lst .ow xs := by simpa using e
    simp only [RD] at h1
    obtain ⟨b, us1, g, rfl, hl, r1⟩ := h1
    obtain ⟨hb, ho, rfl⟩ := hl
    have nn := List.nodup_append.mp n
    have nb := List.nodup_cons.mp nn.1
    refine ⟨b, us1, g, rfl, hb, by simp, r1, ho, fun xs' us' ho' tr => ⟨?_, ?_⟩⟩
    · simp only [List.set_cons_zero, RDs]
      refine ⟨.ref b, us, b :: g, f2, rfl, rfl, ?_, ?_⟩
      · simp only [RD]
        exact ⟨b, us', g, rfl, ⟨upd_same, ho', rfl⟩, tr _ fun a m o e => by rw [upd_ne (fun z => by subst z; exact nb.1 m)]; exact e⟩
      · exact (sto_all (w := w) (w' := w) rfl rfl rfl (Sub.refl G)).2 _ _ _ h2 k.2 fun a m o e => by rw [upd_ne (fun z => by subst z; exact nn.2.2 a (List.mem_cons_self ..) a m rfl)]; exact e
    · simp only [List.set_cons_zero, okfs, okf, Bool.and_eq_true]
      exact ⟨⟨rfl, ho'⟩, k.2⟩
  | r :: rows, _, _, j + 1, xs, h, k, e, n => by
    simp only [RDs] at h
    obtain ⟨v, us, f1, f2, rfl, rfl, h1, h2⟩ := h
    simp only [okfs, Bool.and_eq_true] at k
    have nn := List.nodup_append.mp n
    obtain ⟨b, us1, g, e1, hb, mb, r1, ho, tr⟩ := RDs.row (j := j) h2 k.2 (by simpa using e) nn.2.1
    refine ⟨b, us1, g, by simpa using e1, hb, List.mem_append_right _ mb, r1, ho, fun xs' us' ho' t => ?_⟩
    obtain ⟨t1, t2⟩ := tr xs' us' ho' t
    constructor
    · simp only [List.set_cons_succ, RDs]
      refine ⟨v, us, f1, f2, rfl, rfl, ?_, t1⟩
      exact (sto_all (w := w) (w' := w) rfl rfl rfl (Sub.refl G)).1 _ _ _ h1 k.1 fun a m o e => by rw [upd_ne (fun z => by subst z; exact nn.2.2 a m a mb rfl)]; exact e
    · simp only [List.set_cons_succ, okfs, Bool.and_eq_true]
      exact ⟨k.1, t2⟩
theorem Rel.own2 {w : Gw} {G H : Hp} {fp : List Addr} {env : Env} {L : List Int} {σ : L2.St} {i j : Nat} {rows xs : List D} (R : Rel w G env L σ H fp) (e : env[i]? = some (some (.lst .ow rows))) (ej : rows[j]? = some (.lst .ow xs)) :
    ∃ a vs b us, σ[i]? = some (some (.ref a)) ∧ H a = some (.lst vs) ∧ vs.length = rows.length ∧ vs[j]? = some (.ref b) ∧ H b = some (.lst us) ∧ us.length = xs.length ∧ okfs isSto xs = true ∧
      ∀ (xs' : List D) (us' : List V), okfs isSto xs' = true → (∀ {H' : Hp} {fq : List Addr}, RDs w G H' xs us fq → RDs w G H' xs' us' fq) →
        ∃ fp', After w G H fp (env.set i (some (.lst .ow (rows.set j (.lst .ow xs'))))) L G (upd H b (.lst us')) σ fp' := by
  obtain ⟨v, f1, f2, e1, h1, k, h2, n1, n2, ap, s1, s2⟩ := R.re.out e R.nd
  simp only [RD] at h1
  obtain ⟨a, vs, fq, rfl, hl, r⟩ := h1
  obtain ⟨ha, ho, rfl⟩ := hl
  have n1' := List.nodup_cons.mp n1
  obtain ⟨b, us, g, eb, hb, mb, r1, ho1, tr⟩ := RDs.row r ho ej n1'.2
  have mb1 : b ∈ a :: fq := List.mem_cons_of_mem _ mb
  have mbf : b ∈ fp := s1 b mb1
  refine ⟨a, vs, b, us, e1, ha, r.len.symm, eb, hb, r1.len.symm, ho1, fun xs' us' ho' t => ?_⟩
  have st2 : ∀ c o, c ≠ b → H c = some o → upd H b (.lst us') c = some o := fun c o nb e => by rw [upd_ne nb]; exact e
  obtain ⟨q1, q2⟩ := tr xs' us' ho' fun H' hH => t ((sto_all (w := w) (w' := w) rfl rfl rfl (Sub.refl G)).2 _ _ _ r1 ho1 hH)
  have R2 : Rel w G (env.set i none) L σ (upd H b (.lst us')) f2 := ⟨h2.mono (Sub.refl _) fun c m o e => st2 c o (fun z => by subst z; exact ap c mb1 m) e, n2,
    fun c o e => st2 c o (fun z => by subst z; rw [(R.ow c mbf).1] at e; cases e) (R.gs c o e), fun c o e => st2 c o (fun z => by subst z; rw [(R.ow c mbf).2.1] at e; cases e) (R.bs c o e), fun c m => R.ow c (s2 c m),
    fun c e => ⟨st2 c _ (fun z => by subst z; exact (R.ow c mbf).2.2 e) (R.st c e).1, (R.st c e).2⟩⟩
  have d2 : RD w G (upd H b (.lst us')) (.lst .ow (rows.set j (.lst .ow xs'))) (.ref a) (a :: fq) := by
    simp only [RD]
    exact ⟨a, vs, fq, rfl, ⟨st2 a _ (fun z => by subst z; exact n1'.1 mb) ha, q2, rfl⟩, q1⟩
  obtain ⟨fp', g1, g2⟩ := R2.set (i := i) d2 (by simp only [okf]; rw [(okf_imp sto_nlo).2 _ q2]; rfl) n1 (fun c m => R.ow c (s1 c m)) ap
  rw [List.set_set] at g1
  have es : σ.set i (some (.ref a)) = σ := by
    obtain ⟨hl, e3⟩ := List.getElem?_eq_some_iff.mp e1
    rw [← e3]; exact List.set_getElem_self hl
  rw [es] at g1
  exact ⟨fp', Sub.refl _, fun c o e n _ => st2 c o (fun z => by subst z; exact n mbf) e, g1, fun c m => .inl ((g2 c m).elim (s2 c) (s1 c)), fun _ _ e => .inl e⟩
/-- x[a][b] = e -/
theorem sx_setIx2 {c2 : Expr} {dc2 : DE} (i : Nat) {x : Str} {p pt pt2 : Pos} (he : SE X W e de) (hc : SE X W c dc) (hc2 : SE X W c2 dc2) (hN : X.N[i]? = some x := by rfl) (hv : Vis X.env.scope x := by first | exact Or.inl rfl | exact Or.inr (Or.inl rfl) | exact Or.inr (Or.inr rfl))
    (hd : (x == ("__debug__" : Str)) = false := by decide) (hcd : (x == ("__classdict__" : Str)) = false := by decide) (hpx : PlainIx c := by exact fun _ _ => rfl)
    (ha : ∀ v, assign (.Subscript (.Subscript (.Name x p) c pt2) c2 pt) X.env v = (do
      let ov ← holding [v] (eval (.Subscript (.Name x p) c pt2) X.env)
      let iv ← holding [v, ov] (eval c2 X.env)
      standAt pt
      holding [v, ov, iv] (setItem ov iv v)
      release [v, ov, iv] []) := by intro _; rfl)
    (hs : swapsWithSole [.Subscript (.Subscript (.Name x p) c pt2) c2 pt] e pos.line X.env = pure false := by rfl) (hw : swappedStores [.Subscript (.Subscript (.Name x p) c pt2) c2 pt] e X.env = pure none := by rfl)
    (h1 : (assignEach [.Subscript (.Subscript (.Name x p) c pt2) c2 pt] X.env).map (·.2) = [assign (.Subscript (.Subscript (.Name x p) c pt2) c2 pt) X.env] := by rfl) :
    SS X W (.Assign [.Subscript (.Subscript (.Name x p) c pt2) c2 pt] e pos) (dSetIx2 i dc dc2 de) :=
  PS_imp (ps_asg he (pg_sub (pe_ix ix_A (pe_var hN hv hd hcd) hc hpx) hc2 set_list ha) hs hw h1) fun E σ H ⟨w, G, env, L, fp, hk, R, h⟩ => by
    unfold dSetIx2 at h
    split at h
    · rename_i rows ev
      refine ⟨w, G, env, L, fp, hk, R, (PVS.thenF h).imp fun y H1 ⟨G1, L1, z, a1, d1, h1⟩ => ?_⟩
      obtain ⟨a, vs, e1, ha, ns, ma, lv, _⟩ := a1.rel.own ev
      refine ⟨.ref a, e1, ⟨w, G1, env, L1, fp, hk, a1.rel, (PVS.thenF h1).imp fun k H2 ⟨G2, L2, kd, a2, d2, h2⟩ => ?_⟩⟩
      split at h2
      · rename_i k'
        split at h2
        · rename_i j ej
          split at h2
          · rename_i xs er
            obtain ⟨a', vs', b, us, e1', ha', lv', eb, hb, lu, _⟩ := a2.rel.own2 ev er
            rw [e1] at e1'
            obtain rfl : a = a' := by simpa using e1'
            refine .inl ⟨a, vs', k', .ref b, rfl, d2.int_of, .of ha', ?_, ⟨w, G2, env, L2, fp, hk, a2.rel, (PVS.thenF h2).imp fun k2 H3 ⟨G3, L3, kd2, a3, d3, h3⟩ => ?_⟩⟩
            · unfold atI
              rw [lv', ej]
              exact eb
            · split at h3
              · rename_i k2'
                split at h3
                · rename_i j2 ej2
                  split at h3
                  · rename_i cc
                    simp only [Bool.and_eq_true] at cc
                    obtain ⟨a'', vs'', b', us', e1'', ha'', lv'', eb', hb', lu', so, up⟩ := a3.rel.own2 ev er
                    rw [e1] at e1''
                    obtain rfl : a = a'' := by simpa using e1''
                    have ev2 : vs'' = vs' := by
                      have q := a3.step a _ ha' ns
                      rw [ha''] at q
                      injection q with q
                      injection q
                    subst ev2
                    rw [eb] at eb'
                    obtain rfl : b = b' := by simpa using eb'
                    have dz := RD.fzAny (H' := H3) ((d1.ahead a2).ahead a3) cc.1
                    obtain ⟨fp', A⟩ := up (xs.set j2 z) (us'.set j2 y) ((okf_imp fz_sto).2 _ (okfs_set _ _ _ cc.2 cc.1)) (fun r => RDs.set r cc.2 (RD.fzAny dz cc.1))
                    exact ⟨b, us', k2', j2, rfl, d3.int_of, hb', by rw [lu']; exact ej2, h3 _ _ _ _ A⟩
                  · exact h3.elim
                · exact h3.elim
              · exact h3.elim
          · exact h2.elim
        · exact h2.elim
      · exact h2.elim
    · exact h.elim
/-- x += e, ints -/
theorem sx_aug (i : Nat) {x : Str} {p : Pos} {op : Operator} {f : Int → Int → Int} (hN : X.N.Nodup) (he : SE X W e de) (ho : PIp X op (ipI f)) (hi : X.N[i]? = some x := by rfl) (hx : Loc X.env.scope x := by first | exact Or.inl rfl | exact Or.inr rfl)
    (hf : X.fn x = true ∨ X.env.scope.names.lookup x = some .local := by first | exact .inl rfl | exact .inr rfl | assumption) : SS X W (.AugAssign (.Name x p) op e pos) (dAug i f de) :=
  PS_imp (ps_aug hN hi hx he ho hf) fun E σ H ⟨w, G, env, L, fp, hk, R, h⟩ => by
    unfold dAug at h
    split at h
    · rename_i x0 ev
      obtain ⟨v, f1, e1, h1, k, hs, hn⟩ := R.re.get ev
      refine ⟨v, e1, ⟨w, G, env, L, fp, hk, R, (PVS.thenF h).imp fun y H1 ⟨G1, L1, z, a1, d1, h1⟩ => ?_⟩⟩
      split at h1
      · rename_i z' ez
        have key : ∃ i j, x0 = .int i ∧ z = .int j ∧ z' = .int (f i j) := by
          cases x0 <;> cases z <;> simp [augD] at ez
          exact ⟨_, _, rfl, rfl, ez.symm⟩
        obtain ⟨i0, j0, rfl, rfl, rfl⟩ := key
        obtain ⟨fp', A⟩ := After.set0 (i := i) a1.rel (RD.int (f i0 j0)) rfl
        exact ⟨i0, j0, (‹RD w G H _ v f1›).int_of, d1.int_of, h1 _ _ _ _ A⟩
      · exact h1.elim
    · exact h.elim
end
end Qd

set_option Elab.async false
set_option linter.all false
set_option maxRecDepth 100000
set_option maxHeartbeats 4000000
namespace Qd
open PySem PySem.Spec PyProof.Rows L2

/-! ### defs -/
abbrev DF := List D → List Int → Res D
/-- the heap behind a call -/
structure CallAt (w : Gw) (G H : Hp) (L' : List Int) (G' H' : Hp) : Prop where
  sub : Sub G G'
  step : Step w H H'
  gs : Sub G' H'
  st : ∀ a, w.st = some a → H' a = some (.lst (L'.map V.int)) ∧ G' a = none
  new : ∀ a o, G' a = some o → G a = some o ∨ H a = none
structure CallOk (w : Gw) (G H : Hp) (x : D) (L' : List Int) (G' H' : Hp) (v : V) (f : List Addr) : Prop extends CallAt w G H L' G' H' where
  rd : RD w G' H' x v f
  sto : okf isSto x = true
  fr : ∀ a ∈ f, H a = none
  nd : f.Nodup
  ow : ∀ a ∈ f, G' a = none ∧ w.st ≠ some a
def SpD (K : PySem.W.Frag) (mg : Str → Option Value) (n : Nat) (f : DF) : Sp := fun vs H Q E => vs.length = n ∧ ∃ w G args L, (w.K = K ∧ w.mg = mg ∧ w.ex = none) ∧ Sub G H ∧ Sub w.B H ∧ (∀ a, w.st = some a → H a = some (.lst (L.map V.int)) ∧ G a = none ∧ w.B a = none) ∧
  RDs w G H args vs [] ∧ okfs isArg args = true ∧ match f args L with
  | .ok x L' => ∀ G' H' v fo, CallOk w G H x L' G' H' v fo → Q v H'
  | .exc c ns xs L' => ∀ G' H' cls dd, CallAt w G H L' G' H' → ExcAt w c ns xs G' H' cls dd → E cls dd H'
  | .stuck => False
/-- a body as a meaning of a call -/
def dBody (np nn : Nat) (body : DS) : DF := fun args L => match body (args.map some ++ List.replicate (nn - np) none) L with
  | .nx _ L' => .ok .non L'
  | .ret x L' => if okf isSto x then .ok x L' else .stuck
  | .exc c ns xs _ L' => .exc c ns xs L'
  | _ => .stuck
theorem RE_dead {w : Gw} {G H : Hp} : ∀ n, RE w G H (List.replicate n none) (List.replicate n none) []
  | 0 => ⟨rfl, rfl⟩
  | n + 1 => by
    rw [List.replicate_succ, List.replicate_succ]
    exact ⟨none, _, rfl, RE_dead n⟩
theorem RE_args {w : Gw} {G H : Hp} {env : Env} {σ : L2.St} (r : RE w G H env σ []) : ∀ {args : List D} {vs : List V}, RDs w G H args vs [] → okfs notLo args = true → RE w G H (args.map some ++ env) (vs.map some ++ σ) []
  | [], vs, h, _ => by rw [h.nil_of]; exact r
  | d :: ds, vs, h, k => by
    obtain ⟨v, us, rfl, h1, h2⟩ := h.cons_of
    simp only [okfs, Bool.and_eq_true] at k
    exact ⟨v, _, [], [], rfl, rfl, h1, k.1, RE_args r h2 k.2⟩
theorem start_rel {w : Gw} {G H : Hp} {L : List Int} {args : List D} {vs : List V} {N : List Str} (g : Sub G H) (b : Sub w.B H) (st : ∀ a, w.st = some a → H a = some (.lst (L.map V.int)) ∧ G a = none ∧ w.B a = none) (d : RDs w G H args vs []) (k : okfs isArg args = true) :
    Rel w G (args.map some ++ List.replicate (N.length - vs.length) none) L (start N vs) H [] :=
  ⟨RE_args (RE_dead _) d ((okf_imp arg_nlo).2 _ k), List.nodup_nil, g, b, (fun _ m => nomatch m), st⟩
theorem exA_of {X : Cx} (h : X.A.handled = none) : X.exA = none := by
  unfold L2.Cx.exA
  rw [h]
  cases X.calm <;> rfl
theorem exA_room {X : Cx} {k : Nat} (hr : Room k X.A) : X.exA = none := by
  unfold L2.Cx.exA
  rw [hr.hd]
  cases X.calm <;> rfl
section
variable {P : Program} {w : World} {K : PySem.W.Frag} {mg : Str → Option Value} {base : Heap}
theorem okD' {qual : Str} {st : Stmt} {f : Addr} {fd : FuncData} {N ps : List Str} {k np nn : Nat} {body : DS} (ok : ∀ sp : Sp, (∀ vs H Q E, sp vs H Q E → vs.length = ps.length) → (∀ (cdv : Value) (A : Around) (outer : List PySem.Env) (s : Shared) (H : Hp) (vs : List V) (Q : VK) (E : XK), Room k (A.deeper (envOfC qual (defScope st) s.heap.objs.size f cdv)) → sp vs H Q E →
      ∃ t, PSs (cxOf (L2.CX P w) P w K mg base N qual (defScope st) f cdv A outer s H E) (defBody st) t ∧ t { nx := fun _ H' => Q .non H', rt := Q } (L2.start N vs) H) → FnOk P w K mg base (L2.CX P w) (k + 1) f fd ps sp) (hp : ps.length = np) (hn : N.length = nn)
    (hb : ∀ (cdv : Value) (A : Around) (outer : List PySem.Env) (s : Shared) (H : Hp) (E : XK), Room k (A.deeper (envOfC qual (defScope st) s.heap.objs.size f cdv)) →
      Takes (cxOf (L2.CX P w) P w K mg base N qual (defScope st) f cdv A outer s H E) (fun cls d _ H => E cls d H) →
      SSs (cxOf (L2.CX P w) P w K mg base N qual (defScope st) f cdv A outer s H E) (fun cls d _ H => E cls d H) (defBody st) body) :
    FnOk P w K mg base (L2.CX P w) (k + 1) f fd ps (SpD K mg np (dBody np nn body)) := by
  subst hp hn
  refine ok _ (fun vs H Q E h => h.1) (fun cdv A outer s H vs Q E hr h => ⟨_, hb cdv A outer s H E hr (takes_of rfl rfl rfl rfl), ?_⟩)
  obtain ⟨hl, w0, G, args, L, hk, g, b, st, d, k, h⟩ := h
  have R := start_rel (N := N) g b st d k
  rw [hl] at R
  refine ⟨w0, G, _, L, [], ⟨hk.1, hk.2.1, hk.2.2.trans (Eq.symm (exA_of hr.hd))⟩, R, ?_⟩
  unfold dBody at h
  revert h
  cases body (args.map some ++ List.replicate (N.length - ps.length) none) L with
  | nx env' L' => exact fun h G' H' σ' fp' a => h G' H' .non [] ⟨⟨a.sub, fun c o e n => a.step c o e (fun z => nomatch z) n, a.rel.gs, fun c e => ⟨(a.rel.st c e).1, (a.rel.st c e).2.1⟩, fun c o e => (a.new c o e).imp id fun z => z.elim id fun m => nomatch m⟩, .non, rfl, (fun _ m => nomatch m), List.nodup_nil, (fun _ m => nomatch m)⟩
  | ret x L' =>
    intro h G' H' v fo o
    by_cases c : okf isSto x = true
    · simp only [c, if_true] at h
      exact h G' H' v fo ⟨⟨o.sub, fun c o' e n => o.step c o' e (fun z => nomatch z) n, o.gs, fun c e => ⟨(o.st c e).1, (o.st c e).2.1⟩, fun c o' e => (o.new c o' e).imp id fun z => z.elim id fun m => nomatch m⟩, o.rd, c, fun a m => (o.fpx a m).elim (fun z => nomatch z) id, o.nd, fun a m => ⟨(o.ow a m).1, (o.ow a m).2.2⟩⟩
    · simp only [c] at h
      exact h.elim
  | exc c ns xs env' L' => exact fun h G' H' σ' fp' cls dd a x => h G' H' cls dd ⟨a.sub, fun c o e n => a.step c o e (fun z => nomatch z) n, a.rel.gs, fun c e => ⟨(a.rel.st c e).1, (a.rel.st c e).2.1⟩, fun c o e => (a.new c o e).imp id fun z => z.elim id fun m => nomatch m⟩ x
  | brk env' L' => exact fun h => h.elim
  | cnt env' L' => exact fun h => h.elim
  | stuck => exact fun h => h.elim
end

/-! ### calls -/
def dCall (n : Nat) (f : DF) (a : DA) : DE := fun env L => (a env L).bind fun xs L1 => if xs.length = n then f (bws xs) L1 else .stuck
section
variable {X : Cx} {W : WX} {e o : Expr} {es : List Expr} {da : DA} {de : DE} {pos : Pos}
theorem Rel.called {w : Gw} {G H G' H' : Hp} {env : Env} {σ : L2.St} {fp : List Addr} {L L' : List Int} (R : Rel w G env L σ H fp) {m : Option (Addr × Addr)} (c : CallAt (Lend w H m) G H L' G' H') : Ahead w G env σ H fp L' G' H' :=
  ⟨c.sub, c.step, R.step c.sub c.step c.gs (fun a m => by
    cases q : G' a with
    | none => rfl
    | some u =>
      rcases c.new a u q with z | z
      · rw [(R.ow a m).1] at z; cases z
      · obtain ⟨o, e⟩ := R.re.there a m
        rw [z] at e; cases e) (fun a e => c.st a e), c.new⟩
/-- from what a call wants of its promise to the caller -/
theorem call_spD {w : Gw} {G H : Hp} {env : Env} {σ : L2.St} {fp : List Addr} {L : List Int} {xs : List D} {vs : List V} {f : DF} {n : Nat} {Q : VK} {EE : XK} (R : Rel w G env L σ H fp) (hk : w.K = X.K ∧ w.mg = X.mg ∧ w.ex = X.exA) (hx : X.exA = none) (d : RDs w G H xs vs []) (hl : vs.length = n)
    (h : PV w G env σ H fp W (f (bws xs) L) Q) (hE : ∀ cls dd H', W cls dd σ H' → EE cls dd H') : SpD X.K X.mg n f vs H Q EE := by
  refine ⟨hl, Lend w H none, G, bws xs, L, ⟨hk.1, hk.2.1, hk.2.2.trans hx⟩, R.gs, fun a o e => ?_, fun a e => ⟨(R.st a e).1, (R.st a e).2.1, ?_⟩, (lend_all R.lendB).2 _ _ d, bw_arg_all.2 _ (now_all.2 _ _ d), ?_⟩
  · have e' : (if w.st = some a then none else H a) = some o := e
    split at e'
    · cases e'
    · exact e'
  · exact if_pos e
  · revert h
    cases f (bws xs) L with
    | ok x L' =>
      intro h G' H' v fo c
      refine h G' H' v fo ⟨R.called c.toCallAt, ?_, c.fr, c.nd, fun a m => ⟨(c.ow a m).1, Sub.none R.bs (c.fr a m), (c.ow a m).2⟩, fun a m z => ?_⟩
      · exact (sto_all (w := Lend w H none) (w' := w) rfl rfl rfl (Sub.refl G')).1 _ _ _ c.rd c.sto fun _ _ _ e => e
      · obtain ⟨o, e⟩ := R.re.there a z
        rw [c.fr a m] at e; cases e
    | exc c ns xs L' =>
      intro h G' H' cls dd c x
      refine hE _ _ _ (h G' H' cls dd ⟨R.called c, x.cls, ?_⟩)
      rcases x.fld with z | ⟨d, fs, e1, e2, e3, e4, e5⟩
      · exact .inl z
      · exact .inr ⟨d, fs, e1, e2, e3, (sto_all (w := Lend w H none) (w' := w) rfl rfl rfl (Sub.refl G')).2 _ _ _ e4 ((okf_imp fz_sto).2 _ e5) fun _ _ _ e => e, e5⟩
    | stuck => exact fun h => h
theorem so_call {k n : Nat} {f : Addr} {fd : FuncData} {ps : List Str} {x : Str} {p : Pos} {df : DF} (F : FnOk X.prog X.w X.K X.mg X.base (L2.CX X.prog X.w) k f fd ps (SpD X.K X.mg n df)) (hr : Room k X.A) (tk : Takes X W) (hg : Gl X x) (hm : X.mg x = some (.ref f)) (hk : PySem.W.keepIn X.K (.ref f) = true)
    (hb : Binds X.K fd ps []) (ha : SA X W (e :: es) da) (hdb : (x == ("__debug__" : Str)) = false := by decide) (he : starEach (e :: es) X.env = (false, eval e X.env) :: starEach es X.env := by rfl)
    (hpl : (backTo pos (starEach es X.env)).any (·.1) = false := by rfl) : SE X W (.Call (.Name x p) (e :: es) [] pos) (dCall n df da) :=
  PE_imp (pe_callS F hr hg hm hk hb (fun σ => passAt tk σ) ha hdb he hpl) fun σ H Q ⟨w, G, env, L, fp, hkk, R, h⟩ =>
    ⟨w, G, env, L, fp, hkk, R, (PVs.bind h).imp fun vs H1 ⟨G1, L1, ys, a1, d1, h1⟩ => by
      split at h1
      · rename_i c
        exact call_spD a1.rel hkk (exA_room hr) d1 (d1.len ▸ c) h1 fun _ _ _ z => z
      · exact h1.elim⟩
/-- a wish that does not hang on the slots -/
abbrev WK (E : XK) : WX := fun cls d _ H => E cls d H
/-- o.m(..), o an instance of the class at C, named c -/
def objOf (c : Str) (k : D → List Int → Res D) : D → List Int → Res D
  | .obj f c' ns xs, L => if c' = c then k (.obj f c' ns xs) L else .stuck
  | _, _ => .stuck
def dMeth (c m : Str) (n : Nat) (f : DF) (o : DE) (a : DA) : DE := fun env L => (o env L).bindF fun x L1 => match x with
  | .obj fl c' ns ys => if c' = c ∧ lkN m ns ys = none ∧ ns.length = ys.length then (a env L1).bind fun xs L2 => if xs.length + 1 = n then f (bws (x :: xs)) L2 else .stuck else .stuck
  | _ => .stuck
theorem lkN_none {f : Str} : ∀ {fs : List (Str × V)} {xs : List D}, xs.length = fs.length → lkN f (fs.map (·.1)) xs = none → fs.lookup f = none
  | [], _, _, _ => rfl
  | (n, v) :: fs, [], h, _ => by simp at h
  | (n, v) :: fs, x :: xs, h, e => by
    simp only [List.map_cons, lkN] at e
    split at e
    · cases e
    · rename_i c
      have q : (f == n) = false := by simpa using c
      simp only [List.lookup, q]
      exact lkN_none (by simpa using h) e
theorem so_meth {EE : XK} {k n : Nat} {C f : Addr} {fd : FuncData} {ps : List Str} {c m : Str} {apos : Pos} {df : DF} {pl : Sem Bool} (ho : SE X (WK EE) o de) (gC : X.mg c = some (.ref C)) (cl : Cls X.K C) (hm : Meth X.K C m f) (F : FnOk X.prog X.w X.K X.mg X.base (L2.CX X.prog X.w) k f fd ps (SpD X.K X.mg n df)) (hr : Room k X.A)
    (tk : Takes X (WK EE)) (hb : Binds X.K fd ps []) (ha : SA X (WK EE) (e :: es) da)
    (hst : starEach (e :: es) X.env = (false, eval e X.env) :: starEach es X.env := by rfl) (hpl : (backTo pos (starEach es X.env)).any (·.1) = false := by rfl)
    (ht : eval (.Call (.Attribute o m apos) (e :: es) [] pos) X.env = (do
      let ov ← eval o X.env
      standAt apos.atName
      let (f, first) ← holding [ov] (getMethod ov m pl)
      callWith pos f first (backTo pos (starEach (e :: es) X.env)) (backToKw pos (keywordEach [] X.env))) := by rfl) :
    SE X (WK EE) (.Call (.Attribute o m apos) (e :: es) [] pos) (dMeth c m n df de da) :=
  PE_imp (pe_meth (E := EE) ho cl hm F hr hb .nil (passes_call tk fun _ _ _ _ h => h) ha hst hpl ht) fun σ H Q ⟨w, G, env, L, fp, hk, R, h⟩ =>
    ⟨w, G, env, L, fp, hk, R, h.bindF.imp fun v H1 ⟨G1, L1, x, a1, d1, h1⟩ => by
      cases x with
      | obj fl c' ns ys =>
        simp only at h1
        split at h1
        · rename_i cc
          obtain ⟨rfl, c2, c3⟩ := cc
          obtain ⟨p, C2, dx, fs, rfl, hm2, rfl, hob, r⟩ := d1.obj_of a1.rel fun C z => by
            have z2 := z.symm.trans (hk.2.1 ▸ gC)
            cases z2
            rw [hk.1]; exact cl.pg
          have e2 : C2 = C := by
            have z := hm2.symm.trans (hk.2.1 ▸ gC)
            injection z with z
            injection z
          subst e2
          refine ⟨p, dx, fs, rfl, hob, lkN_none (by rw [← c3]; simp) c2, ⟨w, G1, env, L1, fp, hk, a1.rel, (PVs.bind h1).imp fun vs H2 ⟨G2, L2, xs, a2, d2, h2⟩ => ?_⟩⟩
          split at h2
          · rename_i c4
            rw [List.append_nil]
            exact call_spD (W := WK EE) a2.rel hk (exA_room hr) (RDs.cons (d1.ahead a2) d2) (by rw [List.length_cons, ← d2.len]; exact c4) h2 fun _ _ _ z => z
          · exact h2.elim
        · exact h1.elim
      | _ => exact h1.elim⟩
theorem so_meth0 {EE : XK} {k n : Nat} {C f : Addr} {fd : FuncData} {ps : List Str} {c m : Str} {apos : Pos} {df : DF} {pl : Sem Bool} (ho : SE X (WK EE) o de) (gC : X.mg c = some (.ref C)) (cl : Cls X.K C) (hm : Meth X.K C m f) (F : FnOk X.prog X.w X.K X.mg X.base (L2.CX X.prog X.w) k f fd ps (SpD X.K X.mg n df)) (hr : Room k X.A)
    (tk : Takes X (WK EE)) (hb : Binds X.K fd ps [])
    (ht : eval (.Call (.Attribute o m apos) [] [] pos) X.env = (do
      let ov ← eval o X.env
      standAt apos.atName
      let (f, first) ← holding [ov] (getMethod ov m pl)
      callWith pos f first (backTo pos (starEach [] X.env)) (backToKw pos (keywordEach [] X.env))) := by rfl) :
    SE X (WK EE) (.Call (.Attribute o m apos) [] [] pos) (dMeth c m n df de dNil) :=
  PE_imp (pe_meth0 (E := EE) ho cl hm F hr hb .nil (passes_call tk fun _ _ _ _ h => h) ht) fun σ H Q ⟨w, G, env, L, fp, hk, R, h⟩ =>
    ⟨w, G, env, L, fp, hk, R, h.bindF.imp fun v H1 ⟨G1, L1, x, a1, d1, h1⟩ => by
      cases x with
      | obj fl c' ns ys =>
        simp only at h1
        split at h1
        · rename_i cc
          obtain ⟨rfl, c2, c3⟩ := cc
          obtain ⟨p, C2, dx, fs, rfl, hm2, rfl, hob, r⟩ := d1.obj_of a1.rel fun C z => by
            have z2 := z.symm.trans (hk.2.1 ▸ gC)
            cases z2
            rw [hk.1]; exact cl.pg
          have e2 : C2 = C := by
            have z := hm2.symm.trans (hk.2.1 ▸ gC)
            injection z with z
            injection z
          subst e2
          refine ⟨p, dx, fs, rfl, hob, lkN_none (by rw [← c3]; simp) c2, ?_⟩
          have h2 : PV w G1 env σ H1 fp (WK EE) (if ([] : List D).length + 1 = n then df (bws [.obj fl c' (fs.map (·.1)) ys]) L1 else .stuck) Q := h1
          split at h2
          · rename_i c4
            exact call_spD (W := WK EE) a1.rel hk (exA_room hr) (RDs.cons d1 RDs.nil) c4 h2 fun _ _ _ z => z
          · exact h2.elim
        · exact h1.elim
      | _ => exact h1.elim⟩
end

/-! ### classes -/
def putN (f : Str) (y : D) : List Str → List D → List Str × List D
  | n :: ns, x :: xs => if n = f then (n :: ns, y :: xs) else let r := putN f y ns xs; (n :: r.1, x :: r.2)
  | _, _ => ([f], [y])
/-- x.f = e, x an owned instance -/
def dSetF (cs : List Str) (i : Nat) (f : Str) (e : DE) : DS := fun env L => match env[i]? with
  | some (some (.obj .me c ns xs)) => if cs.contains c && okfs isFz xs && decide (ns.length = xs.length) && decide (xs.length < 1000) then (e env L).thenF env fun y L1 => if okf isFz y then .nx (env.set i (some (.obj .me c (putN f y ns xs).1 (putN f y ns xs).2))) L1 else .stuck else .stuck
  | _ => .stuck
theorem putN_ok {w : Gw} {G H : Hp} {f : Str} {y : D} {v : V} (d : RD w G H y v []) (k : okf isFz y = true) : ∀ {fs : List (Str × V)} {xs : List D}, RDs w G H xs (fs.map (·.2)) [] → okfs isFz xs = true →
    (putF f v fs).map (·.1) = (putN f y (fs.map (·.1)) xs).1 ∧ RDs w G H (putN f y (fs.map (·.1)) xs).2 ((putF f v fs).map (·.2)) [] ∧ okfs isFz (putN f y (fs.map (·.1)) xs).2 = true
  | [], xs, h, q => by
    have e : xs = [] := h.isNil rfl
    subst e
    exact ⟨rfl, RDs.cons d RDs.nil, by simp only [List.map_nil, putN, okfs, k, Bool.and_self]⟩
  | (n, u) :: fs, [], h, q => by
    have := h.len
    simp at this
  | (n, u) :: fs, x :: xs, h, q => by
    obtain ⟨v', us, e1, h1, h2⟩ := h.cons_of
    obtain ⟨rfl, rfl⟩ := List.cons.inj e1
    simp only [okfs, Bool.and_eq_true] at q
    simp only [List.map_cons, putN, putF]
    split
    · exact ⟨rfl, RDs.cons d h2, by simp only [okfs, k, q.2, Bool.and_self]⟩
    · obtain ⟨r1, r2, r3⟩ := putN_ok d k h2 q.2
      exact ⟨by simp [r1], RDs.cons h1 r2, by simp only [okfs, q.1, r3, Bool.and_self]⟩
section
variable {w : Gw} {G H : Hp} {fp : List Addr} {env : Env} {L : List Int} {σ : L2.St}
theorem Rel.ownO {i : Nat} {c : Str} {ns : List Str} {xs : List D} (R : Rel w G env L σ H fp) (e : env[i]? = some (some (.obj .me c ns xs))) :
    ∃ a C dx fs, σ[i]? = some (some (.ref a)) ∧ w.mg c = some (.ref C) ∧ H a = some (.ins C dx fs) ∧ fs.map (·.1) = ns ∧ fs.length = xs.length ∧ a ∈ fp ∧ w.st ≠ some a ∧
      ∀ (ns' : List Str) (xs' : List D) (fs' : List (Str × V)), fs'.map (·.1) = ns' → (∀ {H' : Hp} {fq : List Addr}, RDs w G H' xs (fs.map (·.2)) fq → RDs w G H' xs' (fs'.map (·.2)) fq) → okfs isSto xs' = true →
        ∃ fp', After w G H fp (env.set i (some (.obj .me c ns' xs'))) L G (upd H a (.ins C dx fs')) σ fp' := by
  obtain ⟨v, f1, f2, e1, h1, k, h2, n1, n2, ap, s1, s2⟩ := R.re.out e R.nd
  simp only [RD] at h1
  obtain ⟨a, C, dx, fs, fq, rfl, hm, hns, hl, r⟩ := h1
  obtain ⟨ha, hdx, ho, hme, hst, rfl⟩ := hl
  have ma : a ∈ fp := s1 a (List.mem_cons_self ..)
  have n1' := List.nodup_cons.mp n1
  have ndx : dx ≠ a := fun z => n1'.1 (by rw [← z]; exact List.mem_cons_self ..)
  refine ⟨a, C, dx, fs, e1, hm, ha, hns, by have := r.len; simpa using this.symm, ma, (R.ow a ma).2.2, fun ns' xs' fs' hf tr ho' => ?_⟩
  have st2 : ∀ b o, b ≠ a → H b = some o → upd H a (.ins C dx fs') b = some o := fun b o nb e => by rw [upd_ne nb]; exact e
  have r2 : RDs w G (upd H a (.ins C dx fs')) xs' (fs'.map (·.2)) fq :=
    (sto_all (w := w) (w' := w) rfl rfl rfl (Sub.refl G)).2 _ _ _ (tr r) ho' fun b m o e => st2 b o (fun z => by subst z; exact n1'.1 (List.mem_cons_of_mem _ m)) e
  have R2 : Rel w G (env.set i none) L σ (upd H a (.ins C dx fs')) f2 := ⟨h2.mono (Sub.refl _) fun b m o e => st2 b o (fun z => by subst z; exact ap b (List.mem_cons_self ..) m) e, n2,
    fun b o e => st2 b o (fun z => by subst z; rw [(R.ow b ma).1] at e; cases e) (R.gs b o e), fun b o e => st2 b o (fun z => by subst z; rw [(R.ow b ma).2.1] at e; cases e) (R.bs b o e), fun b m => R.ow b (s2 b m),
    fun b e => ⟨st2 b _ (fun z => by subst z; exact (R.ow b ma).2.2 e) (R.st b e).1, (R.st b e).2⟩⟩
  have d2 : RD w G (upd H a (.ins C dx fs')) (.obj .me c ns' xs') (.ref a) (a :: dx :: fq) := by
    simp only [RD]
    exact ⟨a, C, dx, fs', fq, rfl, hm, hf, ⟨upd_same, st2 dx _ ndx hdx, ho', hme, hst, rfl⟩, r2⟩
  obtain ⟨fp', g1, g2⟩ := R2.set (i := i) d2 (by simp only [okf]; rw [(okf_imp sto_nlo).2 _ ho']; rfl) n1 (fun b m => R.ow b (s1 b m)) ap
  rw [List.set_set] at g1
  have es : σ.set i (some (.ref a)) = σ := by
    obtain ⟨hl, e3⟩ := List.getElem?_eq_some_iff.mp e1
    rw [← e3]; exact List.set_getElem_self hl
  rw [es] at g1
  exact ⟨fp', Sub.refl _, fun b o e n _ => st2 b o (fun z => by subst z; exact n ma) e, g1, fun b m => .inl ((g2 b m).elim (s2 b) (s1 b)), fun _ _ e => .inl e⟩
end
section
variable {X : Cx} {W : WX} {e o : Expr} {es : List Expr} {da : DA} {de : DE} {pos : Pos}
theorem sx_setF (i : Nat) {x f : Str} {cs : List Str} {p p' : Pos} (hc : ∀ c ∈ cs, ∀ C, X.mg c = some (.ref C) → Cls X.K C ∧ NoAttr X.K C f) (he : SE X W e de) (hN : X.N[i]? = some x := by rfl) (hv : Vis X.env.scope x := by first | exact Or.inl rfl | exact Or.inr (Or.inl rfl) | exact Or.inr (Or.inr rfl))
    (hd : (x == ("__debug__" : Str)) = false := by decide) (hcd : (x == ("__classdict__" : Str)) = false := by decide) (hs : swapsWith e (some (.Attribute (.Name x p) f p')) pos.line X.env = pure false := by rfl) :
    SS X W (.Assign [.Attribute (.Name x p) f p'] e pos) (dSetF cs i f de) :=
  PS_imp (ps_fld (pe_var hN hv hd hcd) he hs) fun E σ H ⟨w, G, env, L, fp, hk, R, h⟩ => by
    unfold dSetF at h
    split at h
    · rename_i c ns xs ev
      split at h
      · rename_i cc
        simp only [Bool.and_eq_true, decide_eq_true_eq] at cc
        obtain ⟨⟨⟨c1, c2⟩, c3⟩, c4⟩ := cc
        refine ⟨w, G, env, L, fp, hk, R, (PVS.thenF h).imp fun y H1 ⟨G1, L1, z, a1, d1, h1⟩ => ?_⟩
        obtain ⟨a, C, dx, fs, e1, hm, ha, hns, hl, ma, ns', up⟩ := a1.rel.ownO ev
        refine ⟨.ref a, e1, a, C, dx, fs, rfl, ha, ?_⟩
        obtain ⟨k1, k2⟩ := hc c (by simpa using c1) C (hk.2.1 ▸ hm)
        split at h1
        · rename_i kz
          have key : ∀ {H' : Hp} {fq : List Addr}, RDs w G1 H' xs (fs.map (·.2)) fq → (putF f y fs).map (·.1) = (putN f z ns xs).1 ∧ RDs w G1 H' (putN f z ns xs).2 ((putF f y fs).map (·.2)) fq ∧ okfs isFz (putN f z ns xs).2 = true := fun {H' fq} r => by
            have e0 : fq = [] := fz_none.2 _ _ _ r c2
            subst e0
            rw [← hns]
            exact putN_ok (RD.fzAny d1 kz) kz r c2
          obtain ⟨v0, f0, _, hrd, _, _⟩ := a1.rel.re.get ev
          simp only [RD] at hrd
          obtain ⟨a', C', dx', fs', fq', e1', _, hns', hl', r'⟩ := hrd
          have r0 : ∃ fq, RDs w G1 H1 xs (fs.map (·.2)) fq := by
            obtain ⟨ha', _⟩ := hl'
            have : v0 = .ref a := by
              have q := e1.symm.trans ‹σ[i]? = some (some v0)›
              simpa using q.symm
            subst this
            obtain rfl : a = a' := by simpa using e1'
            rw [ha] at ha'
            injection ha' with ha'
            injection ha' with _ _ e3
            subst e3
            exact ⟨_, r'⟩
          obtain ⟨fq, r0⟩ := r0
          obtain ⟨q1, q2, q3⟩ := key r0
          obtain ⟨fp', A⟩ := up _ _ (putF f y fs) q1 (fun r => (key r).2.1) ((okf_imp fz_sto).2 _ q3)
          exact ⟨k1, k2, by rw [hl]; exact c4, h1 _ _ _ _ A⟩
        · exact h1.elim
      · exact h.elim
    · exact h.elim
def instD (c : Str) (o : Option (Option D)) (L : List Int) : Res D := match o with
  | some (some (.obj .me c' ns xs)) => if c' = c then .ok (.obj .ow c ns xs) L else .stuck
  | _ => .stuck
/-- __init__ as a meaning: the new instance -/
def dInit (np nn : Nat) (c : Str) (body : DS) : DF := fun args L => match body (some (.obj .me c [] []) :: (args.map some ++ List.replicate (nn - np) none)) L with
  | .nx env' L' => instD c env'[0]? L'
  | .exc c ns xs _ L' => .exc c ns xs L'
  | _ => .stuck
end
def SpI (K : PySem.W.Frag) (mg : Str → Option Value) (c : Str) (n : Nat) (f : DF) : Sp := fun vs H Q E => vs.length = n + 1 ∧ ∃ w G args L x C dx us, vs = .ref x :: us ∧ w.mg c = some (.ref C) ∧ H x = some (.ins C dx []) ∧ H dx = some (.own x) ∧ dx ≠ x ∧ w.me = some (x, dx) ∧
  (∀ a, a = x ∨ a = dx → G a = none ∧ w.B a = none ∧ w.st ≠ some a) ∧ (w.K = K ∧ w.mg = mg ∧ w.ex = none) ∧ Sub G H ∧ Sub w.B H ∧ (∀ a, w.st = some a → H a = some (.lst (L.map V.int)) ∧ G a = none ∧ w.B a = none) ∧
  RDs w G H args us [] ∧ okfs isArg args = true ∧ match f args L with
  | .ok o L' => ∀ G' H' fo, Sub G G' → (∀ a u, H a = some u → a ≠ x → a ≠ dx → w.st ≠ some a → H' a = some u) → Sub G' H' → (∀ a, w.st = some a → H' a = some (.lst (L'.map V.int)) ∧ G' a = none) → (∀ a u, G' a = some u → G a = some u ∨ H a = none ∨ a = x ∨ a = dx) →
      RD w G' H' o (.ref x) fo → okf isSto o = true → fo.Nodup → (∀ a ∈ fo, (a = x ∨ a = dx ∨ H a = none) ∧ G' a = none ∧ w.st ≠ some a) → Q .non H'
  | .exc c ns xs L' => ∀ G' H' cls dd, Sub G G' → (∀ a u, H a = some u → a ≠ x → a ≠ dx → w.st ≠ some a → H' a = some u) → Sub G' H' → (∀ a, w.st = some a → H' a = some (.lst (L'.map V.int)) ∧ G' a = none) → (∀ a u, G' a = some u → G a = some u ∨ H a = none ∨ a = x ∨ a = dx) →
      ExcAt w c ns xs G' H' cls dd → E cls dd H'
  | .stuck => False
section
variable {P : Program} {w : World} {K : PySem.W.Frag} {mg : Str → Option Value} {base : Heap}
theorem okI' {qual c : Str} {st : Stmt} {f : Addr} {fd : FuncData} {N ps : List Str} {k np nn : Nat} {body : DS} (ok : ∀ sp : Sp, (∀ vs H Q E, sp vs H Q E → vs.length = ps.length) → (∀ (cdv : Value) (A : Around) (outer : List PySem.Env) (s : Shared) (H : Hp) (vs : List V) (Q : VK) (E : XK), Room k (A.deeper (envOfC qual (defScope st) s.heap.objs.size f cdv)) → sp vs H Q E →
      ∃ t, PSs (cxOf (L2.CX P w) P w K mg base N qual (defScope st) f cdv A outer s H E) (defBody st) t ∧ t { nx := fun _ H' => Q .non H', rt := Q } (L2.start N vs) H) → FnOk P w K mg base (L2.CX P w) (k + 1) f fd ps sp) (hp : ps.length = np + 1) (hn : N.length = nn + 1)
    (hb : ∀ (cdv : Value) (A : Around) (outer : List PySem.Env) (s : Shared) (H : Hp) (E : XK), Room k (A.deeper (envOfC qual (defScope st) s.heap.objs.size f cdv)) →
      Takes (cxOf (L2.CX P w) P w K mg base N qual (defScope st) f cdv A outer s H E) (fun cls d _ H => E cls d H) →
      SSs (cxOf (L2.CX P w) P w K mg base N qual (defScope st) f cdv A outer s H E) (fun cls d _ H => E cls d H) (defBody st) body) :
    FnOk P w K mg base (L2.CX P w) (k + 1) f fd ps (SpI K mg c np (dInit np nn c body)) := by
  refine ok _ (fun vs H Q E h => h.1.trans hp.symm) (fun cdv A outer s H vs Q E hr h => ⟨_, hb cdv A outer s H E hr (takes_of rfl rfl rfl rfl), ?_⟩)
  obtain ⟨hl, w0, G, args, L, x, C, dx, us, rfl, hC, hx, hdx, ndx, hme, own, hk, g, b, st, d, k, h⟩ := h
  have hul : us.length = np := by simpa using hl
  have R0 : RE w0 G H (args.map some ++ List.replicate (nn - np) none) (us.map some ++ List.replicate (nn - np) none) [] := RE_args (RE_dead _) d ((okf_imp arg_nlo).2 _ k)
  have R : Rel w0 G (some (.obj .me c [] []) :: (args.map some ++ List.replicate (nn - np) none)) L (L2.start N (.ref x :: us)) H [x, dx] := by
    refine ⟨?_, by simp [ndx.symm], g, b, fun a m => ?_, st⟩
    · have e : L2.start N (.ref x :: us) = some (.ref x) :: (us.map some ++ List.replicate (nn - np) none) := by
        unfold L2.start
        rw [hn, List.length_cons, hul, List.map_cons, List.cons_append, show nn + 1 - (np + 1) = nn - np by omega]
      rw [e]
      refine ⟨.ref x, _, [x, dx], [], rfl, rfl, ?_, rfl, R0⟩
      simp only [RD]
      exact ⟨x, C, dx, [], [], rfl, hC, rfl, ⟨hx, hdx, rfl, hme, (own x (.inl rfl)).2.2, rfl⟩, RDs.nil⟩
    · exact own a (by simpa using m)
  refine ⟨w0, G, _, L, [x, dx], ⟨hk.1, hk.2.1, hk.2.2.trans (Eq.symm (exA_of hr.hd))⟩, R, ?_⟩
  have sep : ∀ a, a ∉ [x, dx] ↔ a ≠ x ∧ a ≠ dx := fun a => by simp
  unfold dInit at h
  revert h
  cases body (some (.obj .me c [] []) :: (args.map some ++ List.replicate (nn - np) none)) L with
  | nx env' L' =>
    intro h G' H' σ' fp' a
    simp only at h
    unfold instD at h
    cases q : env'[0]? with
    | none => rw [q] at h; exact h.elim
    | some o =>
      rw [q] at h
      cases o with
      | none => exact h.elim
      | some o =>
        cases o with
        | obj fl c' ns xs =>
          cases fl with
          | me =>
            simp only at h
            by_cases cc : c' = c
            · simp only [cc, if_true] at h
              obtain ⟨v, f1, e1, hrd, _, hs, hnd⟩ := a.rel.re.get q
              simp only [RD] at hrd
              obtain ⟨a', C', dx', fs, fq, rfl, hm2, hns, hl2, r2⟩ := hrd
              obtain ⟨ha, hd2, ho, hme2, hst2, rfl⟩ := hl2
              rw [hme] at hme2
              injection hme2 with hme2
              injection hme2 with e2 e3
              subst e2 e3
              refine h G' H' (x :: dx :: fq) a.sub (fun b u e n1 n2 n3 => a.step b u e ((sep b).mpr ⟨n1, n2⟩) n3) a.rel.gs (fun b e => ⟨(a.rel.st b e).1, (a.rel.st b e).2.1⟩) (fun b u e => (a.new b u e).imp id fun q => q.imp id fun m => by simpa using m) ?_ ?_ (hnd a.rel.nd) fun b m => ⟨?_, (a.rel.ow b (hs b m)).1, (a.rel.ow b (hs b m)).2.2⟩
              · simp only [RD]
                exact ⟨x, C', dx, fs, fq, rfl, cc ▸ hm2, hns, ⟨ha, hd2, ho, rfl⟩, r2⟩
              · show (isSto .ow && okfs isSto xs) = true; rw [ho]; rfl
              · rcases a.fpx b (hs b m) with z | z
                · have z' : b = x ∨ b = dx := by simpa using z
                  rcases z' with z | z
                  · exact .inl z
                  · exact .inr (.inl z)
                · exact .inr (.inr z)
            · simp only [cc, if_false] at h
          | _ => exact h.elim
        | _ => exact h.elim
  | ret x L' => exact fun h => h.elim
  | exc c ns xs env' L' => exact fun h G' H' σ' fp' cls dd a z => h G' H' cls dd a.sub (fun b u e n1 n2 n3 => a.step b u e ((sep b).mpr ⟨n1, n2⟩) n3) a.rel.gs (fun b e => ⟨(a.rel.st b e).1, (a.rel.st b e).2.1⟩) (fun b u e => (a.new b u e).imp id fun q => q.imp id fun m => by simpa using m) z
  | brk env' L' => exact fun h => h.elim
  | cnt env' L' => exact fun h => h.elim
  | stuck => exact fun h => h.elim
end
section
variable {X : Cx} {e : Expr} {es : List Expr} {da : DA} {pos : Pos}
/-- C(..) -/
theorem make_spI {W : WX} {E : XK} {C : Addr} {c : Str} {di : DF} {n : Nat} {w : Gw} {G1 H1 : Hp} {env : Env} {σ : L2.St} {fp : List Addr} {L1 : List Int} {ys : List D} {vs : List V} {Q : VK} {x dx : Addr} (R1 : Rel w G1 env L1 σ H1 fp) (hk : w.K = X.K ∧ w.mg = X.mg ∧ w.ex = X.exA) (hx : X.exA = none) (hm : X.mg c = some (.ref C))
    (d1 : RDs w G1 H1 ys vs []) (cn : ys.length = n) (h1 : PV w G1 env σ H1 fp W (di (bws ys) L1) Q) (hE : ∀ cls dd H', W cls dd σ H' → E cls dd H') (nx : H1 x = none) (ndx : H1 dx = none) (nex : dx ≠ x) :
    SpI X.K X.mg c n di (.ref x :: vs) (upd (upd H1 dx (.own x)) x (.ins C dx [])) (fun v H2 => v = .non ∧ Q (.ref x) H2) E := by
  -- the two new objects
  have k1 : Ahead w G1 env σ H1 fp L1 G1 (upd H1 dx (.own x)) := Ahead.push R1 ndx
  have nx' : upd H1 dx (.own x) x = none := by rw [upd_ne nex.symm]; exact nx
  have k2 : Ahead w G1 env σ H1 fp L1 G1 (upd (upd H1 dx (.own x)) x (.ins C dx [])) := k1.trans (Ahead.push k1.rel nx')
  obtain ⟨H2, e2⟩ : ∃ H2, H2 = upd (upd H1 dx (.own x)) x (.ins C dx []) := ⟨_, rfl⟩
  rw [← e2] at k2 ⊢
  have hx2 : H2 x = some (.ins C dx []) := by rw [e2, upd_same]
  have hd2 : H2 dx = some (.own x) := by rw [e2, upd_ne nex, upd_same]
  have fx := R1.free nx
  have fd' := R1.free ndx
  have back : ∀ a, H2 a = none → H1 a = none := fun a z => by
    have q1 : a ≠ x := fun q => by rw [q, hx2] at z; cases z
    have q2 : a ≠ dx := fun q => by rw [q, hd2] at z; cases z
    rw [e2, upd_ne q1, upd_ne q2] at z
    exact z
  have d2 := d1.ahead k2
  have lent : ∀ (a : Addr) (o : HO), (Lend w H1 (some (x, dx))).B a = some o → H2 a = some o := fun a o e => by
    have e' : (if w.st = some a then none else H1 a) = some o := e
    split at e'
    · cases e'
    · rename_i z
      exact k2.step a o e' z
  have dl : RDs (Lend w H1 (some (x, dx))) G1 H2 (bws ys) vs [] :=
    ((lend_all (m := some (x, dx)) R1.lendB).2 _ _ d1).step (Sub.refl _) (show Step (Lend w H1 (some (x, dx))) H1 H2 from fun a o e n => k2.step a o e n) (fun _ m => nomatch m)
  refine ⟨by rw [List.length_cons, ← d1.len, cn], Lend w H1 (some (x, dx)), G1, bws ys, L1, x, C, dx, vs, rfl, hk.2.1 ▸ hm, hx2, hd2, nex, rfl, fun a z => ?_, ⟨hk.1, hk.2.1, hk.2.2.trans hx⟩, k2.rel.gs, lent,
    fun a e => ⟨(k2.rel.st a e).1, (k2.rel.st a e).2.1, if_pos e⟩, dl, bw_arg_all.2 _ (now_all.2 _ _ d1), ?_⟩
  · rcases z with rfl | rfl
    · refine ⟨fx.1, ?_, fx.2.2.1⟩
      show (if w.st = some a then none else H1 a) = none
      rw [nx]; split <;> rfl
    · refine ⟨fd'.1, ?_, fd'.2.2.1⟩
      show (if w.st = some a then none else H1 a) = none
      rw [ndx]; split <;> rfl
  · have stp : ∀ {H' : Hp}, (∀ a u, H2 a = some u → a ≠ x → a ≠ dx → w.st ≠ some a → H' a = some u) → Step w H1 H' := fun {H'} q a u e n => by
      have z1 : a ≠ x := fun z => by rw [z, nx] at e; cases e
      have z2 : a ≠ dx := fun z => by rw [z, ndx] at e; cases e
      exact q a u (k2.step a u e n) z1 z2 n
    have nw : ∀ {G' : Hp}, (∀ a u, G' a = some u → G1 a = some u ∨ H2 a = none ∨ a = x ∨ a = dx) → ∀ a u, G' a = some u → G1 a = some u ∨ H1 a = none := fun {G'} q a u e => by
      rcases q a u e with z | z | z | z
      · exact .inl z
      · exact .inr (back a z)
      · exact .inr (z ▸ nx)
      · exact .inr (z ▸ ndx)
    revert h1
    cases di (bws ys) L1 with
    | ok o L' =>
      intro h1 G' H' fo c1 c2 c3 c4 c5 c6 c7 c8 c9
      refine ⟨rfl, ?_⟩
      have ca : CallAt (Lend w H1 none) G1 H1 L' G' H' := ⟨c1, stp c2, c3, c4, nw c5⟩
      have fr : ∀ a ∈ fo, H1 a = none := fun a m => by
        rcases (c9 a m).1 with z | z | z
        · exact z ▸ nx
        · exact z ▸ ndx
        · exact back a z
      refine h1 G' H' (.ref x) fo ⟨R1.called ca, (sto_all (w := Lend w H1 (some (x, dx))) (w' := w) rfl rfl rfl (Sub.refl G')).1 _ _ _ c6 c7 fun _ _ _ e => e, fr, c8, fun a m => ⟨(c9 a m).2.1, Sub.none R1.bs (fr a m), (c9 a m).2.2⟩, fun a m z => ?_⟩
      obtain ⟨u, e⟩ := R1.re.there a z
      rw [fr a m] at e; cases e
    | exc c' ns xs L' =>
      intro h1 G' H' cls dd c1 c2 c3 c4 c5 c6
      have ca : CallAt (Lend w H1 none) G1 H1 L' G' H' := ⟨c1, stp c2, c3, c4, nw c5⟩
      refine hE _ _ _ (h1 G' H' cls dd ⟨R1.called ca, c6.cls, ?_⟩)
      rcases c6.fld with z | ⟨d, fs, e1, e2, e3, e4, e5⟩
      · exact .inl z
      · exact .inr ⟨d, fs, e1, e2, e3, (sto_all (w := Lend w H1 (some (x, dx))) (w' := w) rfl rfl rfl (Sub.refl G')).2 _ _ _ e4 ((okf_imp fz_sto).2 _ e5) fun _ _ _ e => e, e5⟩
    | stuck => exact fun z => z
theorem so_make {EE : XK} {k n : Nat} {C f : Addr} {fd : FuncData} {ps : List Str} {c : Str} {p : Pos} {di : DF} (M : Mk X.K C f) (F : FnOk X.prog X.w X.K X.mg X.base (L2.CX X.prog X.w) k f fd ps (SpI X.K X.mg c n di)) (hr : Room (k + 1) X.A) (tk : Takes X (WK EE)) (hg : Gl X c) (hm : X.mg c = some (.ref C)) (hb : Binds X.K fd ps [])
    (ha : SA X (WK EE) (e :: es) da) (hdb : (c == ("__debug__" : Str)) = false := by decide) (he : starEach (e :: es) X.env = (false, eval e X.env) :: starEach es X.env := by rfl)
    (hpl : (backTo pos (starEach es X.env)).any (·.1) = false := by rfl) : SE X (WK EE) (.Call (.Name c p) (e :: es) [] pos) (dCall n di da) :=
  PE_imp (pe_make (E := EE) M F hr hg hm hb .nil (passes_call tk fun _ _ _ _ h => h) ha hdb he hpl) fun σ H Q ⟨w, G, env, L, fp, hk, R, h⟩ =>
    ⟨w, G, env, L, fp, hk, R, (PVs.bind h).imp fun vs H1 ⟨G1, L1, ys, a1, d1, h1⟩ => by
      intro x dx nx ndx nex
      split at h1
      · rename_i cn
        rw [List.append_nil]
        exact make_spI a1.rel hk (exA_room hr) hm d1 cn h1 (fun _ _ _ z => z) nx ndx nex
      · exact h1.elim⟩
end
end Qd

set_option Elab.async false
set_option linter.all false
set_option maxRecDepth 100000
set_option maxHeartbeats 4000000
namespace Qd
open PySem PySem.Spec PyProof.Rows L2

/-! ### what a loop walks -/
abbrev DI := Env → List Int → Res (List D)
structure Serves (w : Gw) (G0 : Hp) (J : It) (xs : List D) : Prop where
  go : ∀ (i : Nat) (x : D), xs[i]? = some x → ∀ {G : Hp} {env : Env} {L : List Int} {σ : L2.St} {H : Hp} {fp : List Addr}, Sub G0 G → Rel w G env L σ H fp → J.go i H ∧ ∀ v H', J.yld i H v H' → ∃ G', Ahead w G env σ H fp L G' H' ∧ RD w G' H' x v []
  stop : ∀ {G : Hp} {env : Env} {L : List Int} {σ : L2.St} {H : Hp} {fp : List Addr}, Sub G0 G → Rel w G env L σ H fp → J.stop xs.length H
def PVi (w : Gw) (G : Hp) (env : Env) (σ : L2.St) (H : Hp) (fp : List Addr) (W : WX) (r : Res (List D)) (Q : It → Hp → Prop) : Prop := match r with
  | .ok xs L' => ∀ G' H' J, Ahead w G env σ H fp L' G' H' → Serves w G' J xs → Q J H'
  | .exc c ns xs L' => ∀ G' H' cls dd, ExcOk w G env σ H fp c ns xs L' G' H' cls dd → W cls dd σ H'
  | .stuck => False
def tI (K : PySem.W.Frag) (mg : Str → Option Value) (ex : Option (Addr × Obj)) (W : WX) (d : DI) : TI := fun σ H R => ∃ w G env L fp, (w.K = K ∧ w.mg = mg ∧ w.ex = ex) ∧ Rel w G env L σ H fp ∧ PVi w G env σ H fp W (d env L) R
abbrev SI (X : Cx) (W : WX) (tg e : Expr) (d : DI) : Prop := PI X tg e (tI X.K X.mg X.exA W d)
theorem PI_imp {X : Cx} {tg e : Expr} {t t' : TI} (h : PI X tg e t) (i : ∀ σ H Q, t' σ H Q → t σ H Q) : PI X tg e t' := ⟨fun pins s σ H Q I q => h.run pins s σ H Q I (i σ H Q q)⟩
section
variable {w : Gw} {G G1 H H1 : Hp} {env : Env} {σ : L2.St} {fp : List Addr} {W : WX} {L L1 : List Int} {Q : It → Hp → Prop}
theorem PVi.later {r : Res (List D)} (h : PVi w G env σ H fp W r Q) (a : Ahead w G env σ H fp L1 G1 H1) : PVi w G1 env σ H1 fp W r Q := by
  cases r with
  | ok x L' => exact fun G' H' v o d => h G' H' v (a.trans o) d
  | exc c ns xs L' => exact fun G' H' cls dd o => h G' H' cls dd ⟨a.trans o.toAhead, o.cls, o.fld⟩
  | stuck => exact h
theorem PVi.bindF {r : Res D} {k : D → List Int → Res (List D)} (h : PVi w G env σ H fp W (r.bindF k) Q) :
    PV w G env σ H fp W r (fun v H1 => ∃ G1 L1 x, Ahead w G env σ H fp L1 G1 H1 ∧ RD w G1 H1 x v [] ∧ PVi w G1 env σ H1 fp W (k x L1) Q) := by
  cases r with
  | ok x L' =>
    intro G' H' v f o
    obtain ⟨G'', p⟩ := o.freeze
    exact ⟨G'', L', fz x, p.toAhead, p.rd, PVi.later h p.toAhead⟩
  | exc c ns xs L' => exact h
  | stuck => exact h
theorem PVi.binds {r : Res (List D)} {k : List D → List Int → Res (List D)} (h : PVi w G env σ H fp W (r.bind k) Q) :
    PVs w G env σ H fp W r (fun vs H1 => ∃ G1 L1 xs, Ahead w G env σ H fp L1 G1 H1 ∧ RDs w G1 H1 xs vs [] ∧ PVi w G1 env σ H1 fp W (k xs L1) Q) := by
  cases r with
  | ok x L' => exact fun G' H' v o d => ⟨G', L', x, o, d, PVi.later h o⟩
  | exc c ns xs L' => exact h
  | stuck => exact h
theorem PVi.bindI {r : Res (List D)} {k : List D → List Int → Res D} {Q : VK} (h : PV w G env σ H fp W (r.bind k) Q) :
    PVi w G env σ H fp W r (fun J H1 => ∃ G1 L1 xs, Ahead w G env σ H fp L1 G1 H1 ∧ Serves w G1 J xs ∧ PV w G1 env σ H1 fp W (k xs L1) Q) := by
  cases r with
  | ok x L' => exact fun G' H' v o d => ⟨G', L', x, o, d, PV.later h o⟩
  | exc c ns xs L' => exact h
  | stuck => exact h
theorem PVS.theni {r : Res (List D)} {k : List D → List Int → SRes} {E : Ends} (h : PVS w G H fp W (r.then env k) E) : PVi w G env σ H fp W r (fun J H1 => ∃ G1 L1 xs, Ahead w G env σ H fp L1 G1 H1 ∧ Serves w G1 J xs ∧ PVS w G1 H1 fp W (k xs L1) E) := by
  cases r with
  | ok x L' => exact fun G' H' v o d => ⟨G', L', x, o, d, PVS.later h o.after⟩
  | exc c ns xs L' => exact fun G' H' cls dd o => h G' H' σ fp cls dd o.toAhead.after ⟨o.cls, o.fld⟩
  | stuck => exact h
theorem RD.argAny {w : Gw} {G G' H H' : Hp} (g : Sub G G') {y : D} {v : V} (d : RD w G H y v []) (k : okf isArg y = true) : RD w G' H' y v [] := d.mono g ((okf_imp arg_nlo).1 _ k) (fun _ m => nomatch m)
end

/-! ### sources -/
def seqOf : D → Option (List D)
  | .lst f xs => if isArg f && okfs isArg xs then some xs else none
  | .tup xs => some xs
  | _ => none
def optR (o : Option (List D)) (L : List Int) : Res (List D) := match o with
  | some xs => .ok xs L
  | none => .stuck
/-- over a list or a tuple -/
def dIt (de : DE) : DI := fun env L => (de env L).bindF fun x L1 => optR (seqOf x) L1
def smallI (i : Int) : Bool := decide (-(2 ^ 62) ≤ i) && decide (i < 2 ^ 62)
def rngD (lo : Int) (n : Nat) : List D := (List.range n).map fun k => D.int (lo + (k : Nat))
def dRng1 (da : DA) : DI := fun env L => (da env L).bind fun xs L1 => match xs with
  | [.int j] => if smallI j then .ok (rngD 0 j.toNat) L1 else .stuck
  | _ => .stuck
def dRng2 (da : DA) : DI := fun env L => (da env L).bind fun xs L1 => match xs with
  | [.int i, .int j] => if smallI i && smallI j then .ok (rngD i (j - i).toNat) L1 else .stuck
  | _ => .stuck
/-- range(i, j, -1) -/
def dRng3 (da : DA) : DI := fun env L => (da env L).bind fun xs L1 => match xs with
  | [.int i, .int j, .int c] => if smallI i && smallI j && decide (c = -1) then .ok ((List.range (i - j).toNat).map fun k => D.int (i - (k : Nat))) L1 else .stuck
  | _ => .stuck
def zipD (xs ys : List D) : List D := List.zipWith (fun x y => D.tup [x, y]) xs ys
def dZip (da : DA) : DI := fun env L => (da env L).bind fun xs L1 => match xs with
  | [.lst f xs, .lst g ys] => if isArg f && isArg g && okfs isFz xs && okfs isFz ys then .ok (zipD xs ys) L1 else .stuck
  | [.tup xs, .tup ys] => .ok (zipD xs ys) L1
  | _ => .stuck
def enuD (xs : List D) : List D := List.zipWith (fun k x => D.tup [.int (k : Nat), x]) (List.range xs.length) xs
def dEnum (da : DA) : DI := fun env L => (da env L).bind fun xs L1 => match xs with
  | [.lst f xs] => if isArg f && okfs isFz xs then .ok (enuD xs) L1 else .stuck
  | _ => .stuck
def dItRev (de : DE) : DI := fun env L => (de env L).bindF fun x L1 => optR ((seqOf x).map List.reverse) L1
theorem okfs_get {p : Fl → Bool} : ∀ {xs : List D} {i : Nat} {x : D}, okfs p xs = true → xs[i]? = some x → okf p x = true
  | [], _, _, _, e => by simp at e
  | d :: r, 0, x, h, e => by
    simp only [okfs, Bool.and_eq_true] at h
    obtain rfl : d = x := by simpa using e
    exact h.1
  | d :: r, i + 1, x, h, e => by
    simp only [okfs, Bool.and_eq_true] at h
    exact okfs_get (i := i) h.2 (by simpa using e)
section
variable {w : Gw} {G H : Hp} {env : Env} {σ : L2.St} {fp : List Addr} {W : WX} {L : List Int}
theorem serves_list {G0 H0 : Hp} {a : Addr} {xs : List D} {vs : List V} (hq : ∀ {G H}, Sub G0 G → Sub G H → Sub w.B H → SqL w.K H a vs) (d : RDs w G0 H0 xs vs []) (k : okfs isArg xs = true) : Serves w G0 (Itl w.K a) xs where
  go i x e := by
    intro G env L σ H fp g R
    obtain ⟨v, e1, d1⟩ := d.get e
    refine ⟨⟨vs, v, hq g R.gs R.bs, e1⟩, fun v' H' y => ?_⟩
    obtain ⟨rfl, y⟩ := y
    have e2 := y vs (hq g R.gs R.bs)
    rw [e1] at e2
    obtain rfl : v = v' := by simpa using e2
    exact ⟨G, .refl R, d1.argAny g (okfs_get k e)⟩
  stop := by
    intro G env L σ H fp g R
    exact ⟨vs, hq g R.gs R.bs, Nat.le_of_eq d.len.symm⟩
theorem serves_tup {G0 H0 : Hp} {a : Addr} {xs : List D} {vs : List V} (hq : SqT w.K G0 a vs) (d : RDs w G0 H0 xs vs []) (k : okfs isFz xs = true) : Serves w G0 (Itt w.K a) xs where
  go i x e := by
    intro G env L σ H fp g R
    obtain ⟨v, e1, d1⟩ := d.get e
    refine ⟨⟨vs, v, Sub.seqT R.gs (g.seqT hq), e1⟩, fun v' H' y => ?_⟩
    obtain ⟨rfl, y⟩ := y
    have e2 := y vs (Sub.seqT R.gs (g.seqT hq))
    rw [e1] at e2
    obtain rfl : v = v' := by simpa using e2
    exact ⟨G, .refl R, d1.argAny g ((okf_imp fz_arg).1 _ (okfs_get k e))⟩
  stop := by
    intro G env L σ H fp g R
    exact ⟨vs, Sub.seqT R.gs (g.seqT hq), Nat.le_of_eq d.len.symm⟩
theorem rngD_get {lo : Int} {n i : Nat} {x : D} (e : (rngD lo n)[i]? = some x) : i < n ∧ x = .int (lo + (i : Nat)) := by
  unfold rngD at e
  rw [List.getElem?_map] at e
  by_cases h : i < n
  · rw [List.getElem?_range h] at e
    exact ⟨h, by simpa using e.symm⟩
  · rw [List.getElem?_eq_none (by simpa using h)] at e
    cases e
theorem serves_rng {G0 : Hp} {lo : Int} {n : Nat} : Serves w G0 (Itr lo n) (rngD lo n) where
  go i x e := by
    intro G env L σ H fp g R
    obtain ⟨h, rfl⟩ := rngD_get e
    refine ⟨h, fun v' H' y => ?_⟩
    obtain ⟨rfl, rfl⟩ := y
    exact ⟨G, .refl R, .int _⟩
  stop := by
    intro G env L σ H fp g R
    show n ≤ (rngD lo n).length
    simp [rngD]
/-- where a list stands, whatever comes -/
theorem RD.seqL_of {fl : Fl} {xs : List D} {v : V} (h : RD w G H (.lst fl xs) v []) (k : isArg fl = true) : ∃ a vs, v = .ref a ∧ RDs w G H xs vs [] ∧ ∀ {G' H'}, Sub G G' → Sub G' H' → Sub w.B H' → SqL w.K H' a vs := by
  simp only [RD] at h
  obtain ⟨a, vs, fp', e, hl, r⟩ := h
  cases fl with
  | fz => obtain ⟨h1, h2, rfl, _⟩ := hl; exact ⟨a, vs, e, r, fun g s _ => .of (s _ _ (g _ _ h1))⟩
  | kz => obtain ⟨h1, h2, rfl, _⟩ := hl; exact ⟨a, vs, e, r, fun g s _ => Sub.seqL s (g.seqL h1)⟩
  | bo => obtain ⟨h1, h2, rfl, _⟩ := hl; exact ⟨a, vs, e, r, fun _ _ b => .of (b _ _ h1)⟩
  | lo => cases k
  | ow => cases k
  | me => cases k
theorem RD.seqT_of {xs : List D} {v : V} (h : RD w G H (.tup xs) v []) : ∃ a vs, v = .ref a ∧ SqT w.K G a vs ∧ RDs w G H xs vs [] ∧ okfs isFz xs = true := by
  simp only [RD] at h
  obtain ⟨a, vs, e, _, hq, k, r⟩ := h
  exact ⟨a, vs, e, hq, r, k⟩
end
section
variable {X : Cx} {W : WX} {tg e e2 : Expr} {de : DE} {da : DA}
theorem si_seq (he : SE X W e de) : SI X W tg e (dIt de) := by
  refine ⟨fun pins s σ H Q I ⟨w, G, env, L, fp, hk, R, h⟩ => ?_⟩
  have h' := PVi.bindF h
  by_cases kt : ∃ xs L', de env L = .ok (.tup xs) L'
  · obtain ⟨xs, L', ex⟩ := kt
    refine (pi_tup he).run pins s σ H Q I ⟨w, G, env, L, fp, hk, R, ?_⟩
    unfold dIt at h
    rw [ex] at h ⊢
    intro G' H' v f o
    obtain ⟨G'', p⟩ := o.freeze
    obtain ⟨G1, L1, x, a1, d1, h1⟩ : ∃ G1 L1 x, Ahead w G env σ H fp L1 G1 H' ∧ RD w G1 H' (.tup x) v [] ∧ PVi w G1 env σ H' fp W (optR (some x) L1) Q := ⟨G'', L', fzs xs, p.toAhead, p.rd, PVi.later h p.toAhead⟩
    obtain ⟨a, vs, e1, hq, r, k⟩ := d1.seqT_of
    refine ⟨a, e1, ⟨vs, hk.1 ▸ Sub.seqT a1.rel.gs hq⟩, ?_⟩
    have z := h1 G1 H' (Itt w.K a) (.refl a1.rel) (serves_tup hq r k)
    rw [hk.1] at z
    exact z
  · refine (pi_list he).run pins s σ H Q I ⟨w, G, env, L, fp, hk, R, ?_⟩
    revert h h'
    unfold dIt
    cases ex : de env L with
    | ok x L' =>
      intro h h' G' H' v f o
      obtain ⟨G'', p⟩ := o.freeze
      have h1 : PVi w G'' env σ H' fp W (optR (seqOf (fz x)) L') Q := PVi.later h p.toAhead
      have d1 := p.rd
      revert h1 d1
      generalize ey : fz x = y
      cases y with
      | lst fl xs =>
        intro h1 d1
        simp only [seqOf] at h1
        by_cases c : (isArg fl && okfs isArg xs) = true
        · simp only [c, if_true] at h1
          simp only [Bool.and_eq_true] at c
          obtain ⟨a, vs, e1, r, hq⟩ := d1.seqL_of c.1
          refine ⟨a, e1, ⟨vs, hk.1 ▸ hq (Sub.refl _) p.rel.gs p.rel.bs⟩, ?_⟩
          have z := h1 G'' H' (Itl w.K a) (.refl p.rel) (serves_list hq r c.2)
          rw [hk.1] at z
          exact z
        · simp only [c] at h1
          exact h1.elim
      | tup xs =>
        intro h1 d1
        exfalso
        cases x with
        | tup ys => exact kt ⟨ys, L', ex⟩
        | _ => simp [fz] at ey
      | _ => exact fun h1 _ => h1.elim
    | exc c ns xs L' => exact fun h h' => h'
    | stuck => exact fun h h' => h'
theorem smallI_of {i : Int} (h : smallI i = true) : -(2 ^ 62) ≤ i ∧ i < 2 ^ 62 := by
  unfold smallI at h
  simp only [Bool.and_eq_true, decide_eq_true_eq] at h
  exact h
theorem si_rng1 {p pos : Pos} (hg : Gl X "range") (hm : X.mg "range" = none) (ha : SA X W [e] da) (hs : starEach [e] X.env = [(false, eval e X.env)] := by rfl) : SI X W tg (.Call (.Name "range" p) [e] [] pos) (dRng1 da) :=
  PI_imp (pi_range1 hg hm ha hs) fun σ H Q ⟨w, G, env, L, fp, hk, R, h⟩ => ⟨w, G, env, L, fp, hk, R, (PVi.binds h).imp fun vs H1 ⟨G1, L1, xs, a1, d1, h1⟩ => by
    split at h1
    · rename_i j
      split at h1
      · rename_i c
        obtain ⟨v, us, rfl, r1, r2⟩ := d1.cons_of
        rw [r1.int_of, r2.nil_of]
        exact ⟨j, rfl, (smallI_of c).1, (smallI_of c).2, h1 G1 H1 _ (.refl a1.rel) serves_rng⟩
      · exact h1.elim
    · exact h1.elim⟩
theorem si_rng2 {p pos : Pos} (hg : Gl X "range") (hm : X.mg "range" = none) (ha : SA X W [e, e2] da) (hs : starEach [e, e2] X.env = [(false, eval e X.env), (false, eval e2 X.env)] := by rfl) (hs2 : starEach [e2] X.env = [(false, eval e2 X.env)] := by rfl) :
    SI X W tg (.Call (.Name "range" p) [e, e2] [] pos) (dRng2 da) :=
  PI_imp (pi_range2 hg hm ha hs hs2) fun σ H Q ⟨w, G, env, L, fp, hk, R, h⟩ => ⟨w, G, env, L, fp, hk, R, (PVi.binds h).imp fun vs H1 ⟨G1, L1, xs, a1, d1, h1⟩ => by
    split at h1
    · rename_i i j
      split at h1
      · rename_i c
        simp only [Bool.and_eq_true] at c
        obtain ⟨v, us, rfl, r1, r2⟩ := d1.cons_of
        obtain ⟨v', us', rfl, r3, r4⟩ := r2.cons_of
        rw [r1.int_of, r3.int_of, r4.nil_of]
        exact ⟨i, j, rfl, ⟨(smallI_of c.1).1, (smallI_of c.1).2, (smallI_of c.2).1, (smallI_of c.2).2⟩, h1 G1 H1 _ (.refl a1.rel) serves_rng⟩
      · exact h1.elim
    · exact h1.elim⟩
theorem zipD_get {xs ys : List D} {i : Nat} {z : D} (e : (zipD xs ys)[i]? = some z) : ∃ x y, xs[i]? = some x ∧ ys[i]? = some y ∧ z = .tup [x, y] := by
  unfold zipD at e
  rw [List.getElem?_zipWith] at e
  cases e1 : xs[i]? with
  | none => rw [e1] at e; cases e
  | some x =>
    cases e2 : ys[i]? with
    | none => rw [e1, e2] at e; cases e
    | some y => rw [e1, e2] at e; exact ⟨x, y, rfl, rfl, by simpa using e.symm⟩
theorem pair_ahead {w : Gw} {G H : Hp} {env : Env} {σ : L2.St} {fp : List Addr} {L : List Int} {T : Addr} {x y : D} {v u : V} (R : Rel w G env L σ H fp) (n : H T = none) (d1 : RD w G H x v []) (d2 : RD w G H y u []) (k1 : okf isFz x = true) (k2 : okf isFz y = true) :
    ∃ G', Ahead w G env σ H fp L G' (upd H T (.tup [v, u])) ∧ RD w G' (upd H T (.tup [v, u])) (.tup [x, y]) (.ref T) [] := by
  have a := Ahead.pushG (o := .tup [v, u]) R n
  refine ⟨_, a, ?_⟩
  simp only [RD]
  exact ⟨T, [v, u], rfl, trivial, .of upd_same, by simp only [okfs, k1, k2]; rfl, RDs.cons (d1.ahead a) (RDs.cons (d2.ahead a) RDs.nil)⟩
theorem serves_zipL {w : Gw} {G0 H0 : Hp} {a b : Addr} {xs ys : List D} {vs us : List V} (hq : ∀ {G H}, Sub G0 G → Sub G H → Sub w.B H → SqL w.K H a vs) (hr : ∀ {G H}, Sub G0 G → Sub G H → Sub w.B H → SqL w.K H b us)
    (d : RDs w G0 H0 xs vs []) (d' : RDs w G0 H0 ys us []) (k : okfs isFz xs = true) (k' : okfs isFz ys = true) : Serves w G0 (Itz w.K a b) (zipD xs ys) where
  go i z e := by
    intro G env L σ H fp g R
    obtain ⟨x, y, ex, ey, rfl⟩ := zipD_get e
    obtain ⟨v, e1, d1⟩ := d.get ex
    obtain ⟨u, e2, d2⟩ := d'.get ey
    refine ⟨⟨vs, us, v, u, hq g R.gs R.bs, hr g R.gs R.bs, e1, e2⟩, fun v' H' ⟨T, x', y', e3, n, e4, z1, z2⟩ => ?_⟩
    have q1 := z1 vs (hq g R.gs R.bs)
    have q2 := z2 us (hr g R.gs R.bs)
    rw [e1] at q1; rw [e2] at q2
    obtain rfl : v = x' := by simpa using q1
    obtain rfl : u = y' := by simpa using q2
    subst e3 e4
    exact pair_ahead R n (d1.argAny g ((okf_imp fz_arg).1 _ (okfs_get k ex))) (d2.argAny g ((okf_imp fz_arg).1 _ (okfs_get k' ey))) (okfs_get k ex) (okfs_get k' ey)
  stop := by
    intro G env L σ H fp g R
    refine ⟨vs, us, hq g R.gs R.bs, hr g R.gs R.bs, ?_⟩
    simp only [zipD, List.length_zipWith, ← d.len, ← d'.len]
    omega
theorem serves_zipT {w : Gw} {G0 H0 : Hp} {a b : Addr} {xs ys : List D} {vs us : List V} (hq : SqT w.K G0 a vs) (hr : SqT w.K G0 b us)
    (d : RDs w G0 H0 xs vs []) (d' : RDs w G0 H0 ys us []) (k : okfs isFz xs = true) (k' : okfs isFz ys = true) : Serves w G0 (RZ.ItzT w.K a b) (zipD xs ys) where
  go i z e := by
    intro G env L σ H fp g R
    have hq' := Sub.seqT R.gs (g.seqT hq)
    have hr' := Sub.seqT R.gs (g.seqT hr)
    obtain ⟨x, y, ex, ey, rfl⟩ := zipD_get e
    obtain ⟨v, e1, d1⟩ := d.get ex
    obtain ⟨u, e2, d2⟩ := d'.get ey
    refine ⟨⟨vs, us, v, u, hq', hr', e1, e2⟩, fun v' H' ⟨T, x', y', e3, n, e4, z1, z2⟩ => ?_⟩
    have q1 := z1 vs hq'
    have q2 := z2 us hr'
    rw [e1] at q1; rw [e2] at q2
    obtain rfl : v = x' := by simpa using q1
    obtain rfl : u = y' := by simpa using q2
    subst e3 e4
    exact pair_ahead R n (d1.argAny g ((okf_imp fz_arg).1 _ (okfs_get k ex))) (d2.argAny g ((okf_imp fz_arg).1 _ (okfs_get k' ey))) (okfs_get k ex) (okfs_get k' ey)
  stop := by
    intro G env L σ H fp g R
    refine ⟨vs, us, Sub.seqT R.gs (g.seqT hq), Sub.seqT R.gs (g.seqT hr), ?_⟩
    simp only [zipD, List.length_zipWith, ← d.len, ← d'.len]
    omega
theorem si_zip {p pos tpos : Pos} {elts : List Expr} {kk : Nat} (hg : Gl X "zip") (hm : X.mg "zip" = none) (ha : SA X W [e, e2] da)
    (hs : starEach [e, e2] X.env = (false, eval e X.env) :: starEach [e2] X.env := by rfl) (hpl : (backTo pos (starEach [e2] X.env)).any (·.1) = false := by rfl) :
    SI X W (.Tuple elts kk tpos) (.Call (.Name "zip" p) [e, e2] [] pos) (dZip da) :=
  PI_imp (RZ.pi_zipA hg hm ha hs hpl) fun σ H Q ⟨w, G, env, L, fp, hk, R, h⟩ => ⟨w, G, env, L, fp, hk, R, (PVi.binds h).imp fun vs H1 ⟨G1, L1, xs, a1, d1, h1⟩ => by
    split at h1
    · rename_i f xs g ys
      split at h1
      · rename_i c
        simp only [Bool.and_eq_true] at c
        obtain ⟨v, us, rfl, r1, r2⟩ := d1.cons_of
        obtain ⟨v', us', rfl, r3, r4⟩ := r2.cons_of
        obtain ⟨a, vs1, rfl, s1, q1⟩ := r1.seqL_of c.1.1.1
        obtain ⟨b, vs2, rfl, s2, q2⟩ := r3.seqL_of c.1.1.2
        rw [r4.nil_of]
        have z := h1 G1 H1 (Itz w.K a b) (.refl a1.rel) (serves_zipL q1 q2 s1 s2 c.1.2 c.2)
        rw [hk.1] at z
        exact ⟨a, b, vs1, vs2, rfl, .inl ⟨hk.1 ▸ q1 (Sub.refl _) a1.rel.gs a1.rel.bs, hk.1 ▸ q2 (Sub.refl _) a1.rel.gs a1.rel.bs, z⟩⟩
      · exact h1.elim
    · rename_i xs ys
      obtain ⟨v, us, rfl, r1, r2⟩ := d1.cons_of
      obtain ⟨v', us', rfl, r3, r4⟩ := r2.cons_of
      obtain ⟨a, vs1, rfl, q1, s1, c1⟩ := r1.seqT_of
      obtain ⟨b, vs2, rfl, q2, s2, c2⟩ := r3.seqT_of
      rw [r4.nil_of]
      have z := h1 G1 H1 (RZ.ItzT w.K a b) (.refl a1.rel) (serves_zipT q1 q2 s1 s2 c1 c2)
      rw [hk.1] at z
      exact ⟨a, b, vs1, vs2, rfl, .inr ⟨hk.1 ▸ Sub.seqT a1.rel.gs q1, hk.1 ▸ Sub.seqT a1.rel.gs q2, z⟩⟩
    · exact h1.elim⟩
end

/-! ### targets -/
inductive Pat where
  | nm (i : Nat)
  | tp (i : List Nat)
def bindN : List Nat → List D → Env → Option Env
  | [], [], env => some env
  | i :: is, x :: xs, env => if okf notLo x then bindN is xs (env.set i (some x)) else none
  | _, _, _ => none
def bindP : Pat → D → Env → Option Env
  | .nm i, x, env => bindN [i] [x] env
  | .tp is, .tup xs, env => bindN is xs env
  | _, _, _ => none
def Pat.slots : Pat → List Nat
  | .nm i => [i]
  | .tp is => is
/-- what a target's store gives -/
structure BindOk (w : Gw) (G : Hp) (env1 : Env) (L : List Int) (σ : L2.St) (H : Hp) (fp : List Addr) (σ1 : L2.St) (is : List Nat) : Prop where
  rel : ∃ fp1, Rel w G env1 L σ1 H fp1 ∧ ∀ a ∈ fp1, a ∈ fp
  wipe : ∀ ws : List Nat, (∀ i ∈ is, i ∈ ws) → L2.wipe σ1 ws = L2.wipe σ ws
theorem wipe_set {i : Nat} {v : Option V} : ∀ {ws : List Nat} {σ : L2.St}, i ∈ ws → L2.wipe (σ.set i v) ws = L2.wipe σ ws
  | [], _, m => nomatch m
  | j :: ws, σ, m => by
    unfold L2.wipe
    by_cases z : i ∈ ws
    · rw [wipe_set z]
    · obtain rfl : i = j := by
        rcases List.mem_cons.mp m with e | e
        · exact e
        · exact absurd e z
      have key : ∀ {ws : List Nat}, i ∉ ws → L2.wipe (σ.set i v) ws = (L2.wipe σ ws).set i v := by
        intro ws
        induction ws with
        | nil => intro _; rfl
        | cons k ws ih =>
          intro n
          have n' := (not_or.mp fun z => n (List.mem_cons.mpr z))
          unfold L2.wipe
          rw [ih n'.2, List.set_comm _ _ (Ne.symm n'.1 |>.symm)]
      rw [key z, List.set_set]
def tGs (K : PySem.W.Frag) (mg : Str → Option Value) (ex : Option (Addr × Obj)) (is : List Nat) : TGs := fun vs σ H Q => ∃ w G env L fp xs, (w.K = K ∧ w.mg = mg ∧ w.ex = ex) ∧ Rel w G env L σ H fp ∧ RDs w G H xs vs [] ∧ match bindN is xs env with
  | some env1 => ∀ σ1, BindOk w G env1 L σ H fp σ1 is → Q σ1 H
  | none => False
def tG (K : PySem.W.Frag) (mg : Str → Option Value) (ex : Option (Addr × Obj)) (p : Pat) : TG := fun v σ H Q => ∃ w G env L fp x, (w.K = K ∧ w.mg = mg ∧ w.ex = ex) ∧ Rel w G env L σ H fp ∧ RD w G H x v [] ∧ match bindP p x env with
  | some env1 => ∀ σ1, BindOk w G env1 L σ H fp σ1 p.slots → Q σ1 H
  | none => False
abbrev SG (X : Cx) (tg : Expr) (p : Pat) : Prop := PG X tg (tG X.K X.mg X.exA p)
abbrev SGs (X : Cx) (tg : List Expr) (is : List Nat) : Prop := PGs X tg (tGs X.K X.mg X.exA is)
theorem PG_imp {X : Cx} {tg : Expr} {t t' : TG} (h : PG X tg t) (i : ∀ v σ H Q, t' v σ H Q → t v σ H Q) : PG X tg t' := ⟨fun pins s σ H v u Q I r q => h.run pins s σ H v u Q I r (i v σ H Q q)⟩
theorem PGs_imp {X : Cx} {tg : List Expr} {t t' : TGs} (h : PGs X tg t) (i : ∀ v σ H Q, t' v σ H Q → t v σ H Q) : PGs X tg t' := ⟨fun pins s σ H v u Q I r q => h.run pins s σ H v u Q I r (i v σ H Q q)⟩
section
variable {X : Cx} {pos : Pos}
theorem sg_nm (i : Nat) {x : Str} (hN : X.N.Nodup) (hi : X.N[i]? = some x := by rfl) (hx : Loc X.env.scope x := by first | exact Or.inl rfl | exact Or.inr rfl) (hf : X.fn x = true ∨ X.env.scope.names.lookup x = some .local := by first | exact .inl rfl | exact .inr rfl | assumption) : SG X (.Name x pos) (.nm i) :=
  PG_imp (pg_name hN hi hx hf) fun v σ H Q ⟨w, G, env, L, fp, x, hk, R, d, h⟩ => by
    by_cases c : okf notLo x = true
    · simp only [bindP, bindN, c, if_true] at h
      obtain ⟨fp', r1, r2⟩ := R.set0 (i := i) d c
      exact h _ ⟨⟨fp', r1, r2⟩, fun ws m => wipe_set (m i (List.mem_cons_self ..))⟩
    · simp only [bindP, bindN, c] at h
      exact h.elim
theorem sgs_nil : SGs X [] [] := PGs_imp pgs_nil fun v σ H Q ⟨w, G, env, L, fp, xs, hk, R, d, h⟩ => by
  cases xs with
  | nil => exact ⟨d.nil_of, h _ ⟨⟨fp, R, fun _ m => m⟩, fun _ _ => rfl⟩⟩
  | cons x xs => exact h.elim
theorem sgs_cons (i : Nat) {x : Str} {es : List Expr} {is : List Nat} (hN : X.N.Nodup) (h2 : SGs X es is) (hi : X.N[i]? = some x := by rfl) (hx : Loc X.env.scope x := by first | exact Or.inl rfl | exact Or.inr rfl) (hf : X.fn x = true ∨ X.env.scope.names.lookup x = some .local := by first | exact .inl rfl | exact .inr rfl | assumption)
    (hs : (assignEach (.Name x pos :: es) X.env).map (·.2) = assign (.Name x pos) X.env :: (assignEach es X.env).map (·.2) := by rfl) : SGs X (.Name x pos :: es) (i :: is) :=
  PGs_imp (pgs_cons (pg_name hN hi hx hf) h2 hs) fun v σ H Q ⟨w, G, env, L, fp, xs, hk, R, d, h⟩ => by
    cases xs with
    | nil => exact h.elim
    | cons y ys =>
      unfold bindN at h
      by_cases c : okf notLo y = true
      · simp only [if_pos c] at h
        obtain ⟨v, us, rfl, d1, d2⟩ := d.cons_of
        obtain ⟨fp', r1, r2⟩ := R.set0 (i := i) d1 c
        refine ⟨v, us, rfl, ⟨w, G, _, L, fp', ys, hk, r1, d2, ?_⟩⟩
        revert h
        cases bindN is ys (env.set i (some y)) with
        | none => exact fun h => h
        | some env1 =>
          intro h σ1 b
          obtain ⟨fq, b1, b2⟩ := b.rel
          refine h σ1 ⟨⟨fq, b1, fun a m => r2 a (b2 a m)⟩, fun ws m => ?_⟩
          rw [b.wipe ws fun j mj => m j (List.mem_cons_of_mem _ mj), wipe_set (m i (List.mem_cons_self ..))]
      · rw [if_neg c] at h
        exact h.elim
theorem sg_tp {es : List Expr} {k : Nat} {is : List Nat} (hc : X.calm = true) (h : SGs X es is) (hl : es.length = is.length := by rfl) (hn : (assignEach es X.env).length = is.length := by rfl) (hst : (assignEach es X.env).findIdx? (·.1) = none := by rfl) : SG X (.Tuple es k pos) (.tp is) :=
  PG_imp (pg_tup hc h hn hst) fun v σ H Q ⟨w, G, env, L, fp, x, hk, R, d, h⟩ => by
    cases x with
    | tup xs =>
      obtain ⟨a, vs, rfl, hq, r, _⟩ := d.tup_of R
      have e : xs.length = is.length := by
        have key : ∀ (is : List Nat) (xs : List D) (env : Env), (bindN is xs env).isSome = true → xs.length = is.length := by
          intro is
          induction is with
          | nil => intro xs env; cases xs with
            | nil => intro _; rfl
            | cons y ys => intro z; cases z
          | cons j is ih => intro xs env; cases xs with
            | nil => intro z; cases z
            | cons y ys =>
              unfold bindN
              split
              · intro z; simp [ih ys _ z]
              · intro z; cases z
        refine key is xs env ?_
        change (match bindN is xs env with | some env1 => _ | none => False) at h
        revert h
        cases bindN is xs env with
        | none => exact fun h => h.elim
        | some _ => exact fun _ => rfl
      exact ⟨a, vs, rfl, hk.1 ▸ hq, r.len ▸ e, ⟨w, G, env, L, fp, xs, hk, R, r, h⟩⟩
    | _ => exact h.elim
end
end Qd

set_option Elab.async false
set_option linter.all false
set_option maxRecDepth 100000
set_option maxHeartbeats 4000000
namespace Qd
open PySem PySem.Spec PyProof.Rows L2

/-! ### for -/
def dLoop (p : Pat) (body : DS) : List D → DS
  | [], env, L => .nx env L
  | x :: xs, env, L => match bindP p x env with
    | none => .stuck
    | some env1 => match body env1 L with
      | .nx e L1 => dLoop p body xs e L1
      | .cnt e L1 => dLoop p body xs e L1
      | .brk e L1 => .nx e L1
      | .ret y L1 => .ret y L1
      | .exc c ns ys e L1 => .exc c ns ys e L1
      | .stuck => .stuck
def dFor (p : Pat) (di : DI) (body : DS) : DS := fun env L => (di env L).then env fun xs L1 => dLoop p body xs env L1
section
variable {X : Cx} {W : WX} {tg iter : Expr} {body : List Stmt} {di : DI} {db : DS} {p : Pat} {pos : Pos}
theorem sx_for (hp : PassesOwn (model X.prog X.w) X.A X.env X.xe) (hc : X.calm = true) (hi : SI X W tg iter di) (hg : SG X tg p) (hb : SSs X W body db) (hs : ∀ x, foldedSetIterable iter X.env x = pure x := by intro _; rfl) : SS X W (.For tg iter body [] pos) (dFor p di db) :=
  PS_imp (ps_for hp hc hi hg hb hs) fun E σ H ⟨w, G, env, L, fp, hk, R, h⟩ => ⟨w, G, env, L, fp, hk, R, by
    have h' := PVS.theni (σ := σ) h
    revert h'
    cases di env L with
    | stuck => exact fun h => h
    | exc c ns xs L' => exact fun h => h
    | ok xs0 L0 =>
      intro h' G' H' J a0 s0
      obtain ⟨Gb, L1, xs, a1, sv, h1⟩ := h' G' H' J a0 s0
      refine ⟨fun i m σ H => m = xs.length - i ∧ i ≤ xs.length ∧ ∃ G env L fp, Sub Gb G ∧ Rel w G env L σ H fp ∧ PVS w G H fp W (dLoop p db (xs.drop i) env L) E, ⟨xs.length, rfl, Nat.zero_le _, Gb, env, L1, fp, Sub.refl _, a1.rel, h1⟩, ?_⟩
      rintro i m σ2 H2 ⟨rfl, hi, G2, env2, L2, fp2, g2, R2, h2⟩
      by_cases hlt : i < xs.length
      · have e : xs[i]? = some xs[i] := by simp [hlt]
        obtain ⟨go, yl⟩ := sv.go i _ e g2 R2
        refine .inr ⟨go, fun σ' H' => ∃ G env L fp, Sub Gb G ∧ Rel w G env L σ' H' fp ∧ PVS w G H' fp W (dLoop p db (xs.drop (i + 1)) env L) E, fun σ' H' q => ⟨xs.length - (i + 1), by omega, rfl, hlt, q⟩, fun v H3 y => ?_⟩
        obtain ⟨G3, a3, d3⟩ := yl v H3 y
        refine ⟨w, G3, env2, L2, fp2, xs[i], hk, a3.rel, d3, ?_⟩
        rw [List.drop_eq_getElem_cons hlt] at h2
        unfold dLoop at h2
        revert h2
        cases bindP p xs[i] env2 with
        | none => exact fun h2 => h2
        | some env3 =>
          intro h2 σ3 b
          obtain ⟨fp3, r3, s3⟩ := b.rel
          have A : After w G2 H2 fp2 env3 L2 G3 H3 σ3 fp3 := ⟨a3.sub, fun b o e _ n => a3.step b o e n, r3, fun c m => .inl (s3 c m), fun b o e => (a3.new b o e).imp id .inl⟩
          refine ⟨w, G3, env3, L2, fp3, hk, r3, ?_⟩
          dsimp only at h2
          revert h2
          cases db env3 L2 with
          | nx e L' => exact fun h2 G' H' σ' fp' b => ⟨G', e, L', fp', g2.trans (a3.sub.trans b.sub), b.rel, PVS.later h2 (A.trans b)⟩
          | cnt e L' => exact fun h2 G' H' σ' fp' b => ⟨G', e, L', fp', g2.trans (a3.sub.trans b.sub), b.rel, PVS.later h2 (A.trans b)⟩
          | brk e L' => exact fun h2 G' H' σ' fp' b => h2 G' H' σ' fp' (A.trans b)
          | ret y L' => exact fun h2 => PVS.later (r := .ret y L') h2 A
          | exc c ns ys e L' => exact fun h2 => PVS.later (r := .exc c ns ys e L') h2 A
          | stuck => exact fun h2 => h2
      · have e : i = xs.length := by omega
        subst e
        rw [List.drop_length] at h2
        exact .inl ⟨sv.stop g2 R2, PVS.next h2 R2⟩⟩
end

/-! ### [.. for .. in ..] -/
def wipeE (env : Env) : List Nat → Env
  | [] => env
  | v :: vs => (wipeE env vs).set v none
def dLcGo (own : List Nat) (p : Pat) (dt : DT) (de : DE) (env : Env) : List D → List Int → Res (List D)
  | [], L => .ok [] L
  | x :: xs, L => match bindP p x (wipeE env own) with
    | none => .stuck
    | some env1 => match dt env1 L with
      | .ok true L1 => (match de env1 L1 with
        | .ok y L2 => if okf isSto y then (dLcGo own p dt de env xs L2).bind fun ys L3 => .ok (y :: ys) L3 else .stuck
        | _ => .stuck)
      | .ok false L1 => dLcGo own p dt de env xs L1
      | _ => .stuck
def dLc (own : List Nat) (p : Pat) (di : DI) (dt : DT) (de : DE) : DE := fun env L => (di env L).bind fun xs L1 =>
  if okLen (xs.length + 1) && p.slots.all (fun i => own.contains i) then (dLcGo own p dt de env xs L1).bind fun ys L2 => .ok (.lst .ow ys) L2 else .stuck
def dYes : DT := fun _ L => .ok true L
abbrev wNo : WX := fun _ _ _ _ => False
theorem RE.kill {w : Gw} {G H : Hp} : ∀ {env : Env} {σ : L2.St} {f : List Addr} {i : Nat} {u : Option V}, RE w G H env σ f → f.Nodup → ∃ f', RE w G H (env.set i none) (σ.set i u) f' ∧ f'.Nodup ∧ ∀ a ∈ f', a ∈ f
  | [], σ, f, i, u, h, n => by
    obtain ⟨rfl, rfl⟩ := h
    exact ⟨[], ⟨rfl, rfl⟩, List.nodup_nil, fun _ m => m⟩
  | none :: env, _, f, 0, u, h, n => by
    obtain ⟨x, τ, rfl, h⟩ := h
    exact ⟨f, ⟨u, τ, rfl, h⟩, n, fun _ m => m⟩
  | none :: env, _, f, i + 1, u, h, n => by
    obtain ⟨x, τ, rfl, h⟩ := h
    obtain ⟨f', h1, h2, h3⟩ := RE.kill (i := i) (u := u) h n
    exact ⟨f', ⟨x, _, rfl, h1⟩, h2, h3⟩
  | some d0 :: env, _, _, 0, u, h, n => by
    obtain ⟨v0, τ, g1, g2, rfl, rfl, h1, k0, h2⟩ := h
    exact ⟨g2, ⟨u, τ, rfl, h2⟩, (List.nodup_append.mp n).2.1, fun a m => List.mem_append_right _ m⟩
  | some d0 :: env, _, _, i + 1, u, h, n => by
    obtain ⟨v0, τ, g1, g2, rfl, rfl, h1, k0, h2⟩ := h
    have nn := List.nodup_append.mp n
    obtain ⟨f', e1, e2, e3⟩ := RE.kill (i := i) (u := u) h2 nn.2.1
    exact ⟨g1 ++ f', ⟨v0, _, g1, f', rfl, rfl, h1, k0, e1⟩, List.nodup_append.mpr ⟨nn.1, e2, fun a ha b hb e => nn.2.2 a ha b (e3 b hb) e⟩, fun a m => (List.mem_append.mp m).elim (List.mem_append_left _) fun z => List.mem_append_right _ (e3 a z)⟩
theorem wipe_wipe {σ : L2.St} {ws : List Nat} : ∀ {vs : List Nat}, (∀ i ∈ vs, i ∈ ws) → L2.wipe (L2.wipe σ vs) ws = L2.wipe σ ws
  | [], _ => rfl
  | v :: vs, h => by
    show L2.wipe ((L2.wipe σ vs).set v none) ws = L2.wipe σ ws
    rw [wipe_set (h v (List.mem_cons_self ..)), wipe_wipe fun i m => h i (List.mem_cons_of_mem _ m)]
theorem wipe_idem (σ : L2.St) (ws : List Nat) : L2.wipe (L2.wipe σ ws) ws = L2.wipe σ ws := wipe_wipe fun _ m => m
section
variable {w : Gw} {G G1 H H1 : Hp} {env env1 : Env} {σ σ1 : L2.St} {fp fp1 : List Addr} {W : WX} {L L1 : List Int} {Q : V → Hp → Prop} {x : D} {v : V} {f : List Addr}
theorem Rel.wipe (R : Rel w G env L σ H fp) : ∀ own : List Nat, ∃ fp', Rel w G (wipeE env own) L (L2.wipe σ own) H fp' ∧ ∀ a ∈ fp', a ∈ fp
  | [] => ⟨fp, R, fun _ m => m⟩
  | i :: own => by
    obtain ⟨f1, r1, s1⟩ := Rel.wipe R own
    obtain ⟨f2, r2, n2, s2⟩ := RE.kill (i := i) (u := none) r1.re r1.nd
    exact ⟨f2, ⟨r2, n2, r1.gs, r1.bs, fun a m => r1.ow a (s2 a m), r1.st⟩, fun a m => s1 a (s2 a m)⟩
/-- another body's state beside it -/
theorem Ahead.other (R : Rel w G env L σ H fp) (a : Ahead w G env1 σ1 H fp1 L1 G1 H1) : Ahead w G env σ H fp L1 G1 H1 :=
  ⟨a.sub, a.step, R.step a.sub a.step a.rel.gs (fun b m => by
    cases q : G1 b with
    | none => rfl
    | some u =>
      rcases a.new b u q with z | z
      · rw [(R.ow b m).1] at z; cases z
      · obtain ⟨o, e⟩ := R.re.there b m
        rw [z] at e; cases e) (fun b e => ⟨(a.rel.st b e).1, (a.rel.st b e).2.1⟩), a.new⟩
theorem ValOk.on {G0 H0 : Hp} (o : ValOk w G0 env σ H0 fp x L G H v f) (a : Ahead w G env σ H fp L1 G1 H1) : ValOk w G0 env σ H0 fp x L1 G1 H1 v f :=
  ⟨o.toAhead.trans a, o.rd.step a.sub a.step fun b m => (o.ow b m).2.2, o.fr, o.nd, fun b m => ⟨(by
    cases q : G1 b with
    | none => rfl
    | some u =>
      rcases a.new b u q with z | z
      · rw [(o.ow b m).1] at z; cases z
      · obtain ⟨u', e⟩ := o.rd.there b m
        rw [z] at e; cases e), (o.ow b m).2⟩, o.ap⟩
theorem RDs.app2 : ∀ {xs : List D} {vs : List V} {f : List Addr} {y : D} {v : V} {g : List Addr}, RDs w G H xs vs f → RD w G H y v g → RDs w G H (xs ++ [y]) (vs ++ [v]) (f ++ g)
  | [], _, _, _, _, _, h, d => by
    simp only [RDs] at h
    obtain ⟨rfl, rfl⟩ := h
    simp only [List.nil_append, RDs]
    exact ⟨_, [], _, [], rfl, by simp, d, by simp⟩
  | x :: xs, _, _, _, _, _, h, d => by
    simp only [RDs] at h
    obtain ⟨v, us, f1, f2, rfl, rfl, h1, h2⟩ := h
    simp only [List.cons_append, RDs]
    exact ⟨v, _, f1, _, rfl, by rw [List.append_assoc], h1, RDs.app2 h2 d⟩
/-- one more item in the new list -/
theorem ValOk.grow {G0 H0 G2 H2 : Hp} {acc : List D} {Da : Addr} {y : D} {u : V} {fy : List Addr} {L2 : List Int} (o : ValOk w G0 env σ H0 fp (.lst .ow acc) L G H (.ref Da) f) (R1 : Rel w G env1 L σ1 H fp1) (oy : ValOk w G env1 σ1 H fp1 y L2 G2 H2 u fy) (k : okf isSto y = true) :
    ∃ vs, H2 Da = some (.lst vs) ∧ vs.length = acc.length ∧ ∃ f', ValOk w G0 env σ H0 fp (.lst .ow (acc ++ [y])) L2 G2 (upd H2 Da (.lst (vs ++ [u]))) (.ref Da) f' := by
  have a2 := Ahead.other o.rel oy.toAhead
  have o2 := o.on a2
  have d := o2.rd
  simp only [RD] at d
  obtain ⟨a, vs, fa, e, hl, r⟩ := d
  obtain rfl : Da = a := by simpa using e
  clear e
  obtain ⟨h1, h2, rfl⟩ := hl
  have nn := List.nodup_cons.mp o2.nd
  have apart : ∀ b ∈ fy, b ∉ Da :: fa := fun b m z => by
    obtain ⟨o', e'⟩ := o.rd.there b z
    rw [oy.fr b m] at e'; cases e'
  have nst : w.st ≠ some Da := (o2.ow Da (List.mem_cons_self ..)).2.2
  have keep : ∀ b, b ≠ Da → ∀ u', H2 b = some u' → upd H2 Da (.lst (vs ++ [u])) b = some u' := fun b n u' e => by rw [upd_ne n]; exact e
  refine ⟨vs, h1, r.len.symm, Da :: (fa ++ fy), ⟨⟨o2.sub, fun b u' e n => ?_, ?_, o2.new⟩, ?_, ?_, ?_, ?_, ?_⟩⟩
  · refine keep b (fun z => ?_) u' (o2.step b u' e n)
    subst z
    rw [o.fr b (List.mem_cons_self ..)] at e; cases e
  · have R := o2.rel
    have nf : ∀ b ∈ fp, b ≠ Da := fun b m z => by subst z; exact o2.ap b (List.mem_cons_self ..) m
    refine ⟨R.re.mono (Sub.refl _) fun b m u' e => keep b (nf b m) u' e, R.nd, fun b u' e => keep b (fun z => ?_) u' (R.gs b u' e), fun b u' e => keep b (fun z => ?_) u' (R.bs b u' e), R.ow, fun b e => ⟨keep b (fun z => ?_) _ (R.st b e).1, (R.st b e).2⟩⟩
    · subst z; rw [(o2.ow b (List.mem_cons_self ..)).1] at e; cases e
    · subst z; rw [(o2.ow b (List.mem_cons_self ..)).2.1] at e; cases e
    · subst z; exact nst e
  · simp only [RD]
    refine ⟨Da, vs ++ [u], fa ++ fy, rfl, ⟨upd_same, okfs_app _ _ h2 (by simp only [okfs, k]; rfl), rfl⟩, ?_⟩
    refine (sto_all (w := w) (w' := w) rfl rfl rfl (Sub.refl G2)).2 _ _ _ (RDs.app2 r oy.rd) (okfs_app _ _ h2 (by simp only [okfs, k]; rfl)) fun b m u' e => keep b (fun z => ?_) u' e
    subst z
    rcases List.mem_append.mp m with m | m
    · exact nn.1 m
    · exact apart b m (List.mem_cons_self ..)
  · intro b m
    rcases List.mem_cons.mp m with rfl | m
    · exact o.fr b (List.mem_cons_self ..)
    · rcases List.mem_append.mp m with m | m
      · exact o.fr b (List.mem_cons_of_mem _ m)
      · exact o.step.free (oy.fr b m) (oy.ow b m).2.2
  · refine List.nodup_cons.mpr ⟨fun m => ?_, List.nodup_append.mpr ⟨nn.2, oy.nd, fun b m c m' e => ?_⟩⟩
    · rcases List.mem_append.mp m with m | m
      · exact nn.1 m
      · exact apart _ m (List.mem_cons_self ..)
    · subst e
      exact apart b m' (List.mem_cons_of_mem _ m)
  · intro b m
    rcases List.mem_cons.mp m with rfl | m
    · exact o2.ow b (List.mem_cons_self ..)
    · rcases List.mem_append.mp m with m | m
      · exact o2.ow b (List.mem_cons_of_mem _ m)
      · exact oy.ow b m
  · intro b m z
    rcases List.mem_cons.mp m with rfl | m
    · exact o2.ap b (List.mem_cons_self ..) z
    · rcases List.mem_append.mp m with m | m
      · exact o2.ap b (List.mem_cons_of_mem _ m) z
      · obtain ⟨o', e'⟩ := o.rel.re.there b z
        rw [oy.fr b m] at e'; cases e'
theorem PV.bindGo {r : Res (List D)} {k : List D → List Int → Res D} (h : PV w G env σ H fp W (r.bind k) Q) : (∃ xs L', r = .ok xs L') ∨ (∃ c ns xs L', r = .exc c ns xs L') := by
  cases r with
  | ok xs L' => exact .inl ⟨xs, L', rfl⟩
  | exc c ns xs L' => exact .inr ⟨c, ns, xs, L', rfl⟩
  | stuck => exact h.elim
end
def goR (acc : List D) (r : Res (List D)) : Res D := r.bind fun ys L2 => .ok (.lst .ow (acc ++ ys)) L2
theorem goR_cons (acc : List D) (y : D) (r : Res (List D)) : goR acc (r.bind fun ys L3 => .ok (y :: ys) L3) = goR (acc ++ [y]) r := by
  cases r with
  | ok xs L => simp [goR, Res.bind]
  | exc c ns xs L => rfl
  | stuck => rfl
section
variable {X : Cx} {W : WX} {elt tg iter : Expr} {ifs : List Expr} {scope : Scope} {own : List (Str × Nat)} {di : DI} {dt : DT} {de : DE} {p : Pat} {pos : Pos}
theorem lc_imp {tt : TT} {σ : L2.St} {H : Hp} {Q : VK} (hk' : ∀ {w : Gw} {G : Hp} {env : Env} {L : List Int} {σ : L2.St} {H : Hp} {fp : List Addr} {Q : Bool → Hp → Prop}, (w.K = X.K ∧ w.mg = X.mg ∧ w.ex = X.exA) → Rel w G env L σ H fp → PVt w G env σ H fp wNo (dt env L) Q → tt σ H Q)
    (h : tE X.K X.mg X.exA W (dLc (own.map (·.2)) p di dt de) σ H Q) : tLc (tI X.K X.mg X.exA W di) (tG X.K X.mg X.exA p) tt (tE X.K X.mg X.exA wNo de) (own.map (·.2)) σ H Q := by
  obtain ⟨w, G, env, L, fp, hk, R, h⟩ := h
  refine ⟨w, G, env, L, fp, hk, R, ?_⟩
  have h' := PVi.bindI h
  revert h'
  cases di env L with
  | stuck => exact fun h => h
  | exc c ns xs L' => exact fun h => h
  | ok xs0 L0 =>
    intro h' G' H' J a0 s0 Da hn
    obtain ⟨Gb, L1, xs, a1, sv, h1⟩ := h' G' H' J a0 s0
    split at h1
    · rename_i c
      simp only [Bool.and_eq_true, List.all_eq_true] at c
      have hsl : ∀ i ∈ p.slots, i ∈ own.map (·.2) := fun i m => by simpa using c.2 i m
      have hlen := okLen_size c.1
      -- the new list
      have g := a1.rel.free hn
      have aN := Ahead.push (o := .lst []) a1.rel hn
      have o0 : ValOk w Gb env σ H' fp (.lst .ow []) L1 Gb (upd H' Da (.lst [])) (.ref Da) [Da] := by
        refine ⟨aN, ?_, fun b m => ?_, by simp, fun b m => ?_, fun b m => ?_⟩
        · simp only [RD]
          exact ⟨Da, [], [], rfl, ⟨upd_same, rfl, rfl⟩, RDs.nil⟩
        · obtain rfl : b = Da := by simpa using m
          exact hn
        · obtain rfl : b = Da := by simpa using m
          exact ⟨g.1, g.2.1, g.2.2.1⟩
        · obtain rfl : b = Da := by simpa using m
          exact g.2.2.2
      refine ⟨fun i m H2 => m = xs.length - i ∧ i ≤ xs.length ∧ ∃ G2 L2 acc f, ValOk w Gb env σ H' fp (.lst .ow acc) L2 G2 H2 (.ref Da) f ∧ acc.length ≤ i ∧ PV w Gb env σ H' fp W (goR acc (dLcGo (own.map (·.2)) p dt de env (xs.drop i) L2)) Q, ⟨xs.length, rfl, Nat.zero_le _, Gb, L1, [], [Da], o0, Nat.le_refl _, ?_⟩, ?_⟩
      · rw [List.drop_zero]
        exact h1
      · rintro i m H2 ⟨rfl, hi, G2, L2, acc, f, o2, la, h2⟩
        by_cases hlt : i < xs.length
        · have e : xs[i]? = some xs[i] := by simp [hlt]
          obtain ⟨go, yl⟩ := sv.go i _ e o2.sub o2.rel
          refine .inr ⟨go, fun H3 => ∃ G3 L3 acc f, ValOk w Gb env σ H' fp (.lst .ow acc) L3 G3 H3 (.ref Da) f ∧ acc.length ≤ i + 1 ∧ PV w Gb env σ H' fp W (goR acc (dLcGo (own.map (·.2)) p dt de env (xs.drop (i + 1)) L3)) Q, fun H3 q => ⟨xs.length - (i + 1), by omega, rfl, hlt, q⟩, fun v H3 y => ?_⟩
          obtain ⟨G3, a3, d3⟩ := yl v H3 y
          have o3 := o2.on a3
          obtain ⟨fw, rw', sw⟩ := o3.rel.wipe (own.map (·.2))
          refine ⟨w, G3, _, L2, fw, xs[i], hk, rw', d3, ?_⟩
          rw [List.drop_eq_getElem_cons hlt] at h2
          unfold dLcGo at h2
          revert h2
          cases bindP p xs[i] (wipeE env (own.map (·.2))) with
          | none => exact fun h2 => h2
          | some env3 =>
            intro h2 σ3 b
            obtain ⟨fp3, r3, s3⟩ := b.rel
            refine ⟨by rw [b.wipe _ hsl]; exact wipe_idem _ _, hk' hk r3 ?_⟩
            dsimp only at h2
            revert h2
            cases dt env3 L2 with
            | stuck => exact fun h2 => h2
            | exc c ns ys L' => exact fun h2 => h2.elim
            | ok cb L4 =>
              cases cb with
              | false =>
                intro h2 G4 H4 a4
                exact ⟨G4, L4, acc, f, o3.on (Ahead.other o3.rel a4), by omega, h2⟩
              | true =>
                intro h2 G4 H4 a4
                have o4 := o3.on (Ahead.other o3.rel a4)
                refine ⟨w, G4, env3, L4, fp3, hk, a4.rel, ?_⟩
                dsimp only at h2
                revert h2
                cases de env3 L4 with
                | stuck => exact fun h2 => h2
                | exc c ns ys L' => exact fun h2 => h2.elim
                | ok z L5 =>
                  intro h2 G5 H5 u fy oy
                  by_cases cz : okf isSto z = true
                  · simp only [cz, if_true] at h2
                    rw [goR_cons] at h2
                    obtain ⟨vs, e1, e2, f', o5⟩ := o4.grow a4.rel oy cz
                    exact ⟨vs, e1, by omega, G5, L5, acc ++ [z], f', o5, by simp; omega, h2⟩
                  · simp only [cz] at h2
                    exact h2.elim
        · have e : i = xs.length := by omega
          subst e
          rw [List.drop_length] at h2
          refine .inl ⟨sv.stop o2.sub o2.rel, ?_⟩
          have h3 : PV w Gb env σ H' fp W (.ok (.lst .ow acc) L2) Q := by
            have e : acc ++ [] = acc := List.append_nil acc
            rw [← e]; exact h2
          exact h3 G2 H2 (.ref Da) f o2
    · exact h1.elim
end
end Qd

set_option Elab.async false
set_option linter.all false
set_option maxRecDepth 100000
set_option maxHeartbeats 4000000
namespace Qd
open PySem PySem.Spec PyProof.Rows L2

theorem exA_blk {X : Cx} {s : Shared} {H : Hp} {sc : Scope} {env : PySem.Env} {fp : List Addr} (hc : X.calm = true) : (X.blk s H sc env fp).exA = X.exA := (exA_calm (X := X.blk s H sc env fp) hc).trans (exA_calm hc).symm
section
variable {X : Cx} {W : WX} {elt tg iter c e e2 : Expr} {scope : Scope} {own : List (Str × Nat)} {di : DI} {dt : DT} {de de2 : DE} {p : Pat} {pos spos : Pos}
theorem so_lc (own : List (Str × Nat)) (hc : X.calm = true) (hN : X.N.Nodup) (hi : SI X W tg iter di) (ok : BlkOk X.N X.env.scope scope own)
    (hg : ∀ (s : Shared) (H : Hp) (C : Addr) (cl : List (Str × Addr)) (fp : List Addr), SG (X.blk s H scope (compEnvC scope cl C X.env) fp) tg p)
    (he : ∀ (s : Shared) (H : Hp) (C : Addr) (cl : List (Str × Addr)) (fp : List Addr), SE (X.blk s H scope (compEnvC scope cl C X.env) fp) wNo elt de) (hs : ∀ x, foldedSetIterable iter X.env x = pure x := by intro _; rfl) :
    SE X W (.ListComp elt [⟨tg, iter, [], 0⟩] scope pos) (dLc (own.map (·.2)) p di dYes de) :=
  PE_imp (pe_lc hc hN hi ok (fun s H C cl fp => by have z := hg s H C cl fp; rw [SG, exA_blk hc] at z; exact z) (fun _ _ _ _ _ => pts_nil) (fun s H C cl fp => by have z := he s H C cl fp; rw [SE, exA_blk hc] at z; exact z) hs) fun σ H Q h => lc_imp (tt := tYes) (fun hk R h => PVt.done h R) h
theorem so_lc1 (own : List (Str × Nat)) (hc : X.calm = true) (hN : X.N.Nodup) (hi : SI X W tg iter di) (ok : BlkOk X.N X.env.scope scope own)
    (hg : ∀ (s : Shared) (H : Hp) (C : Addr) (cl : List (Str × Addr)) (fp : List Addr), SG (X.blk s H scope (compEnvC scope cl C X.env) fp) tg p)
    (ht : ∀ (s : Shared) (H : Hp) (C : Addr) (cl : List (Str × Addr)) (fp : List Addr), SEt (X.blk s H scope (compEnvC scope cl C X.env) fp) wNo c dt)
    (he : ∀ (s : Shared) (H : Hp) (C : Addr) (cl : List (Str × Addr)) (fp : List Addr), SE (X.blk s H scope (compEnvC scope cl C X.env) fp) wNo elt de) (hs : ∀ x, foldedSetIterable iter X.env x = pure x := by intro _; rfl) :
    SE X W (.ListComp elt [⟨tg, iter, [c], 0⟩] scope pos) (dLc (own.map (·.2)) p di dt de) :=
  PE_imp (pe_lc hc hN hi ok (fun s H C cl fp => by have z := hg s H C cl fp; rw [SG, exA_blk hc] at z; exact z) (fun s H C cl fp => pts_one (by have z := ht s H C cl fp; rw [SEt, exA_blk hc] at z; exact z)) (fun s H C cl fp => by have z := he s H C cl fp; rw [SE, exA_blk hc] at z; exact z) hs) fun σ H Q h => lc_imp (tt := tT X.K X.mg X.exA wNo dt) (fun hk R h => ⟨_, _, _, _, _, hk, R, h⟩) h
/-- name = [..] on one line -/
theorem sx_setLc (i : Nat) {y : Str} {py : Pos} (own : List (Str × Nat)) (hc : X.calm = true) (hN : X.N.Nodup) (hi : SI X W tg iter di) (ok : BlkOk X.N X.env.scope scope own)
    (hg : ∀ (s : Shared) (H : Hp) (C : Addr) (cl : List (Str × Addr)) (fp : List Addr), SG (X.blk s H scope (compEnvC scope cl C X.env) fp) tg p)
    (he : ∀ (s : Shared) (H : Hp) (C : Addr) (cl : List (Str × Addr)) (fp : List Addr), SE (X.blk s H scope (compEnvC scope cl C X.env) fp) wNo elt de) (hy : X.N[i]? = some y := by rfl) (hyl : X.env.scope.names.lookup y = some .local := by rfl)
    (hsw : swapsWith (.ListComp elt [⟨tg, iter, [], 0⟩] scope pos) (some (.Name y py)) spos.line X.env = pure true := by exact sw_true rfl rfl rfl rfl) (hs : ∀ x, foldedSetIterable iter X.env x = pure x := by intro _; rfl) :
    SS X W (.Assign [.Name y py] (.ListComp elt [⟨tg, iter, [], 0⟩] scope pos) spos) (dSetO i (dLc (own.map (·.2)) p di dYes de)) :=
  PS_imp (ps_setLc hc hN hy hyl hsw hi ok (fun s H C cl fp => by have z := hg s H C cl fp; rw [SG, exA_blk hc] at z; exact z) (fun _ _ _ _ _ => pts_nil) (fun s H C cl fp => by have z := he s H C cl fp; rw [SE, exA_blk hc] at z; exact z) hs) fun E σ H ⟨w, G, env, L, fp, hk, R, h⟩ =>
    lc_imp (tt := tYes) (fun hk R h => PVt.done h R) ⟨w, G, env, L, fp, hk, R, (PVS.thenO h).imp fun v H1 ⟨G1, L1, x, f, o, h1⟩ => by
    split at h1
    · rename_i c
      obtain ⟨fp', r1, r2⟩ := o.rel.set (i := i) o.rd c o.nd o.ow o.ap
      exact h1 _ _ _ _ ⟨o.sub, fun b u e _ n => o.step b u e n, r1, fun b m => (r2 b m).elim .inl fun z => .inr (o.fr b z), fun b u e => (o.new b u e).imp id .inl⟩
    · exact h1.elim⟩
theorem sx_setLc1 (i : Nat) {y : Str} {py : Pos} (own : List (Str × Nat)) (hc : X.calm = true) (hN : X.N.Nodup) (hi : SI X W tg iter di) (ok : BlkOk X.N X.env.scope scope own)
    (hg : ∀ (s : Shared) (H : Hp) (C : Addr) (cl : List (Str × Addr)) (fp : List Addr), SG (X.blk s H scope (compEnvC scope cl C X.env) fp) tg p)
    (ht : ∀ (s : Shared) (H : Hp) (C : Addr) (cl : List (Str × Addr)) (fp : List Addr), SEt (X.blk s H scope (compEnvC scope cl C X.env) fp) wNo c dt)
    (he : ∀ (s : Shared) (H : Hp) (C : Addr) (cl : List (Str × Addr)) (fp : List Addr), SE (X.blk s H scope (compEnvC scope cl C X.env) fp) wNo elt de) (hy : X.N[i]? = some y := by rfl) (hyl : X.env.scope.names.lookup y = some .local := by rfl)
    (hsw : swapsWith (.ListComp elt [⟨tg, iter, [c], 0⟩] scope pos) (some (.Name y py)) spos.line X.env = pure true := by exact sw_true rfl rfl rfl rfl) (hs : ∀ x, foldedSetIterable iter X.env x = pure x := by intro _; rfl) :
    SS X W (.Assign [.Name y py] (.ListComp elt [⟨tg, iter, [c], 0⟩] scope pos) spos) (dSetO i (dLc (own.map (·.2)) p di dt de)) :=
  PS_imp (ps_setLc hc hN hy hyl hsw hi ok (fun s H C cl fp => by have z := hg s H C cl fp; rw [SG, exA_blk hc] at z; exact z) (fun s H C cl fp => pts_one (by have z := ht s H C cl fp; rw [SEt, exA_blk hc] at z; exact z)) (fun s H C cl fp => by have z := he s H C cl fp; rw [SE, exA_blk hc] at z; exact z) hs) fun E σ H ⟨w, G, env, L, fp, hk, R, h⟩ =>
    lc_imp (tt := tT X.K X.mg X.exA wNo dt) (fun hk R h => ⟨_, _, _, _, _, hk, R, h⟩) ⟨w, G, env, L, fp, hk, R, (PVS.thenO h).imp fun v H1 ⟨G1, L1, x, f, o, h1⟩ => by
    split at h1
    · rename_i c
      obtain ⟨fp', r1, r2⟩ := o.rel.set (i := i) o.rd c o.nd o.ow o.ap
      exact h1 _ _ _ _ ⟨o.sub, fun b u e _ n => o.step b u e n, r1, fun b m => (r2 b m).elim .inl fun z => .inr (o.fr b z), fun b u e => (o.new b u e).imp id .inl⟩
    · exact h1.elim⟩
end

/-! ### in, of flat items -/
def inF (neg : Bool) (x : D) (ys : List D) (L : List Int) : Res D := if plainN 0 x && plainNs 0 ys then .ok (.bl (if neg then !(ys.any fun z => eqd z x) else ys.any fun z => eqd z x)) L else .stuck
def inFD (neg : Bool) : D → D → List Int → Res D
  | x, .lst _ ys, L => inF neg x ys L
  | x, .tup ys, L => inF neg x ys L
  | _, _, _ => .stuck
section
variable {w : Gw} {G H : Hp}
theorem flat_of {x : D} {v : V} (d : RD w G H x v []) (k : plainN 0 x = true) : flatV v = true ∧ (v = .non ∧ x = .non ∨ (∃ b, v = .bl b ∧ x = .bl b) ∨ (∃ b, v = .int b ∧ x = .int b) ∨ ∃ b, v = .str b ∧ x = .str b) := by
  cases x with
  | non => rw [d.non_of]; exact ⟨rfl, .inl ⟨rfl, rfl⟩⟩
  | bl b => rw [d.bl_of]; exact ⟨rfl, .inr (.inl ⟨b, rfl, rfl⟩)⟩
  | int b => rw [d.int_of]; exact ⟨rfl, .inr (.inr (.inl ⟨b, rfl, rfl⟩))⟩
  | str b => rw [d.str_of]; exact ⟨rfl, .inr (.inr (.inr ⟨b, rfl, rfl⟩))⟩
  | _ => exact absurd k (by simp [plainN])
theorem eqV_of {x y : D} {v u : V} (d1 : RD w G H x v []) (d2 : RD w G H y u []) (k1 : plainN 0 x = true) (k2 : plainN 0 y = true) : eqV v u = eqd x y := by
  rcases (flat_of d1 k1).2 with ⟨rfl, rfl⟩ | ⟨b, rfl, rfl⟩ | ⟨b, rfl, rfl⟩ | ⟨b, rfl, rfl⟩ <;> rcases (flat_of d2 k2).2 with ⟨rfl, rfl⟩ | ⟨c, rfl, rfl⟩ | ⟨c, rfl, rfl⟩ | ⟨c, rfl, rfl⟩ <;> simp [eqV, eqd]
theorem inV_of {x : D} {v : V} (d1 : RD w G H x v []) (k1 : plainN 0 x = true) : ∀ {ys : List D} {us : List V}, RDs w G H ys us [] → plainNs 0 ys = true → us.all flatV = true ∧ inV v us = ys.any fun z => eqd z x
  | [], us, h, _ => by rw [h.nil_of]; exact ⟨rfl, rfl⟩
  | y :: ys, us, h, k => by
    obtain ⟨u, us, rfl, h1, h2⟩ := h.cons_of
    simp only [plainNs, Bool.and_eq_true] at k
    obtain ⟨i1, i2⟩ := inV_of d1 k1 h2 k.2
    refine ⟨by rw [List.all_cons, (flat_of h1 k.1).1, i1]; rfl, ?_⟩
    show (eqV u v || inV v us) = _
    rw [i2, eqV_of h1 d1 k.1 k1, List.any_cons]
end
section
variable {X : Cx}
theorem od_in (neg : Bool) : OpD X (rIn X.K neg) (inFD neg) := by
  intro w G env L σ H fp W x y v u Q hK hM R d1 d2 h
  cases y with
  | lst f ys =>
    change PV w G env σ H fp W (inF neg x ys L) Q at h
    unfold inF at h
    split at h
    · rename_i c
      simp only [Bool.and_eq_true] at c
      obtain ⟨a, us, rfl, hq, r, _⟩ := d2.lst_of R
      obtain ⟨i1, i2⟩ := inV_of d1 c.1 r c.2
      refine ⟨a, us, rfl, .inl (hK ▸ hq), (flat_of d1 c.1).1, i1, ?_⟩
      rw [i2]
      exact h.done R (.bl _)
    · exact h.elim
  | tup ys =>
    change PV w G env σ H fp W (inF neg x ys L) Q at h
    unfold inF at h
    split at h
    · rename_i c
      simp only [Bool.and_eq_true] at c
      obtain ⟨a, us, rfl, hq, r, _⟩ := d2.tup_of R
      obtain ⟨i1, i2⟩ := inV_of d1 c.1 r c.2
      refine ⟨a, us, rfl, .inr (hK ▸ hq), (flat_of d1 c.1).1, i1, ?_⟩
      rw [i2]
      exact h.done R (.bl _)
    · exact h.elim
  | _ => exact h.elim
end

/-! ### tuple(range(..)), list(range(..)) -/
theorem rd_rng {w : Gw} {G H : Hp} (a b : Int) : RDs w G H (rngD a (b - a).toNat) (rgV a b) [] := by
  unfold rngD rgV
  generalize List.range (b - a).toNat = l
  induction l with
  | nil => exact RDs.nil
  | cons x l ih => exact RDs.cons (.int _) ih
theorem okfs_rng (p : Fl → Bool) (a : Int) (n : Nat) : okfs p (rngD a n) = true := by
  unfold rngD
  generalize List.range n = l
  induction l with
  | nil => rfl
  | cons x l ih => simp only [List.map_cons, okfs, okf, ih]; rfl
def dRgOf (t : Bool) (a b : DE) : DE := fun env L => (a env L).bindF fun x L1 => (b env L1).bindF fun y L2 => match x, y with
  | .int i, .int j => if smallI i && smallI j && okLen (j - i).toNat then .ok (if t then .tup (rngD i (j - i).toNat) else .lst .ow (rngD i (j - i).toNat)) L2 else .stuck
  | _, _ => .stuck
section
variable {X : Cx} {W : WX} {a b : Expr} {da db : DE} {p p2 pos pos2 : Pos}
theorem rg_ok {i j : Int} (c : (smallI i && smallI j && okLen (j - i).toNat) = true) : RgOk i j := by
  simp only [Bool.and_eq_true] at c
  have := smallI_of c.1.1
  have := smallI_of c.1.2
  have := of_decide_eq_true c.2
  exact ⟨by omega, by omega, by omega, by omega, by omega⟩
theorem so_tupRg2 (hc : X.calm = true) (hg : Gl X "tuple") (hm : X.mg "tuple" = none) (hg2 : Gl X "range") (hm2 : X.mg "range" = none) (ha : SE X W a da) (hb : SE X W b db)
    (na : starEach [a, b] X.env = (false, eval a X.env) :: starEach [b] X.env := by rfl) (nb : starEach [b] X.env = (false, eval b X.env) :: starEach [] X.env := by rfl) (hp : (backTo pos2 (starEach [b] X.env)).any (·.1) = false := by rfl)
    (nr : starEach [.Call (.Name "range" p2) [a, b] [] pos2] X.env = (false, eval (.Call (.Name "range" p2) [a, b] [] pos2) X.env) :: starEach [] X.env := by rfl) :
    SE X W (.Call (.Name "tuple" p) [.Call (.Name "range" p2) [a, b] [] pos2] [] pos) (dRgOf true da db) :=
  PE_imp (pe_tupRg hc hg hm (prg_2 hg2 hm2 ha hb na nb hp) nr) fun σ H Q ⟨w, G, env, L, fp, hk, R, h⟩ =>
    ⟨w, G, env, L, fp, hk, R, h.bindF.imp fun v H1 ⟨G1, L1, x, a1, d1, h1⟩ => ⟨w, G1, env, L1, fp, hk, a1.rel, h1.bindF.imp fun u H2 ⟨G2, L2, y, a2, d2, h2⟩ => by
      split at h2
      · rename_i i j _
        split at h2
        · rename_i c
          exact ⟨i, j, (d1.ahead a2).int_of, d2.int_of, rg_ok c, h2.newT a2.rel (rd_rng i j) (okfs_rng _ _ _)⟩
        · exact h2.elim
      · exact h2.elim⟩⟩
theorem so_lstRg2 (hc : X.calm = true) (hg : Gl X "list") (hm : X.mg "list" = none) (hg2 : Gl X "range") (hm2 : X.mg "range" = none) (ha : SE X W a da) (hb : SE X W b db)
    (na : starEach [a, b] X.env = (false, eval a X.env) :: starEach [b] X.env := by rfl) (nb : starEach [b] X.env = (false, eval b X.env) :: starEach [] X.env := by rfl) (hp : (backTo pos2 (starEach [b] X.env)).any (·.1) = false := by rfl)
    (nr : starEach [.Call (.Name "range" p2) [a, b] [] pos2] X.env = (false, eval (.Call (.Name "range" p2) [a, b] [] pos2) X.env) :: starEach [] X.env := by rfl) :
    SE X W (.Call (.Name "list" p) [.Call (.Name "range" p2) [a, b] [] pos2] [] pos) (dRgOf false da db) :=
  PE_imp (pe_listRg hc hg hm (prg_2 hg2 hm2 ha hb na nb hp) nr) fun σ H Q ⟨w, G, env, L, fp, hk, R, h⟩ =>
    ⟨w, G, env, L, fp, hk, R, h.bindF.imp fun v H1 ⟨G1, L1, x, a1, d1, h1⟩ => ⟨w, G1, env, L1, fp, hk, a1.rel, h1.bindF.imp fun u H2 ⟨G2, L2, y, a2, d2, h2⟩ => by
      split at h2
      · rename_i i j _
        split at h2
        · rename_i c
          exact ⟨i, j, (d1.ahead a2).int_of, d2.int_of, rg_ok c, h2.newL a2.rel (rd_rng i j) (okfs_rng _ _ _)⟩
        · exact h2.elim
      · exact h2.elim⟩⟩
def dRg1Of (t : Bool) (a : DE) : DE := fun env L => (a env L).bindF fun x L1 => match x with
  | .int j => if smallI j && okLen (j - 0).toNat then .ok (if t then .tup (rngD 0 (j - 0).toNat) else .lst .ow (rngD 0 (j - 0).toNat)) L1 else .stuck
  | _ => .stuck
theorem so_tupRg1 (hc : X.calm = true) (hg : Gl X "tuple") (hm : X.mg "tuple" = none) (hg2 : Gl X "range") (hm2 : X.mg "range" = none) (ha : SE X W a da)
    (na : starEach [a] X.env = (false, eval a X.env) :: starEach [] X.env := by rfl)
    (nr : starEach [.Call (.Name "range" p2) [a] [] pos2] X.env = (false, eval (.Call (.Name "range" p2) [a] [] pos2) X.env) :: starEach [] X.env := by rfl) :
    SE X W (.Call (.Name "tuple" p) [.Call (.Name "range" p2) [a] [] pos2] [] pos) (dRg1Of true da) :=
  PE_imp (pe_tupRg hc hg hm (prg_1 hg2 hm2 ha na) nr) fun σ H Q ⟨w, G, env, L, fp, hk, R, h⟩ =>
    ⟨w, G, env, L, fp, hk, R, h.bindF.imp fun v H1 ⟨G1, L1, x, a1, d1, h1⟩ => by
      split at h1
      · rename_i j
        split at h1
        · rename_i c
          exact ⟨j, d1.int_of, rg_ok (by simpa [smallI] using c), h1.newT a1.rel (rd_rng 0 j) (okfs_rng _ _ _)⟩
        · exact h1.elim
      · exact h1.elim⟩
theorem so_lstRg1 (hc : X.calm = true) (hg : Gl X "list") (hm : X.mg "list" = none) (hg2 : Gl X "range") (hm2 : X.mg "range" = none) (ha : SE X W a da)
    (na : starEach [a] X.env = (false, eval a X.env) :: starEach [] X.env := by rfl)
    (nr : starEach [.Call (.Name "range" p2) [a] [] pos2] X.env = (false, eval (.Call (.Name "range" p2) [a] [] pos2) X.env) :: starEach [] X.env := by rfl) :
    SE X W (.Call (.Name "list" p) [.Call (.Name "range" p2) [a] [] pos2] [] pos) (dRg1Of false da) :=
  PE_imp (pe_listRg hc hg hm (prg_1 hg2 hm2 ha na) nr) fun σ H Q ⟨w, G, env, L, fp, hk, R, h⟩ =>
    ⟨w, G, env, L, fp, hk, R, h.bindF.imp fun v H1 ⟨G1, L1, x, a1, d1, h1⟩ => by
      split at h1
      · rename_i j
        split at h1
        · rename_i c
          exact ⟨j, d1.int_of, rg_ok (by simpa [smallI] using c), h1.newL a1.rel (rd_rng 0 j) (okfs_rng _ _ _)⟩
        · exact h1.elim
      · exact h1.elim⟩
end

/-! ### x.reverse(), stream.pop() -/
def dRevF (i : Nat) : DS := fun env L => match env[i]? with
  | some (some (.lst .ow xs)) => if okfs isFz xs then .nx (env.set i (some (.lst .ow xs.reverse))) L else .stuck
  | _ => .stuck
def dPop (i : Nat) : DE := fun env L => match env[i]? with
  | some (some .tok) => (match L[L.length - 1]? with
    | some x => .ok (.int x) L.dropLast
    | none => .stuck)
  | _ => .stuck
theorem okfs_rev {p : Fl → Bool} : ∀ {xs : List D}, okfs p xs = true → okfs p xs.reverse = true
  | [], _ => rfl
  | x :: xs, h => by
    simp only [okfs, Bool.and_eq_true] at h
    rw [List.reverse_cons]
    exact okfs_app _ _ (okfs_rev h.2) (by simp only [okfs, h.1]; rfl)
theorem RDs.noF {w : Gw} {G H : Hp} {xs : List D} {vs : List V} {f : List Addr} (h : RDs w G H xs vs f) (k : okfs isFz xs = true) : f = [] := fz_none.2 _ _ _ h k
section
variable {X : Cx} {W : WX} {pos : Pos}
theorem sx_rev (i : Nat) {x : Str} {p pa pc : Pos} (hN : X.N[i]? = some x := by rfl) (hv : Vis X.env.scope x := by first | exact Or.inl rfl | exact Or.inr (Or.inl rfl) | exact Or.inr (Or.inr rfl))
    (hd : (x == ("__debug__" : Str)) = false := by decide) (hcd : (x == ("__classdict__" : Str)) = false := by decide)
    (hbase : attributeBase (.Name x p) "reverse" X.env (eval (.Name x p) X.env) = eval (.Name x p) X.env := by rfl) (hline : (pa.endLine == pc.line) = true := by rfl)
    (hsw : swapsWith (.Call (.Attribute (.Name x p) "reverse" pa) [] [] pc) none pos.line X.env = pure false := by rfl) : SS X W (.Expr (.Call (.Attribute (.Name x p) "reverse" pa) [] [] pc) pos) (dRevF i) :=
  PS_imp (ps_expr (pe_bm0 PySem.F.plainAttrs_list PySem.F.slot_list_reverse PySem.F.type_list_reverse mt_reverse (pe_var hN hv hd hcd) hbase hline) hsw) fun E σ H ⟨w, G, env, L, fp, hk, R, h⟩ => by
    unfold dRevF at h
    split at h
    · rename_i xs ev
      split at h
      · rename_i c
        obtain ⟨a, vs, e1, ha, ns, ma, lv, up⟩ := R.own ev
        obtain ⟨fp', A⟩ := up xs.reverse vs.reverse (fun r => by
          have e := r.noF c
          subst e
          exact r.reverse) ((okf_imp fz_sto).2 _ (okfs_rev c))
        exact ⟨.ref a, e1, Or.inl ⟨rfl, vs, .of ha⟩, a, vs, rfl, rfl, ha, h _ _ _ _ A⟩
      · exact h.elim
    · exact h.elim
theorem so_pop (i : Nat) {x : Str} {p pa : Pos} (hN : X.N[i]? = some x := by rfl) (hv : Vis X.env.scope x := by first | exact Or.inl rfl | exact Or.inr (Or.inl rfl) | exact Or.inr (Or.inr rfl))
    (hd : (x == ("__debug__" : Str)) = false := by decide) (hcd : (x == ("__classdict__" : Str)) = false := by decide)
    (hbase : attributeBase (.Name x p) "pop" X.env (eval (.Name x p) X.env) = eval (.Name x p) X.env := by rfl) (hline : (pa.endLine == pos.line) = true := by rfl) : SE X W (.Call (.Attribute (.Name x p) "pop" pa) [] [] pos) (dPop i) :=
  PE_imp (pe_bm0 PySem.F.plainAttrs_list PySem.F.slot_list_pop PySem.F.type_list_pop mt_pop (pe_var hN hv hd hcd) hbase hline) fun σ H Q ⟨w, G, env, L, fp, hk, R, h⟩ => by
    unfold dPop at h
    split at h
    · rename_i ev
      split at h
      · rename_i z ez
        obtain ⟨v, f1, e1, h1, k, hs, hn⟩ := R.re.get ev
        simp only [RD] at h1
        obtain ⟨a, rfl, rfl, ea⟩ := h1
        have ha := (R.st a ea).1
        have st : Step w H (upd H a (.lst ((L.map V.int).dropLast))) := fun b o e n => by rw [upd_ne (fun q => by subst q; exact n ea)]; exact e
        have R' : Rel w G env L.dropLast σ (upd H a (.lst ((L.map V.int).dropLast))) fp := R.step (Sub.refl _) st (fun b o e => by
          rw [upd_ne (fun q => by subst q; rw [(R.st b ea).2.1] at e; cases e)]; exact R.gs b o e) (fun b m => (R.ow b m).1) fun b e => by
          obtain rfl : a = b := by rw [ea] at e; exact Option.some.inj e
          exact ⟨by rw [upd_same, List.map_dropLast], (R.st a ea).2.1⟩
        refine ⟨.ref a, e1, Or.inl ⟨rfl, _, .of ha⟩, a, L.map V.int, .int z, rfl, rfl, ha, ?_, ?_⟩
        · rw [List.length_map, List.getElem?_map, ez]; rfl
        · exact h _ _ _ [] ⟨⟨Sub.refl _, st, R', fun _ _ e => .inl e⟩, .int z, (fun _ m => nomatch m), List.nodup_nil, (fun _ m => nomatch m), (fun _ m => nomatch m)⟩
      · exact h.elim
    · exact h.elim
end
end Qd

set_option Elab.async false
set_option linter.all false
set_option maxRecDepth 100000
set_option maxHeartbeats 4000000
namespace Qd
open PySem PySem.Spec PyProof.Rows L2

/-! ### the law's own def -/
def lawEnv (nn : Nat) (ns : List Int) : Env := some (.lst .kz (ns.map D.int)) :: List.replicate nn none
def LawSays (nn i : Nat) (de : DE) (db : DS) : Prop := ∀ ns : List Int, ns.length ≤ 63 → ∃ L L1 L', de (lawEnv nn ns) [] = .ok (.lst .ow (L.map D.int)) L1 ∧ db ((lawEnv nn ns).set i (some .tok)) L = .ret (.bl true) L'
def spL (K : PySem.W.Frag) : Sp := fun vs H Q _ => ∃ (a : Addr) (ns : List Int), vs = [.ref a] ∧ SqL K H a (ns.map V.int) ∧ ns.length ≤ 63 ∧ ∀ H', Q (.bl true) H'
theorem rds_ints {w : Gw} {G H : Hp} : ∀ L : List Int, RDs w G H (L.map D.int) (L.map V.int) []
  | [] => RDs.nil
  | _ :: L => RDs.cons (.int _) (rds_ints L)
theorem rds_ints_of {w : Gw} {G H : Hp} : ∀ {L : List Int} {vs : List V} {f : List Addr}, RDs w G H (L.map D.int) vs f → vs = L.map V.int ∧ f = []
  | [], _, _, h => by simp only [List.map_nil, RDs] at h; exact h
  | x :: L, _, _, h => by
    simp only [List.map_cons, RDs, RD] at h
    obtain ⟨v, us, f1, f2, rfl, rfl, ⟨rfl, rfl⟩, h2⟩ := h
    obtain ⟨rfl, rfl⟩ := rds_ints_of h2
    exact ⟨rfl, rfl⟩
theorem tk0 {X : Cx} : Takes X wNo := fun u s' ⟨a, B, sI, pins, σ, H, cls, d, e, I, nb, up, sky, na, os, ag, w⟩ => w.elim
section
variable {P : Program} {w : World} {K : PySem.W.Frag} {mg : Str → Option Value} {base : Heap}
theorem okL {st : Stmt} {f : Addr} {fd : FuncData} {N : List Str} {k nn i : Nat} {de : DE} {db : DS} (F : Fun K "law" "law" st f fd) (S : FnScope N ["script"] (defScope st)) (hn : N.length = nn + 1)
    (hb : ∀ (cdv : Value) (A : Around) (outer : List PySem.Env) (s : Shared) (H : Hp) (E : XK), Room k (A.deeper (envOfC "law" (defScope st) s.heap.objs.size f cdv)) →
      PSs (cxOf CX0 P w K mg base N "law" (defScope st) f cdv A outer s H E).nox (defBody st) (tSeq (tAsg (tE K mg (cxOf CX0 P w K mg base N "law" (defScope st) f cdv A outer s H E).exA wNo de) (gName i)) (tS K mg (cxOf CX0 P w K mg base N "law" (defScope st) f cdv A outer s H E).exA wNo db)))
    (hl : LawSays nn i de db) : FnOk P w K mg base CX0 (k + 1) f fd ["script"] (spL K) := by
  refine F.ok S (fun vs H Q E h => ?_) (fun cdv A outer s H vs Q E hr h => ⟨_, hb cdv A outer s H E hr, ?_⟩)
  · obtain ⟨a, ns, rfl, _⟩ := h; rfl
  · obtain ⟨a, ns, rfl, hS, hlen, q⟩ := h
    obtain ⟨L, L1, L', e1, e2⟩ := hl ns hlen
    have R := start_rel (w := ⟨K, mg, fun _ => none, none, none, none⟩) (G := H) (H := H) (L := []) (args := [.lst .kz (ns.map D.int)]) (vs := [.ref a]) (N := N) (Sub.refl _) (fun _ _ e => nomatch e) (fun _ e => nomatch e)
      (RDs.cons (by simp only [RD]; exact ⟨a, ns.map V.int, [], rfl, ⟨hS, okfs_ints _ _, rfl, rfl⟩, rds_ints ns⟩) RDs.nil) (by simp only [okfs, okf, okfs_ints]; rfl)
    have ee : [D.lst .kz (ns.map D.int)].map some ++ List.replicate (N.length - [V.ref a].length) none = lawEnv nn ns := by rw [hn]; rfl
    rw [ee] at R
    refine ⟨⟨K, mg, fun _ => none, none, none, none⟩, H, lawEnv nn ns, [], [], ⟨rfl, rfl, Eq.symm (exA_of hr.hd)⟩, R, ?_⟩
    rw [e1]
    intro G' H' v fo o
    have d := o.rd
    simp only [RD] at d
    obtain ⟨b, vs, fp, rfl, hl, r⟩ := d
    obtain ⟨hb', ho, rfl⟩ := hl
    obtain ⟨rfl, rfl⟩ := rds_ints_of r
    have R' := start_rel (w := ⟨K, mg, fun _ => none, some b, none, none⟩) (G := G') (H := H') (L := L) (args := [.lst .kz (ns.map D.int)]) (vs := [.ref a]) (N := N) o.rel.gs (fun _ _ e => nomatch e) (fun c e => by
        obtain rfl : b = c := Option.some.inj e
        exact ⟨hb', (o.ow b (List.mem_cons_self ..)).1, rfl⟩)
      (RDs.cons (by simp only [RD]; exact ⟨a, ns.map V.int, [], rfl, ⟨o.sub.seqL hS, okfs_ints _ _, rfl, rfl⟩, rds_ints ns⟩) RDs.nil) (by simp only [okfs, okf, okfs_ints]; rfl)
    rw [ee] at R'
    obtain ⟨fp', R2, _⟩ := R'.set0 (i := i) (x := .tok) (v := .ref b) (by simp only [RD]; exact ⟨b, rfl, trivial, rfl⟩) rfl
    refine ⟨_, G', _, L, fp', ⟨rfl, rfl, Eq.symm (exA_of hr.hd)⟩, R2, ?_⟩
    rw [e2]
    intro G2 H2 v2 f2 o2
    rw [o2.rd.bl_of]
    exact q H2
end
end Qd

set_option Elab.async false
set_option linter.all false
set_option maxRecDepth 100000
set_option maxHeartbeats 4000000
namespace Qd
open PySem PySem.Spec PyProof.Rows L2

/-! ### append that keeps what is owned -/
/-- x.append(e), e's value owned -/
def dAppendO (i : Nat) (e : DE) : DS := fun env L => match env[i]? with
  | some (some (.lst .ow xs)) => (e env L).then env fun y L1 => if okf isSto y && okLen (xs.length + 1) then .nx (env.set i (some (.lst .ow (xs ++ [y])))) L1 else .stuck
  | _ => .stuck
/-- x.append(y), the variable y is let go -/
def dAppendMv (i j : Nat) : DS := fun env L => match env[i]?, env[j]? with
  | some (some (.lst .ow xs)), some (some y) => if decide (i ≠ j) && okf isSto y && okLen (xs.length + 1) then .nx ((env.set j none).set i (some (.lst .ow (xs ++ [y])))) L else .stuck
  | _, _ => .stuck
section
variable {w : Gw} {G H : Hp} {fp : List Addr} {env : Env} {L : List Int} {σ : L2.St}
theorem Rel.ownAdd {i : Nat} {xs : List D} {y : D} {u : V} {fy : List Addr} (R : Rel w G env L σ H fp) (e : env[i]? = some (some (.lst .ow xs))) (dy : RD w G H y u fy) (ky : okf isSto y = true) (ny : fy.Nodup)
    (oy : ∀ a ∈ fy, G a = none ∧ w.B a = none ∧ w.st ≠ some a) (apy : ∀ a ∈ fy, a ∉ fp) :
    ∃ a vs, σ[i]? = some (some (.ref a)) ∧ H a = some (.lst vs) ∧ w.st ≠ some a ∧ a ∈ fp ∧ vs.length = xs.length ∧
      ∃ fp', Rel w G (env.set i (some (.lst .ow (xs ++ [y])))) L σ (upd H a (.lst (vs ++ [u]))) fp' ∧ ∀ b ∈ fp', b ∈ fp ∨ b ∈ fy := by
  obtain ⟨v, f1, f2, e1, h1, k, h2, n1, n2, ap, s1, s2⟩ := R.re.out e R.nd
  simp only [RD] at h1
  obtain ⟨a, vs, fq, rfl, hl, r⟩ := h1
  obtain ⟨ha, ho, rfl⟩ := hl
  have ma : a ∈ fp := s1 a (List.mem_cons_self ..)
  have n1' := List.nodup_cons.mp n1
  have nay : a ∉ fy := fun m => apy a m ma
  refine ⟨a, vs, e1, ha, (R.ow a ma).2.2, ma, r.len.symm, ?_⟩
  have st2 : ∀ b o, b ≠ a → H b = some o → upd H a (.lst (vs ++ [u])) b = some o := fun b o nb e => by rw [upd_ne nb]; exact e
  have ho' : okfs isSto (xs ++ [y]) = true := okfs_app _ _ ho (by simp only [okfs, ky]; rfl)
  have r2 : RDs w G (upd H a (.lst (vs ++ [u]))) (xs ++ [y]) (vs ++ [u]) (fq ++ fy) :=
    (sto_all (w := w) (w' := w) rfl rfl rfl (Sub.refl G)).2 _ _ _ (RDs.app2 r dy) ho' fun b m o e => st2 b o (fun z => by
      subst z
      rcases List.mem_append.mp m with m | m
      · exact n1'.1 m
      · exact nay m) e
  have R2 : Rel w G (env.set i none) L σ (upd H a (.lst (vs ++ [u]))) f2 := ⟨h2.mono (Sub.refl _) fun b m o e => st2 b o (fun z => by subst z; exact ap b (List.mem_cons_self ..) m) e, n2,
    fun b o e => st2 b o (fun z => by subst z; rw [(R.ow b ma).1] at e; cases e) (R.gs b o e), fun b o e => st2 b o (fun z => by subst z; rw [(R.ow b ma).2.1] at e; cases e) (R.bs b o e), fun b m => R.ow b (s2 b m),
    fun b e => ⟨st2 b _ (fun z => by subst z; exact (R.ow b ma).2.2 e) (R.st b e).1, (R.st b e).2⟩⟩
  have d2 : RD w G (upd H a (.lst (vs ++ [u]))) (.lst .ow (xs ++ [y])) (.ref a) (a :: (fq ++ fy)) := by
    simp only [RD]
    exact ⟨a, vs ++ [u], fq ++ fy, rfl, ⟨upd_same, ho', rfl⟩, r2⟩
  obtain ⟨fp', g1, g2⟩ := R2.set (i := i) d2 (by simp only [okf]; rw [(okf_imp sto_nlo).2 _ ho']; rfl)
    (List.nodup_cons.mpr ⟨fun m => (List.mem_append.mp m).elim n1'.1 nay, List.nodup_append.mpr ⟨n1'.2, ny, fun b m c m' e => by subst e; exact apy b m' (s1 b (List.mem_cons_of_mem _ m))⟩⟩)
    (fun b m => by
      rcases List.mem_cons.mp m with rfl | m
      · exact R.ow b ma
      · rcases List.mem_append.mp m with m | m
        · exact R.ow b (s1 b (List.mem_cons_of_mem _ m))
        · exact oy b m)
    (fun b m z => by
      rcases List.mem_cons.mp m with rfl | m
      · exact ap b (List.mem_cons_self ..) z
      · rcases List.mem_append.mp m with m | m
        · exact ap b (List.mem_cons_of_mem _ m) z
        · exact apy b m (s2 b z))
  rw [List.set_set] at g1
  have es : σ.set i (some (.ref a)) = σ := by
    obtain ⟨hl, e3⟩ := List.getElem?_eq_some_iff.mp e1
    rw [← e3]; exact List.set_getElem_self hl
  rw [es] at g1
  refine ⟨fp', g1, fun b m => ?_⟩
  rcases g2 b m with z | z
  · exact .inl (s2 b z)
  · rcases List.mem_cons.mp z with rfl | z
    · exact .inl ma
    · rcases List.mem_append.mp z with z | z
      · exact .inl (s1 b (List.mem_cons_of_mem _ z))
      · exact .inr z
end
section
variable {X : Cx} {W : WX} {e : Expr} {de : DE} {pos : Pos}
theorem sx_appendO (i : Nat) {x : Str} {p pa pc : Pos} (he : SE X W e de) (hN : X.N[i]? = some x := by rfl) (hv : Vis X.env.scope x := by first | exact Or.inl rfl | exact Or.inr (Or.inl rfl) | exact Or.inr (Or.inr rfl))
    (hd : (x == ("__debug__" : Str)) = false := by decide) (hcd : (x == ("__classdict__" : Str)) = false := by decide)
    (hbase : attributeBase (.Name x p) "append" X.env (eval (.Name x p) X.env) = eval (.Name x p) X.env := by rfl)
    (hfew : ((backTo pc (starEach [e] X.env)).all (fun x => !x.1) && (backToKw pc (keywordEach [] X.env)).all (fun x => x.1.isSome)
      && decide (([e] : List Expr).length + ([] : List Keyword).length + (if ([] : List Keyword).isEmpty then 0 else 1) < 30)) = true := by rfl)
    (hline : (pa.endLine == pc.line) = true := by rfl) (hs : starEach [e] X.env = (false, eval e X.env) :: starEach [] X.env := by rfl) (hplain : (backTo pc (starEach [] X.env)).any (·.1) = false := by rfl)
    (hsw : swapsWith (.Call (.Attribute (.Name x p) "append" pa) [e] [] pc) none pos.line X.env = pure false := by rfl) : SS X W (.Expr (.Call (.Attribute (.Name x p) "append" pa) [e] [] pc) pos) (dAppendO i de) :=
  PS_imp (ps_expr (pe_bm PySem.F.plainAttrs_list PySem.F.slot_list_append PySem.F.type_list_append mt_append (pe_var hN hv hd hcd) (pa_cons he pa_nil hs) hbase hfew hline hs hplain) hsw) fun E σ H ⟨w, G, env, L, fp, hk, R, h⟩ => by
    unfold dAppendO at h
    split at h
    · rename_i xs ev
      obtain ⟨a, vs, e1, ha, ns, ma, lv, _⟩ := R.own ev
      refine ⟨.ref a, e1, Or.inl ⟨rfl, vs, .of ha⟩, ⟨w, G, env, L, fp, hk, R, (PVS.thenO h).imp fun y H2 ⟨G2, L2, z, f, o, h2⟩ => ?_⟩⟩
      split at h2
      · rename_i c
        simp only [Bool.and_eq_true] at c
        obtain ⟨a', vs', e1', ha', ns', ma', lv', fp', R', s'⟩ := o.rel.ownAdd ev o.rd c.1 o.nd o.ow o.ap
        rw [e1] at e1'
        obtain rfl : a = a' := by simpa using e1'
        refine ⟨a, vs', y, rfl, rfl, ha', by rw [lv']; have := okLen_size c.2; omega, h2 _ _ _ _ ⟨o.sub, fun b u e n k => ?_, R', fun b m => (s' b m).imp id (o.fr b), fun b u e => (o.new b u e).imp id .inl⟩⟩
        rw [upd_ne (fun z => by subst z; exact n ma)]
        exact o.step b u e k
      · exact h2.elim
    · exact h.elim
theorem sx_appendMv (i j : Nat) {x y : Str} {p py pa pc : Pos} (hN : X.N[i]? = some x := by rfl) (hv : Vis X.env.scope x := by first | exact Or.inl rfl | exact Or.inr (Or.inl rfl) | exact Or.inr (Or.inr rfl))
    (hN2 : X.N[j]? = some y := by rfl) (hv2 : Vis X.env.scope y := by first | exact Or.inl rfl | exact Or.inr (Or.inl rfl) | exact Or.inr (Or.inr rfl))
    (hd : (x == ("__debug__" : Str)) = false := by decide) (hcd : (x == ("__classdict__" : Str)) = false := by decide) (hd2 : (y == ("__debug__" : Str)) = false := by decide) (hcd2 : (y == ("__classdict__" : Str)) = false := by decide)
    (hbase : attributeBase (.Name x p) "append" X.env (eval (.Name x p) X.env) = eval (.Name x p) X.env := by rfl)
    (hfew : ((backTo pc (starEach [.Name y py] X.env)).all (fun x => !x.1) && (backToKw pc (keywordEach [] X.env)).all (fun x => x.1.isSome)
      && decide (([.Name y py] : List Expr).length + ([] : List Keyword).length + (if ([] : List Keyword).isEmpty then 0 else 1) < 30)) = true := by rfl)
    (hline : (pa.endLine == pc.line) = true := by rfl) (hs : starEach [.Name y py] X.env = (false, eval (.Name y py) X.env) :: starEach [] X.env := by rfl) (hplain : (backTo pc (starEach [] X.env)).any (·.1) = false := by rfl)
    (hsw : swapsWith (.Call (.Attribute (.Name x p) "append" pa) [.Name y py] [] pc) none pos.line X.env = pure false := by rfl) : SS X W (.Expr (.Call (.Attribute (.Name x p) "append" pa) [.Name y py] [] pc) pos) (dAppendMv i j) :=
  PS_imp (ps_expr (pe_bm PySem.F.plainAttrs_list PySem.F.slot_list_append PySem.F.type_list_append mt_append (pe_var hN hv hd hcd) (pa_cons (pe_var hN2 hv2 hd2 hcd2) pa_nil hs) hbase hfew hline hs hplain) hsw) fun E σ H ⟨w, G, env, L, fp, hk, R, h⟩ => by
    unfold dAppendMv at h
    split at h
    · rename_i xs z ev ej
      split at h
      · rename_i c
        simp only [Bool.and_eq_true, decide_eq_true_eq] at c
        obtain ⟨⟨nij, kz⟩, cl⟩ := c
        obtain ⟨v, f1, f2, e1, h1, k, h2, n1, n2, ap, s1, s2⟩ := R.re.out ej R.nd
        have R2 : Rel w G (env.set j none) L σ H f2 := ⟨h2, n2, R.gs, R.bs, fun a m => R.ow a (s2 a m), R.st⟩
        have ev2 : (env.set j none)[i]? = some (some (.lst .ow xs)) := by rw [List.getElem?_set_ne (Ne.symm nij)]; exact ev
        obtain ⟨a, vs, e1', ha, ns', ma, lv, fp', R', s'⟩ := R2.ownAdd ev2 h1 kz n1 (fun a m => R.ow a (s1 a m)) ap
        refine ⟨.ref a, e1', Or.inl ⟨rfl, vs, .of ha⟩, v, e1, a, vs, v, rfl, rfl, ha, by rw [lv]; have := okLen_size cl; omega, h _ _ _ _ ⟨Sub.refl _, fun b u e n k => ?_, R', fun b m => .inl ((s' b m).elim (s2 b) (s1 b)), fun b u e => .inl e⟩⟩
        rw [upd_ne (fun z => by subst z; exact n (s2 b ma))]
        exact e
      · exact h.elim
    · exact h.elim
end

/-! ### what a text may lean on -/
section
variable (P : Program) (w : World) (K : PySem.W.Frag) (mg : Str → Option Value) (base : Heap)
/-- a def of the top -/
def GotF (k : Nat) (x : Str) (n : Nat) (df : DF) : Prop := ∃ f fd ps, FnOk P w K mg base (L2.CX P w) k f fd ps (SpD K mg n df) ∧ mg x = some (.ref f) ∧ PySem.W.keepIn K (.ref f) = true ∧ Binds K fd ps []
/-- a class's __init__ -/
def GotI (k : Nat) (c : Str) (n : Nat) (di : DF) : Prop := ∃ C f fd ps, Mk K C f ∧ FnOk P w K mg base (L2.CX P w) k f fd ps (SpI K mg c n di) ∧ mg c = some (.ref C) ∧ Binds K fd ps []
/-- a method -/
def GotM (k : Nat) (c m : Str) (n : Nat) (df : DF) : Prop := ∃ C f fd ps, mg c = some (.ref C) ∧ Cls K C ∧ Meth K C m f ∧ FnOk P w K mg base (L2.CX P w) k f fd ps (SpD K mg n df) ∧ Binds K fd ps []
/-- the fields f of the classes cs -/
def GotA (f : Str) (cs : List Str) : Prop := ∀ c ∈ cs, ∀ C, mg c = some (.ref C) → Cls K C ∧ NoAttr K C f
end
section
variable {X : Cx} {W : WX} {e o : Expr} {es : List Expr} {da : DA} {de : DE} {pos : Pos}
theorem so_callG {j k n : Nat} {x : Str} {p : Pos} {df : DF} (g : GotF X.prog X.w X.K X.mg X.base j x n df) (hr : Room k X.A) (tk : Takes X W) (hg : Gl X x)
    (ha : SA X W (e :: es) da) (hj : j ≤ k := by decide) (hdb : (x == ("__debug__" : Str)) = false := by decide) (he : starEach (e :: es) X.env = (false, eval e X.env) :: starEach es X.env := by rfl)
    (hpl : (backTo pos (starEach es X.env)).any (·.1) = false := by rfl) : SE X W (.Call (.Name x p) (e :: es) [] pos) (dCall n df da) := by
  obtain ⟨f, fd, ps, F, hm, hk, hb⟩ := g
  exact so_call F (hr.mono hj) tk hg hm hk hb ha hdb he hpl
theorem so_makeG {EE : XK} {j k n : Nat} {c : Str} {p : Pos} {di : DF} (g : GotI X.prog X.w X.K X.mg X.base j c n di) (hr : Room k X.A) (tk : Takes X (WK EE)) (hg : Gl X c)
    (ha : SA X (WK EE) (e :: es) da) (hj : j + 1 ≤ k := by decide) (hdb : (c == ("__debug__" : Str)) = false := by decide) (he : starEach (e :: es) X.env = (false, eval e X.env) :: starEach es X.env := by rfl)
    (hpl : (backTo pos (starEach es X.env)).any (·.1) = false := by rfl) : SE X (WK EE) (.Call (.Name c p) (e :: es) [] pos) (dCall n di da) := by
  obtain ⟨C, f, fd, ps, M, F, hm, hb⟩ := g
  exact so_make M F (hr.mono hj) tk hg hm hb ha hdb he hpl
theorem so_methG {EE : XK} {j k n : Nat} {c m : Str} {apos : Pos} {df : DF} {pl : Sem Bool} (g : GotM X.prog X.w X.K X.mg X.base j c m n df) (ho : SE X (WK EE) o de) (hr : Room k X.A)
    (tk : Takes X (WK EE)) (ha : SA X (WK EE) (e :: es) da) (hj : j ≤ k := by decide)
    (hst : starEach (e :: es) X.env = (false, eval e X.env) :: starEach es X.env := by rfl) (hpl : (backTo pos (starEach es X.env)).any (·.1) = false := by rfl)
    (ht : eval (.Call (.Attribute o m apos) (e :: es) [] pos) X.env = (do
      let ov ← eval o X.env
      standAt apos.atName
      let (f, first) ← holding [ov] (getMethod ov m pl)
      callWith pos f first (backTo pos (starEach (e :: es) X.env)) (backToKw pos (keywordEach [] X.env))) := by rfl) :
    SE X (WK EE) (.Call (.Attribute o m apos) (e :: es) [] pos) (dMeth c m n df de da) := by
  obtain ⟨C, f, fd, ps, gC, cl, hm, F, hb⟩ := g
  exact so_meth ho gC cl hm F (hr.mono hj) tk hb ha hst hpl ht
theorem so_methG0 {EE : XK} {j k n : Nat} {c m : Str} {apos : Pos} {df : DF} {pl : Sem Bool} (g : GotM X.prog X.w X.K X.mg X.base j c m n df) (ho : SE X (WK EE) o de) (hr : Room k X.A)
    (tk : Takes X (WK EE)) (hj : j ≤ k := by decide)
    (ht : eval (.Call (.Attribute o m apos) [] [] pos) X.env = (do
      let ov ← eval o X.env
      standAt apos.atName
      let (f, first) ← holding [ov] (getMethod ov m pl)
      callWith pos f first (backTo pos (starEach [] X.env)) (backToKw pos (keywordEach [] X.env))) := by rfl) :
    SE X (WK EE) (.Call (.Attribute o m apos) [] [] pos) (dMeth c m n df de dNil) := by
  obtain ⟨C, f, fd, ps, gC, cl, hm, F, hb⟩ := g
  exact so_meth0 ho gC cl hm F (hr.mono hj) tk hb ht
end
end Qd

set_option Elab.async false
set_option linter.all false
set_option maxRecDepth 100000
set_option maxHeartbeats 4000000
namespace Qd
open PySem PySem.Spec PyProof.Rows L2

/-! ### evaluation -/
section
variable {env : Qd.Env} {L : List Int} {x y : D} {i j : Nat} {a b : DE} {r : DA} {t u : DT} {α β : Type}
@[simp] theorem Res.bind_ok {x : α} {k : α → List Int → Res β} : (Res.ok x L).bind k = k x L := (rfl)
@[simp] theorem Res.bindF_ok {k : D → List Int → Res β} : (Res.ok x L).bindF k = k (fz x) L := (rfl)
@[simp] theorem Res.then_ok {x : α} {k : α → List Int → SRes} : (Res.ok x L).then env k = k x L := (rfl)
@[simp] theorem Res.thenF_ok {k : D → List Int → SRes} : (Res.ok x L).thenF env k = k (fz x) L := (rfl)
@[simp] theorem dC_ev : dC x env L = .ok x L := (rfl)
@[simp] theorem dVar_ev : dVar i env L = (match env[i]? with | some (some d) => .ok (lk d) L | _ => .stuck) := (rfl)
@[simp] theorem dBin_ev {f : D → D → List Int → Res D} : dBin f a b env L = (a env L).bindF fun x L1 => (b env L1).bindF fun y L2 => f x y L2 := (rfl)
@[simp] theorem dUn_ev {f : D → List Int → Res D} : dUn f a env L = (a env L).bindF fun x L1 => f x L1 := (rfl)
@[simp] theorem dNil_ev : dNil env L = .ok [] L := (rfl)
@[simp] theorem dCons_ev : dCons a r env L = (a env L).bindF fun x L1 => (r env L1).bind fun xs L2 => .ok (x :: xs) L2 := (rfl)
@[simp] theorem dApp_ev {f : List D → List Int → Res D} : dApp f r env L = (r env L).bind fun xs L1 => f xs L1 := (rfl)
@[simp] theorem dIf_ev : dIf t a b env L = (t env L).bind fun c L1 => if c then a env L1 else b env L1 := (rfl)
@[simp] theorem dAnd_ev : dAnd a b env L = (a env L).bindF (blOf fun c L1 => if c then b env L1 else .ok (.bl false) L1) := (rfl)
@[simp] theorem dOr_ev : dOr a b env L = (a env L).bindF (blOf fun c L1 => if c then .ok (.bl true) L1 else b env L1) := (rfl)
@[simp] theorem dNot_ev : dNot a env L = (a env L).bindF (blOf fun c L1 => .ok (.bl (!c)) L1) := (rfl)
@[simp] theorem blOf_ev {k : Bool → List Int → Res D} {c : Bool} : blOf k (.bl c) L = k c L := (rfl)
@[simp] theorem tstD_ev {c : Bool} : tstD (.bl c) L = .ok c L := (rfl)
@[simp] theorem dTst_ev : dTst a env L = (a env L).bindF tstD := (rfl)
@[simp] theorem dTAnd_ev : dTAnd t u env L = (t env L).bind fun c L1 => if c then u env L1 else .ok false L1 := (rfl)
@[simp] theorem dTOr_ev : dTOr t u env L = (t env L).bind fun c L1 => if c then .ok true L1 else u env L1 := (rfl)
@[simp] theorem dTNot_ev : dTNot t env L = (t env L).bind fun c L1 => .ok (!c) L1 := (rfl)
@[simp] theorem dCall_ev {n : Nat} {f : DF} : dCall n f r env L = (r env L).bind fun xs L1 => if xs.length = n then f (bws xs) L1 else .stuck := (rfl)
@[simp] theorem dMeth_ev {c m : Str} {n : Nat} {f : DF} : dMeth c m n f a r env L = (a env L).bindF fun x L1 => match x with
  | .obj fl c' ns ys => if c' = c ∧ lkN m ns ys = none ∧ ns.length = ys.length then (r env L1).bind fun xs L2 => if xs.length + 1 = n then f (bws (x :: xs)) L2 else .stuck else .stuck
  | _ => .stuck := (rfl)
variable {s1 s2 : DS}
@[simp] theorem dNext_ev : dNext env L = .nx env L := (rfl)
@[simp] theorem dSeq_ev : dSeq s1 s2 env L = (match s1 env L with | .nx env1 L1 => s2 env1 L1 | r => r) := (rfl)
@[simp] theorem dIfS_ev : dIfS t s1 s2 env L = (t env L).then env fun c L1 => if c then s1 env L1 else s2 env L1 := (rfl)
@[simp] theorem dSet_ev : dSet i a env L = (a env L).thenF env fun x L1 => if okf notLo x then .nx (env.set i (some x)) L1 else .stuck := (rfl)
@[simp] theorem dSetO_ev : dSetO i a env L = (a env L).then env fun x L1 => if okf notLo x then .nx (env.set i (some x)) L1 else .stuck := (rfl)
@[simp] theorem dDrop_ev : dDrop a env L = (a env L).thenF env fun _ L1 => .nx env L1 := (rfl)
@[simp] theorem dRet_ev : dRet a env L = (a env L).then env fun x L1 => .ret x L1 := (rfl)
@[simp] theorem dRetN_ev : dRetN env L = .ret .non L := (rfl)
@[simp] theorem dRetMv_ev : dRetMv i env L = (match env[i]? with | some (some x) => .ret x L | _ => .stuck) := (rfl)
@[simp] theorem dBrk_ev : dBrk env L = .brk env L := (rfl)
@[simp] theorem dCnt_ev : dCnt env L = .cnt env L := (rfl)
@[simp] theorem dFrz_ev : dFrz i s1 env L = (match env[i]? with | some (some x) => if okf notLo (fz x) then s1 (env.set i (some (fz x))) L else .stuck | _ => .stuck) := (rfl)
@[simp] theorem dAppend_ev : dAppend i a env L = (match env[i]? with
  | some (some (.lst .ow xs)) => (a env L).thenF env fun y L1 => if okf isFz y && okLen (xs.length + 1) then .nx (env.set i (some (.lst .ow (xs ++ [y])))) L1 else .stuck
  | _ => .stuck) := (rfl)
@[simp] theorem dAppendO_ev : dAppendO i a env L = (match env[i]? with
  | some (some (.lst .ow xs)) => (a env L).then env fun y L1 => if okf isSto y && okLen (xs.length + 1) then .nx (env.set i (some (.lst .ow (xs ++ [y])))) L1 else .stuck
  | _ => .stuck) := (rfl)
@[simp] theorem dAppendMv_ev : dAppendMv i j env L = (match env[i]?, env[j]? with
  | some (some (.lst .ow xs)), some (some y) => if decide (i ≠ j) && okf isSto y && okLen (xs.length + 1) then .nx ((env.set j none).set i (some (.lst .ow (xs ++ [y])))) L else .stuck
  | _, _ => .stuck) := (rfl)
@[simp] theorem dRevF_ev : dRevF i env L = (match env[i]? with
  | some (some (.lst .ow xs)) => if okfs isFz xs then .nx (env.set i (some (.lst .ow xs.reverse))) L else .stuck
  | _ => .stuck) := (rfl)
@[simp] theorem dPop_ev : dPop i env L = (match env[i]? with
  | some (some .tok) => (match L[L.length - 1]? with
    | some x => .ok (.int x) L.dropLast
    | none => .stuck)
  | _ => .stuck) := (rfl)
@[simp] theorem dAug_ev {f : Int → Int → Int} : dAug i f a env L = (match env[i]? with
  | some (some x) => (a env L).thenF env fun y L1 => match augD f x y with
    | some z => .nx (env.set i (some z)) L1
    | none => .stuck
  | _ => .stuck) := (rfl)
@[simp] theorem augD_ev {f : Int → Int → Int} {m n : Int} : augD f (.int m) (.int n) = some (.int (f m n)) := (rfl)
variable {p : Pat} {di : DI}
@[simp] theorem dFor_ev : dFor p di s1 env L = (di env L).then env fun xs L1 => dLoop p s1 xs env L1 := (rfl)
@[simp] theorem dLoop_nil : dLoop p s1 [] env L = .nx env L := (rfl)
@[simp] theorem dIt_ev : dIt a env L = (a env L).bindF fun x L1 => optR (seqOf x) L1 := (rfl)
@[simp] theorem optR_some {xs : List D} : optR (some xs) L = .ok xs L := (rfl)
@[simp] theorem dRng1_ev : dRng1 r env L = (r env L).bind fun xs L1 => match xs with
  | [.int j] => if smallI j then .ok (rngD 0 j.toNat) L1 else .stuck
  | _ => .stuck := (rfl)
@[simp] theorem dRng2_ev : dRng2 r env L = (r env L).bind fun xs L1 => match xs with
  | [.int i, .int j] => if smallI i && smallI j then .ok (rngD i (j - i).toNat) L1 else .stuck
  | _ => .stuck := (rfl)
@[simp] theorem dZip_ev : dZip r env L = (r env L).bind fun xs L1 => match xs with
  | [.lst f xs, .lst g ys] => if isArg f && isArg g && okfs isFz xs && okfs isFz ys then .ok (zipD xs ys) L1 else .stuck
  | [.tup xs, .tup ys] => .ok (zipD xs ys) L1
  | _ => .stuck := (rfl)
@[simp] theorem dLc_ev {own : List Nat} : dLc own p di t a env L = (di env L).bind fun xs L1 =>
  if okLen (xs.length + 1) && p.slots.all (fun i => own.contains i) then (dLcGo own p t a env xs L1).bind fun ys L2 => .ok (.lst .ow ys) L2 else .stuck := (rfl)
@[simp] theorem dYes_ev : dYes env L = .ok true L := (rfl)
@[simp] theorem dRgOf_ev {q : Bool} : dRgOf q a b env L = (a env L).bindF fun x L1 => (b env L1).bindF fun y L2 => match x, y with
  | .int i, .int j => if smallI i && smallI j && okLen (j - i).toNat then .ok (if q then .tup (rngD i (j - i).toNat) else .lst .ow (rngD i (j - i).toNat)) L2 else .stuck
  | _, _ => .stuck := (rfl)
/- operations -/
variable {m n : Int}
@[simp] theorem addD_ev : addD (.int m) (.int n) L = .ok (.int (m + n)) L := (rfl)
@[simp] theorem subD_ev : subD (.int m) (.int n) L = .ok (.int (m - n)) L := (rfl)
@[simp] theorem mulD_ev : mulD (.int m) (.int n) L = if mulOk m n then .ok (.int (m * n)) L else .stuck := (rfl)
@[simp] theorem fdivD_ev : fdivD (.int m) (.int n) L = if fdivOk n then .ok (.int (m.fdiv n)) L else .stuck := (rfl)
@[simp] theorem modD_ev : modD (.int m) (.int n) L = if n = 0 then .stuck else .ok (.int (m.fmod n)) L := (rfl)
@[simp] theorem powD_ev : powD (.int m) (.int n) L = if 0 ≤ n ∧ n ≤ 1000000 ∧ m.natAbs < 2 ^ 64 then .ok (.int (m ^ n.toNat)) L else .stuck := (rfl)
@[simp] theorem negD_ev : negD (.int m) L = .ok (.int (-m)) L := (rfl)
@[simp] theorem ltD_ev : ltD (.int m) (.int n) L = .ok (.bl (decide (m < n))) L := (rfl)
@[simp] theorem leD_ev : leD (.int m) (.int n) L = .ok (.bl (decide (m ≤ n))) L := (rfl)
@[simp] theorem gtD_ev : gtD (.int m) (.int n) L = .ok (.bl (decide (n < m))) L := (rfl)
@[simp] theorem geD_ev : geD (.int m) (.int n) L = .ok (.bl (decide (n ≤ m))) L := (rfl)
@[simp] theorem isD_ev : isD x .non L = .ok (.bl (isNonD x)) L := by cases x <;> rfl
@[simp] theorem isNotD_ev : isNotD x .non L = .ok (.bl (!isNonD x)) L := by cases x <;> rfl
@[simp] theorem isD_bl {c d : Bool} : isD (.bl c) (.bl d) L = .ok (.bl (decide (c = d))) L := (rfl)
@[simp] theorem isNotD_bl {c d : Bool} : isNotD (.bl c) (.bl d) L = .ok (.bl (!decide (c = d))) L := (rfl)
@[simp] theorem isNonD_non : isNonD .non = true := (rfl)
@[simp] theorem isNonD_int : isNonD (.int m) = false := (rfl)
@[simp] theorem intD_ev : intD [.int m] L = .ok (.int m) L := (rfl)
@[simp] theorem min2D_ev : min2D [.int m, .int n] L = .ok (.int (if n < m then n else m)) L := (rfl)
@[simp] theorem tupD_ev {xs : List D} : tupD xs L = if okLen xs.length && okfs isFz xs then .ok (.tup xs) L else .stuck := (rfl)
@[simp] theorem lstD_ev {xs : List D} : lstD xs L = if okLen xs.length && okfs isFz xs then .ok (.lst .ow xs) L else .stuck := (rfl)
@[simp] theorem eqD_ev : eqD (.int m) (.int n) L = .ok (.bl (m == n)) L := by
  unfold eqD; simp [plainN, eqd]
@[simp] theorem neD_ev : neD (.int m) (.int n) L = .ok (.bl (!(m == n))) L := by
  unfold neD; simp [plainN, eqd]
@[simp] theorem lenD_lst {f : Fl} {xs : List D} : lenD [.lst f xs] L = .ok (.int (xs.length : Int)) L := (rfl)
@[simp] theorem lenD_tup {xs : List D} : lenD [.tup xs] L = .ok (.int (xs.length : Int)) L := (rfl)
@[simp] theorem lenD_tok : lenD [.tok] L = .ok (.int (L.length : Int)) L := (rfl)
@[simp] theorem bindN_nil : bindN [] [] env = some env := (rfl)
@[simp] theorem bindN_cons {is : List Nat} {xs : List D} : bindN (i :: is) (x :: xs) env = if okf notLo x then bindN is xs (env.set i (some x)) else none := (rfl)
@[simp] theorem bindP_nm : bindP (.nm i) x env = if okf notLo x then some (env.set i (some x)) else none := (rfl)
@[simp] theorem bindP_tp {is : List Nat} {xs : List D} : bindP (.tp is) (.tup xs) env = bindN is xs env := (rfl)
@[simp] theorem slots_nm : (Pat.nm i).slots = [i] := (rfl)
@[simp] theorem slots_tp {is : List Nat} : (Pat.tp is).slots = is := (rfl)
/- data -/
variable {q : Fl → Bool} {f : Fl} {c : Str} {ns : List Str} {xs : List D}
@[simp] theorem okf_int : okf q (.int m) = true := (rfl)
@[simp] theorem okf_bl {z : Bool} : okf q (.bl z) = true := (rfl)
@[simp] theorem okf_non : okf q .non = true := (rfl)
@[simp] theorem okf_tok : okf q .tok = true := (rfl)
@[simp] theorem okf_str {z : Str} : okf q (.str z) = true := (rfl)
@[simp] theorem okf_tup : okf q (.tup xs) = okfs q xs := by simp only [okf]
@[simp] theorem okf_lst : okf q (.lst f xs) = (q f && okfs q xs) := by simp only [okf]
@[simp] theorem okf_obj : okf q (.obj f c ns xs) = (q f && okfs q xs) := by simp only [okf]
@[simp] theorem okfs_nil : okfs q [] = true := (rfl)
@[simp] theorem okfs_cons : okfs q (x :: xs) = (okf q x && okfs q xs) := by simp only [okfs]
@[simp] theorem isFz_fz : isFz .fz = true := (rfl)
@[simp] theorem isFz_ow : isFz .ow = false := (rfl)
@[simp] theorem isSto_fz : isSto .fz = true := (rfl)
@[simp] theorem isSto_ow : isSto .ow = true := (rfl)
@[simp] theorem notLo_fz : notLo .fz = true := (rfl)
@[simp] theorem notLo_ow : notLo .ow = true := (rfl)
@[simp] theorem notLo_bo : notLo .bo = true := (rfl)
@[simp] theorem isArg_fz : isArg .fz = true := (rfl)
@[simp] theorem isArg_bo : isArg .bo = true := (rfl)
@[simp] theorem isArg_kz : isArg .kz = true := (rfl)
@[simp] theorem fz_int : fz (.int m) = .int m := (rfl)
@[simp] theorem fz_bl {z : Bool} : fz (.bl z) = .bl z := (rfl)
@[simp] theorem fz_non : fz .non = .non := (rfl)
@[simp] theorem fz_tok : fz .tok = .tok := (rfl)
@[simp] theorem fz_str {z : Str} : fz (.str z) = .str z := (rfl)
@[simp] theorem fz_tup : fz (.tup xs) = .tup (fzs xs) := by simp only [fz]
@[simp] theorem fz_ow : fz (.lst .ow xs) = .lst .fz (fzs xs) := by simp only [fz]
@[simp] theorem fz_fz : fz (.lst .fz xs) = .lst .fz (fzs xs) := by simp only [fz]
@[simp] theorem fz_lo : fz (.lst .lo xs) = .lst .lo (fzs xs) := by simp only [fz]
@[simp] theorem fz_bo : fz (.lst .bo xs) = .lst .bo (fzs xs) := by simp only [fz]
@[simp] theorem fz_kz : fz (.lst .kz xs) = .lst .kz (fzs xs) := by simp only [fz]
@[simp] theorem fz_oow : fz (.obj .ow c ns xs) = .obj .fz c ns (fzs xs) := by simp only [fz]
@[simp] theorem fz_ofz : fz (.obj .fz c ns xs) = .obj .fz c ns (fzs xs) := by simp only [fz]
@[simp] theorem fz_olo : fz (.obj .lo c ns xs) = .obj .lo c ns (fzs xs) := by simp only [fz]
@[simp] theorem fz_obo : fz (.obj .bo c ns xs) = .obj .bo c ns (fzs xs) := by simp only [fz]
@[simp] theorem fzs_nil : fzs [] = [] := (rfl)
@[simp] theorem fzs_cons : fzs (x :: xs) = fz x :: fzs xs := by simp only [fzs]
@[simp] theorem lk_int : lk (.int m) = .int m := (rfl)
@[simp] theorem lk_bl {z : Bool} : lk (.bl z) = .bl z := (rfl)
@[simp] theorem lk_non : lk .non = .non := (rfl)
@[simp] theorem lk_tok : lk .tok = .tok := (rfl)
@[simp] theorem lk_str {z : Str} : lk (.str z) = .str z := (rfl)
@[simp] theorem lk_tup : lk (.tup xs) = .tup (lks xs) := by simp only [lk]
@[simp] theorem lk_ow : lk (.lst .ow xs) = .lst .lo (lks xs) := by simp only [lk]
@[simp] theorem lk_fz : lk (.lst .fz xs) = .lst .fz (lks xs) := by simp only [lk]
@[simp] theorem lk_bo : lk (.lst .bo xs) = .lst .bo (lks xs) := by simp only [lk]
@[simp] theorem lk_kz : lk (.lst .kz xs) = .lst .kz (lks xs) := by simp only [lk]
@[simp] theorem lk_ofz : lk (.obj .fz c ns xs) = .obj .fz c ns (lks xs) := by simp only [lk]
@[simp] theorem lk_obo : lk (.obj .bo c ns xs) = .obj .bo c ns (lks xs) := by simp only [lk]
@[simp] theorem lk_oow : lk (.obj .ow c ns xs) = .obj .lo c ns (lks xs) := by simp only [lk]
@[simp] theorem lk_ome : lk (.obj .me c ns xs) = .obj .lo c ns (lks xs) := by simp only [lk]
@[simp] theorem lks_nil : lks [] = [] := (rfl)
@[simp] theorem lks_cons : lks (x :: xs) = lk x :: lks xs := by simp only [lks]
@[simp] theorem bw_int : bw (.int m) = .int m := (rfl)
@[simp] theorem bw_bl {z : Bool} : bw (.bl z) = .bl z := (rfl)
@[simp] theorem bw_non : bw .non = .non := (rfl)
@[simp] theorem bw_tok : bw .tok = .tok := (rfl)
@[simp] theorem bw_str {z : Str} : bw (.str z) = .str z := (rfl)
@[simp] theorem bw_tup : bw (.tup xs) = .tup (bws xs) := by simp only [bw]
@[simp] theorem bw_lo : bw (.lst .lo xs) = .lst .bo (bws xs) := by simp only [bw]
@[simp] theorem bw_fz : bw (.lst .fz xs) = .lst .fz (bws xs) := by simp only [bw]
@[simp] theorem bw_bo : bw (.lst .bo xs) = .lst .bo (bws xs) := by simp only [bw]
@[simp] theorem bw_kz : bw (.lst .kz xs) = .lst .kz (bws xs) := by simp only [bw]
@[simp] theorem bw_olo : bw (.obj .lo c ns xs) = .obj .bo c ns (bws xs) := by simp only [bw]
@[simp] theorem bw_obo : bw (.obj .bo c ns xs) = .obj .bo c ns (bws xs) := by simp only [bw]
@[simp] theorem bw_ofz : bw (.obj .fz c ns xs) = .obj .fz c ns (bws xs) := by simp only [bw]
@[simp] theorem bws_nil : bws [] = [] := (rfl)
@[simp] theorem bws_cons : bws (x :: xs) = bw x :: bws xs := by simp only [bws]
end
theorem lk_arg {x : D} (h : okf isArg x = true) : lk x = x := lk_id_all.1 x ((okf_imp arg_now).1 x h)
theorem fz_arg' {x : D} (h : okf isArg x = true) : fz x = x := fz_id_all.1 x ((okf_imp arg_now).1 x h)
theorem bw_arg {x : D} (h : okf isArg x = true) : bw x = x := bw_id_all.1 x ((okf_imp arg_nlo).1 x h)
theorem lks_arg {x : List D} (h : okfs isArg x = true) : lks x = x := lk_id_all.2 x ((okf_imp arg_now).2 x h)
theorem fzs_arg {x : List D} (h : okfs isArg x = true) : fzs x = x := fz_id_all.2 x ((okf_imp arg_now).2 x h)
theorem bws_arg {x : List D} (h : okfs isArg x = true) : bws x = x := bw_id_all.2 x ((okf_imp arg_nlo).2 x h)
theorem nlo_arg {x : D} (h : okf isArg x = true) : okf notLo x = true := (okf_imp arg_nlo).1 x h

/-! ### loops -/
section
variable {p : Pat} {body : DS} {env : Qd.Env} {L : List Int}
theorem dLoop_cons {x : D} {xs : List D} {env1 : Qd.Env} (h : bindP p x env = some env1) : dLoop p body (x :: xs) env L = (match body env1 L with
      | .nx e L1 => dLoop p body xs e L1
      | .cnt e L1 => dLoop p body xs e L1
      | .brk e L1 => .nx e L1
      | .ret y L1 => .ret y L1
      | .exc c ns ys e L1 => .exc c ns ys e L1
      | .stuck => .stuck) := by
  conv => lhs; unfold dLoop
  rw [h]
  try rfl
/-- a loop that goes to its end -/
theorem loop_all {xs : List D} (I : Nat → Qd.Env → List Int → Prop) (step : ∀ k x, xs[k]? = some x → ∀ env L, I k env L → ∃ env1, bindP p x env = some env1 ∧ ∃ env' L', (body env1 L = .nx env' L' ∨ body env1 L = .cnt env' L') ∧ I (k + 1) env' L') :
    ∀ {env : Qd.Env} {L : List Int}, I 0 env L → ∃ env' L', dLoop p body xs env L = .nx env' L' ∧ I xs.length env' L' := by
  induction xs generalizing I with
  | nil => exact fun h => ⟨_, _, rfl, h⟩
  | cons x xs ih =>
    intro env L h
    obtain ⟨env1, e1, env', L', e2, h2⟩ := step 0 x rfl env L h
    obtain ⟨e3, L3, q1, q2⟩ := ih (fun k => I (k + 1)) (fun k y e => step (k + 1) y e) h2
    refine ⟨e3, L3, ?_, q2⟩
    rw [dLoop_cons e1]
    rcases e2 with e2 | e2 <;> rw [e2] <;> exact q1
/-- a loop that seeks: it returns the first f, or goes to its end -/
theorem loop_find {xs : List D} (f : D → Option D) (I : Qd.Env → Prop) (step : ∀ x ∈ xs, ∀ env, I env → ∃ env1, bindP p x env = some env1 ∧ match f x with
      | some y => body env1 L = .ret y L
      | none => ∃ env', (body env1 L = .nx env' L ∨ body env1 L = .cnt env' L) ∧ I env') :
    ∀ {env : Qd.Env}, I env → match xs.findSome? f with
      | some y => dLoop p body xs env L = .ret y L
      | none => ∃ env', dLoop p body xs env L = .nx env' L ∧ I env' := by
  induction xs with
  | nil => exact fun h => ⟨_, rfl, h⟩
  | cons x xs ih =>
    intro env h
    obtain ⟨env1, e1, h1⟩ := step x (List.mem_cons_self ..) env h
    have ih' := fun (e : Qd.Env) (i : I e) => ih (fun y m => step y (List.mem_cons_of_mem _ m)) (env := e) i
    rw [List.findSome?_cons]
    cases q : f x with
    | some y =>
      rw [q] at h1
      show dLoop p body (x :: xs) env L = .ret y L
      rw [dLoop_cons e1, h1]
    | none =>
      rw [q] at h1
      obtain ⟨env', e2, i2⟩ := h1
      have z := ih' _ i2
      have ee : dLoop p body (x :: xs) env L = dLoop p body xs env' L := by
        rw [dLoop_cons e1]
        rcases e2 with e2 | e2 <;> rw [e2]
      rw [ee]
      exact z
end
theorem rngD_len {lo : Int} {n : Nat} : (rngD lo n).length = n := by simp [rngD]
/-- a loop over a range -/
theorem loop_rng {p : Pat} {body : DS} {lo : Int} {n : Nat} (I : Nat → Qd.Env → List Int → Prop) (step : ∀ k, k < n → ∀ env L, I k env L → ∃ env1, bindP p (.int (lo + (k : Nat))) env = some env1 ∧ ∃ env' L', (body env1 L = .nx env' L' ∨ body env1 L = .cnt env' L') ∧ I (k + 1) env' L')
    {env : Qd.Env} {L : List Int} (h : I 0 env L) : ∃ env' L', dLoop p body (rngD lo n) env L = .nx env' L' ∧ I n env' L' := by
  obtain ⟨e, L', q1, q2⟩ := loop_all (p := p) (body := body) (xs := rngD lo n) I (fun k x e env L i => by
    obtain ⟨hk, rfl⟩ := rngD_get e
    exact step k hk env L i) h
  rw [rngD_len] at q2
  exact ⟨e, L', q1, q2⟩
/-- a comprehension -/
theorem lc_all {own : List Nat} {p : Pat} {de : DE} {env : Qd.Env} {xs : List D} {L : List Int} (J : Nat → List D → List Int → Prop)
    (step : ∀ k x, xs[k]? = some x → ∀ acc L, J k acc L → ∃ env1 y L', bindP p x (wipeE env own) = some env1 ∧ de env1 L = .ok y L' ∧ okf isSto y = true ∧ J (k + 1) (acc ++ [y]) L') (h : J 0 [] L) :
    ∃ ys L', dLcGo own p dYes de env xs L = .ok ys L' ∧ J xs.length ys L' := by
  suffices H : ∀ (xs : List D) (J : Nat → List D → List Int → Prop) (acc : List D) (L : List Int), (∀ k x, xs[k]? = some x → ∀ acc L, J k acc L → ∃ env1 y L', bindP p x (wipeE env own) = some env1 ∧ de env1 L = .ok y L' ∧ okf isSto y = true ∧ J (k + 1) (acc ++ [y]) L') → J 0 acc L →
      ∃ ys L', dLcGo own p dYes de env xs L = .ok ys L' ∧ J xs.length (acc ++ ys) L' by
    obtain ⟨ys, L', h1, h2⟩ := H xs J [] L step h
    exact ⟨ys, L', h1, h2⟩
  intro xs
  induction xs with
  | nil => intro J acc L _ h; exact ⟨[], L, rfl, by simpa using h⟩
  | cons x xs ih =>
    intro J acc L step h
    obtain ⟨env1, y, L1, e1, e2, e3, h2⟩ := step 0 x rfl acc L h
    obtain ⟨ys, L2, e4, h3⟩ := ih (fun k => J (k + 1)) (acc ++ [y]) L1 (fun k z e => step (k + 1) z e) h2
    refine ⟨y :: ys, L2, ?_, by simpa using h3⟩
    unfold dLcGo
    rw [e1]
    simp only [dYes_ev, e2, e3, if_true, e4, Res.bind_ok]
/-- .. of a pure element -/
theorem lc_map {own : List Nat} {p : Pat} {de : DE} {env : Qd.Env} {xs : List D} {L : List Int} (g : D → D) (step : ∀ x ∈ xs, ∃ env1, bindP p x (wipeE env own) = some env1 ∧ de env1 L = .ok (g x) L ∧ okf isSto (g x) = true) :
    dLcGo own p dYes de env xs L = .ok (xs.map g) L := by
  induction xs with
  | nil => rfl
  | cons x xs ih =>
    obtain ⟨env1, e1, e2, e3⟩ := step x (List.mem_cons_self ..)
    unfold dLcGo
    rw [e1]
    simp only [dYes_ev, e2, e3, if_true, ih fun y m => step y (List.mem_cons_of_mem _ m), Res.bind_ok, List.map_cons]

/-! ### the same, by what simp evaluates -/
def turn (p : Pat) (body : DS) (x : D) (env : Qd.Env) (L : List Int) : SRes := match bindP p x env with
  | none => .stuck
  | some env1 => body env1 L
def Nx (r : SRes) (I : Qd.Env → List Int → Prop) : Prop := match r with
  | .nx e L => I e L
  | .cnt e L => I e L
  | _ => False
@[simp] theorem Nx_nx {e : Qd.Env} {L : List Int} {I : Qd.Env → List Int → Prop} : Nx (.nx e L) I = I e L := (rfl)
@[simp] theorem Nx_cnt {e : Qd.Env} {L : List Int} {I : Qd.Env → List Int → Prop} : Nx (.cnt e L) I = I e L := (rfl)
theorem Nx_of {r : SRes} {I : Qd.Env → List Int → Prop} (h : Nx r I) : ∃ e L, (r = .nx e L ∨ r = .cnt e L) ∧ I e L := by
  cases r with
  | nx e L => exact ⟨e, L, .inl rfl, h⟩
  | cnt e L => exact ⟨e, L, .inr rfl, h⟩
  | _ => exact h.elim
/-- over ys.map h -/
theorem loop_on {α : Type} {p : Pat} {body : DS} {h : α → D} {ys : List α} (I : Nat → Qd.Env → List Int → Prop) (step : ∀ k y, ys[k]? = some y → ∀ env L, I k env L → Nx (turn p body (h y) env L) (I (k + 1)))
    {env : Qd.Env} {L : List Int} (h0 : I 0 env L) : ∃ env' L', dLoop p body (ys.map h) env L = .nx env' L' ∧ I ys.length env' L' := by
  obtain ⟨e, L', q1, q2⟩ := loop_all (p := p) (body := body) (xs := ys.map h) I (fun k x e env L i => by
    rw [List.getElem?_map] at e
    cases ey : ys[k]? with
    | none => rw [ey] at e; cases e
    | some y =>
      rw [ey] at e
      obtain rfl : h y = x := by simpa using e
      have z := step k y ey env L i
      unfold turn at z
      cases eb : bindP p (h y) env with
      | none => rw [eb] at z; exact z.elim
      | some env1 =>
        rw [eb] at z
        exact ⟨env1, rfl, Nx_of z⟩) h0
  rw [List.length_map] at q2
  exact ⟨e, L', q1, q2⟩
/-- over a range -/
theorem loop_to {p : Pat} {body : DS} {lo : Int} {n : Nat} (I : Nat → Qd.Env → List Int → Prop) (step : ∀ k, k < n → ∀ env L, I k env L → Nx (turn p body (.int (lo + (k : Nat))) env L) (I (k + 1)))
    {env : Qd.Env} {L : List Int} (h0 : I 0 env L) : ∃ env' L', dLoop p body (rngD lo n) env L = .nx env' L' ∧ I n env' L' := by
  obtain ⟨e, L', q1, q2⟩ := loop_on (p := p) (body := body) (h := fun k : Nat => D.int (lo + k)) (ys := List.range n) I (fun k y e env L i => by
    have hk : k < n := by
      have := (List.getElem?_eq_some_iff.mp e).1
      simpa using this
    rw [List.getElem?_range hk] at e
    obtain rfl : k = y := by simpa using e
    exact step k hk env L i) h0
  rw [List.length_range] at q2
  exact ⟨e, L', q1, q2⟩
def Fd (L : List Int) (o : Option D) (r : SRes) (I : Qd.Env → Prop) : Prop := match o with
  | some y => r = .ret y L
  | none => Nx r fun e L' => L' = L ∧ I e
@[simp] theorem Fd_some {L : List Int} {y : D} {r : SRes} {I : Qd.Env → Prop} : Fd L (some y) r I = (r = .ret y L) := (rfl)
@[simp] theorem Fd_none {L : List Int} {r : SRes} {I : Qd.Env → Prop} : Fd L none r I = Nx r fun e L' => L' = L ∧ I e := (rfl)
theorem find_on {α : Type} {p : Pat} {body : DS} {h : α → D} {ys : List α} {L : List Int} (f : α → Option D) (I : Qd.Env → Prop) (step : ∀ y ∈ ys, ∀ env, I env → Fd L (f y) (turn p body (h y) env L) I)
    {env : Qd.Env} (h0 : I env) : Fd L (ys.findSome? f) (dLoop p body (ys.map h) env L) I := by
  induction ys generalizing env with
  | nil => exact ⟨rfl, h0⟩
  | cons y ys ih =>
    have z := step y (List.mem_cons_self ..) env h0
    rw [List.findSome?_cons, List.map_cons]
    unfold turn at z
    cases eb : bindP p (h y) env with
    | none =>
      rw [eb] at z
      cases q : f y <;> rw [q] at z
      · exact z.elim
      · cases z
    | some env1 =>
      rw [eb] at z
      rw [dLoop_cons eb]
      cases q : f y with
      | some v =>
        rw [q] at z
        have z' : body env1 L = .ret v L := z
        show _ = _
        rw [z']
      | none =>
        rw [q] at z
        obtain ⟨e, L', e1, rfl, i⟩ := Nx_of z
        have w := ih (fun y m => step y (List.mem_cons_of_mem _ m)) i
        have e1' : body env1 L' = .nx e L' ∨ body env1 L' = .cnt e L' := e1
        rcases e1' with e1 | e1 <;> rw [e1] <;> exact w
theorem find_to {p : Pat} {body : DS} {lo n : Nat} {L : List Int} (f : Nat → Option D) (I : Qd.Env → Prop) (step : ∀ k, lo ≤ k → k < lo + n → ∀ env, I env → Fd L (f k) (turn p body (.int (k : Nat)) env L) I)
    {env : Qd.Env} (h0 : I env) : Fd L ((List.range' lo n).findSome? f) (dLoop p body (rngD (lo : Nat) n) env L) I := by
  have e : rngD (lo : Nat) n = (List.range' lo n).map fun k : Nat => D.int k := by
    unfold rngD
    rw [List.range'_eq_map_range, List.map_map]
    refine List.map_congr_left fun k _ => ?_
    simp
  rw [e]
  exact find_on f I (fun y m env i => by
    have := List.mem_range'_1.mp m
    exact step y this.1 this.2 env i) h0
def lcTurn (own : List Nat) (p : Pat) (de : DE) (env : Qd.Env) (x : D) (L : List Int) : Res D := match bindP p x (wipeE env own) with
  | none => .stuck
  | some env1 => de env1 L
theorem lc_on {α : Type} {own : List Nat} {p : Pat} {de : DE} {env : Qd.Env} {h : α → D} {ys : List α} {L : List Int} (g : α → D) (step : ∀ y ∈ ys, lcTurn own p de env (h y) L = .ok (g y) L ∧ okf isSto (g y) = true) :
    dLcGo own p dYes de env (ys.map h) L = .ok (ys.map g) L := by
  induction ys with
  | nil => rfl
  | cons y ys ih =>
    obtain ⟨e1, e2⟩ := step y (List.mem_cons_self ..)
    unfold lcTurn at e1
    rw [List.map_cons, List.map_cons]
    unfold dLcGo
    cases eb : bindP p (h y) (wipeE env own) with
    | none => rw [eb] at e1; cases e1
    | some env1 =>
      rw [eb] at e1
      have e1' : de env1 L = .ok (g y) L := e1
      simp only [dYes_ev, e1', e2, if_true, ih fun y m => step y (List.mem_cons_of_mem _ m), Res.bind_ok]
/-- a comprehension that draws -/
theorem lc_draw {α : Type} {own : List Nat} {p : Pat} {de : DE} {env : Qd.Env} {h : α → D} {ys : List α} {L : List Int} (P : D → Prop) (step : ∀ y ∈ ys, ∀ L, ∃ z L', lcTurn own p de env (h y) L = .ok z L' ∧ okf isSto z = true ∧ P z) :
    ∃ zs L', dLcGo own p dYes de env (ys.map h) L = .ok zs L' ∧ zs.length = ys.length ∧ ∀ z ∈ zs, P z := by
  induction ys generalizing L with
  | nil => exact ⟨[], L, rfl, rfl, fun _ m => nomatch m⟩
  | cons y ys ih =>
    obtain ⟨z, L1, e1, e2, pz⟩ := step y (List.mem_cons_self ..) L
    obtain ⟨zs, L2, q1, q2, q3⟩ := ih (fun y m => step y (List.mem_cons_of_mem _ m)) (L := L1)
    unfold lcTurn at e1
    refine ⟨z :: zs, L2, ?_, by simp [q2], fun w m => ?_⟩
    · rw [List.map_cons]
      unfold dLcGo
      cases eb : bindP p (h y) (wipeE env own) with
      | none => rw [eb] at e1; cases e1
      | some env1 =>
        rw [eb] at e1
        have e1' : de env1 L = .ok z L1 := e1
        simp only [dYes_ev, e1', e2, if_true, q1, Res.bind_ok]
    · rcases List.mem_cons.mp m with rfl | m
      · exact pz
      · exact q3 w m
/-- a def's meaning, by its body's -/
theorem body_ret {np nn : Nat} {body : DS} {args : List D} {env : Qd.Env} {L L' : List Int} {x : D} (hb : body env L = .ret x L') (k : okf isSto x = true) (he : args.map some ++ List.replicate (nn - np) none = env := by rfl) : dBody np nn body args L = .ok x L' := by
  unfold dBody
  rw [he, hb]
  show (if okf isSto x then _ else _) = _
  rw [if_pos k]
theorem body_nx {np nn : Nat} {body : DS} {args : List D} {env env' : Qd.Env} {L L' : List Int} (hb : body env L = .nx env' L') (he : args.map some ++ List.replicate (nn - np) none = env := by rfl) : dBody np nn body args L = .ok .non L' := by
  unfold dBody
  rw [he, hb]
theorem dLoop_ncnt (p : Pat) (body : DS) : ∀ (xs : List D) (env : Qd.Env) (L : List Int) (e : Qd.Env) (L' : List Int), dLoop p body xs env L ≠ .cnt e L'
  | [], _, _, _, _ => by simp
  | x :: xs, env, L, e, L' => by
    cases eb : bindP p x env with
    | none => unfold dLoop; rw [eb]; simp
    | some env1 =>
      rw [dLoop_cons eb]
      cases body env1 L with
      | nx e1 L1 => exact dLoop_ncnt p body xs e1 L1 e L'
      | cnt e1 L1 => exact dLoop_ncnt p body xs e1 L1 e L'
      | _ => simp
end Qd

set_option Elab.async false
set_option linter.all false
set_option maxRecDepth 100000
set_option maxHeartbeats 4000000
namespace PySem
open Sem (wp)
open AutoSeq1 (wpAny_loadPart')
theorem meets_enumerate_newT (l : Addr) (items : Array Value) (n : Nat) (dct : Option Addr) (sl : Array (Option Value)) :
    Meets (Builtin.«enumerate.__new__» ⟨[.type "enumerate", .ref l], []⟩) (fun _ R s => s.heap.get? l = some { cls := .type "tuple", dict := dct, data := .seq items n, slots := sl } ∧
      R (.ok (.ret (.ref (s.heap.push { cls := .type "tuple_iterator", data := .fields #[.ref l, .int 0 0] }).objs.size)))
        { s with heap := (s.heap.push { cls := .type "tuple_iterator", data := .fields #[.ref l, .int 0 0] }).push { cls := .type "enumerate", data := .fields #[.none, .bool false, .ref s.heap.objs.size, rawInt 0, .none, .none] } }) :=
  .of_wp fun prog w A R s h => by
    obtain ⟨hp, g, d, tk, os⟩ := s; obtain ⟨hl, h⟩ := h
    have hsub := sub_enumerate
    have hL : Heap.IsTuple (Shared.heap ⟨hp, g, d, tk, os⟩) l items := ⟨_, hl, rfl, n, rfl⟩
    wp_walk using wpAny_loadPart' hl
    refine wpAny_stack_any fun st => wpAny_pure ?_
    split
    · rename_i c _ _ _ _ _
      cases (c == Value.type "enumerate")
      · wp_walk using wpAny_loadPart' hl, wpAny_pyIter_tuple hL
        exact ⟨_, rfl, h⟩
      · wp_walk using wpAny_loadPart' hl, wpAny_pyIter_tuple hL
        exact ⟨_, rfl, h⟩
    · wp_walk using wpAny_loadPart' hl, wpAny_pyIter_tuple hL
      exact ⟨_, rfl, h⟩
section
variable {prog : Program} {w : World} {A : Around} {E : Value → Shared → Prop} {s : Shared}
theorem call_enumerate_tuple {l : Addr} {items : Array Value} {Q : Value → Shared → Prop} (hL : s.heap.IsTuple l items)
    (h : ∀ h', IsEnum h' (s.heap.objs.size + 1) s.heap.objs.size 0 .none → h'.IsTupleIter s.heap.objs.size l 0 → h'.objs.size = s.heap.objs.size + 2 →
      (∀ b o, s.heap.get? b = some o → h'.get? b = some o) → Q (.ref (s.heap.objs.size + 1)) { s with heap := h' }) :
    wpAny (model prog w) A (call (.type "enumerate") [.ref l]) Q E s := by
  obtain ⟨⟨c, dct, dt, sl⟩, hl, hc, n, hd⟩ := hL
  replace hc : c = .type "tuple" := hc
  replace hd : dt = .seq items n := hd
  subst hc hd
  refine callType_new F.called_enumerate (by decide) (F.typeCall_enumerate_1 _) (F.newCall_enumerate_1 _) (fun obj => F.args_object_init_2 obj _) F.entry_enumerate_new
    (meets_enumerate_newT l items n dct sl) ⟨hl, ?_⟩
  have hz : (s.heap.push { cls := .type "tuple_iterator", data := .fields #[.ref l, .int 0 0] }).objs.size = s.heap.objs.size + 1 := Heap.size_push ..
  show _ ∧ _
  rw [hz]
  have he : IsEnum ((s.heap.push { cls := .type "tuple_iterator", data := .fields #[.ref l, .int 0 0] }).push
      { cls := .type "enumerate", data := .fields #[.none, .bool false, .ref s.heap.objs.size, rawInt 0, .none, .none] }) (s.heap.objs.size + 1) s.heap.objs.size 0 .none := by
    have := Heap.get?_push_size (s.heap.push { cls := .type "tuple_iterator", data := .fields #[.ref l, .int 0 0] })
      (o := { cls := .type "enumerate", data := .fields #[.none, .bool false, .ref s.heap.objs.size, rawInt 0, .none, .none] }) rfl
    rw [hz] at this; exact this
  refine ⟨⟨_, he, rfl⟩, h _ he ⟨_, Heap.get?_push_of_some _ (Heap.get?_push_size _ rfl), rfl, rfl⟩ (by rw [Heap.size_push, hz]) fun b o x => Heap.get?_push_of_some _ (Heap.get?_push_of_some _ x)⟩
end
end PySem
namespace PySem
open Sem (wp)
theorem Draws.tuple {prog : Program} {w : World} {A : Around} (hh : A.handled = none) (it l : Addr) (hne : l ≠ it) (items : Array Value) :
    Draws prog w A it [it, l] items.size (fun i v => items[i]? = some v) (fun i h => h.IsTupleIter it l i ∧ h.IsTuple l items) where
  live := fun _ _ st => let ⟨o, ho, _⟩ := st.1; ⟨o, ho⟩
  frame := fun _ _ _ st hk => ⟨st.1.at fun o e => hk it (by simp) o e, let ⟨o, ho, r⟩ := st.2; ⟨o, hk l (by simp) o ho, r⟩⟩
  item := fun i s Q E hi st hQ => by
    refine RZ.nextOf_tuple_item st.1 st.2 (x := items[i]) (by simp [hi]) fun h' hit' hs' => ?_
    exact hQ _ h' s.toks (by simp [hi]) ⟨hit', let ⟨o, ho, r⟩ := st.2; ⟨o, (hs'.2 l hne).trans ho, r⟩⟩ hs'
  done := fun s Q E st hE => RZ.nextOf_tuple_end hh st.1 st.2 (by simp) hE
end PySem
namespace Qd
open PySem PySem.Spec PyProof.Rows L2
def IteT (K : PySem.W.Frag) (a : Addr) : It :=
  ⟨fun i H => ∃ (xs : List V) (x : V), SqT K H a xs ∧ xs[i]? = some x, fun i H v H' => ∃ T x, v = .ref T ∧ H T = none ∧ H' = upd H T (.tup [.int (i : Nat), x]) ∧ ∀ xs, SqT K H a xs → xs[i]? = some x, fun i H => ∃ xs : List V, SqT K H a xs ∧ xs.length = i⟩
theorem turn_enumT {P : Program} {w : World} {K : PySem.W.Frag} {elts : List Expr} {kk : Nat} {tpos : Pos} (a e it : Addr) (hea : a ≠ e) (hia : a ≠ it) :
    Turn P w K (.Tuple elts kk tpos) (IteT K a) [e, it] e (fun i h => (∃ old, IsEnum h e it ((i : Nat) : Int) old) ∧ h.IsTupleIter it a i ∧ e ≠ it) where
  mem := by simp
  obj := fun i h st b hb => by
    obtain ⟨⟨old, he⟩, ⟨o, ho, hc, hd⟩, _⟩ := st
    have e' : b = e ∨ b = it := by simpa using hb
    rcases e' with z | z
    · rw [z]; exact ⟨_, he, fun v q => nomatch q⟩
    · rw [z]; exact ⟨o, ho, fun v q => by rw [hd] at q; cases q⟩
  keep := fun i h h' st k => let ⟨⟨old, he⟩, hi, hne⟩ := st; ⟨⟨old, k e (by simp) _ he⟩, hi.at fun o q => k it (by simp) o q, hne⟩
  item := by
    intro X hP hw hK hc i pins s σ H E I hf st hg
    subst hP hw hK
    obtain ⟨⟨old, he⟩, hit, hne⟩ := st
    obtain ⟨xs, x, hq, hx⟩ := hg
    obtain ⟨its, rv, p, hz⟩ := I.tuple hq
    obtain ⟨u, hu, ru⟩ := rv.get hx
    have hel : e < s.heap.objs.size := Heap.lt_size he
    have hil : it < s.heap.objs.size := by obtain ⟨_, q, _⟩ := hit; exact Heap.lt_size q
    have hT0 : s.heap.IsTuple a its.toArray := p
    have hlt : i < its.toArray.size := by
      have := (List.getElem?_eq_some_iff.mp hu).1
      simpa using this
    refine wpAny_pyNext_enum_itemD (Draws.tuple (show X.A.in1.handled = none from I.ok.hd hc) it a hia its.toArray) he ⟨hit, hT0⟩ hlt hne (by simp [hne, Ne.symm hea]) fun y h' tk py ho hst' hT hsz hk => ?_
    obtain rfl : y = u := by
      have q : its.toArray[i]? = some u := by simpa using hu
      rw [q] at py
      exact (Option.some.inj py).symm
    refine ⟨_, rfl, wpAny_letOwnedTupleGo_enum (s := { s with heap := h', toks := tk + 1 }) ho fun h'' he' sb => ?_⟩
    have hT2 : h''.get? s.heap.objs.size = some { cls := .type "tuple", data := .seq #[.int i tk, y] } := (sb.2 _ (Nat.ne_of_gt hel)).trans hT
    have new : ObjOk X.prog X.w (upd H s.heap.objs.size (.tup [.int (i : Nat), x])) h'' s.heap.objs.size (.tup [.int (i : Nat), x]) :=
      ⟨by show 2 ≤ sizeLine; decide, [.int i tk, y], .cons ⟨_, rfl⟩ (.cons ru .nil), ⟨_, hT2, rfl, _, rfl⟩⟩
    have I1 : Inv X pins σ (upd H s.heap.objs.size (.tup [.int (i : Nat), x])) { s with heap := h'', toks := tk + 1 } :=
      I.turnedNew (ch := [e, it]) (fun b ob hb q => (sb.2 b (fun z => hb (by simp [z]))).trans (hk b ob (fun z => hb (by simp [z])) (fun z => hb (by simp [z])) q)) hf (Nat.le_refl _) new
    refine ⟨.ref s.heap.objs.size, _, I1, rfl, ⟨_, x, rfl, I.hok.fresh (Nat.le_refl _), rfl, fun ys hy => by rw [I.tuple_inj hy hq]; exact hx⟩, ⟨⟨y, ?_⟩, hst'.1.at fun o q => (sb.2 it (Ne.symm hne)).trans q, hne⟩, fun b hb => ?_⟩
    · have e1 : ((i + 1 : Nat) : Int) = (i : Int) + 1 := by omega
      rw [e1]; exact he'
    · have hb' : b < s.heap.objs.size := by
        have e' : b = e ∨ b = it := by simpa using hb
        rcases e' with z | z
        · rw [z]; exact hel
        · rw [z]; exact hil
      rw [upd_ne (Nat.ne_of_lt hb')]
      exact (hf b hb).1
  done := by
    intro X hP hw hK hc i pins s σ H E I hf st hg
    subst hP hw hK
    obtain ⟨⟨old, he⟩, hit, hne⟩ := st
    obtain ⟨xs, hq, hx⟩ := hg
    obtain ⟨its, rv, p, hz⟩ := I.tuple hq
    obtain ⟨f0, f1, f2, f3, f4, f5⟩ := hf it (by simp)
    have hl := rv.length
    have ei : i = its.toArray.size := by simp; omega
    have hT0 : s.heap.IsTuple a its.toArray := p
    subst ei
    exact wpAny_pyNext_enum_endD (Draws.tuple (show X.A.in1.handled = none from I.ok.hd hc) it a hia its.toArray) he ⟨hit, hT0⟩ fun h' eb => ⟨rfl, I.turned (t' := s.toks) (fun b o hb q => eb b o hb q) f0 f1 f3 f4 f5⟩
  self := fun A i s Q E st h => let ⟨⟨_, he⟩, _⟩ := st; wpAny_pyIter_enum he h
def iEnumA (K : PySem.W.Frag) (ta : TA) : TI := fun σ H R => ta σ H fun vs H1 => ∃ a xs, vs = [.ref a] ∧ ((SqL K H1 a xs ∧ R (Ite K a) H1) ∨ (SqT K H1 a xs ∧ R (IteT K a) H1))
theorem pi_enumA {X : Cx} {e : Expr} {ta : TA} {p pos tpos : Pos} {elts : List Expr} {kk : Nat} (hg : Gl X "enumerate") (hm : X.mg "enumerate" = none) (ha : PA X [e] ta) (hs : starEach [e] X.env = [(false, eval e X.env)] := by rfl) :
    PI X (.Tuple elts kk tpos) (.Call (.Name "enumerate" p) [e] [] pos) (iEnumA X.K ta) := by
  refine ⟨fun pins s σ H R I h => ?_⟩
  refine Call_ (ld_blt I hg hm boot_enumerate (PyProof.Rows.callWith_type1 (thn (ha.run pos pins s σ H _ I h) fun us s1 ⟨vs, H1, I1, r1, q1⟩ => ?_) hs rfl))
  obtain ⟨a, xs, ex, q1⟩ := q1
  subst ex
  cases r1 with
  | cons r rr =>
    cases rr
    cases r
    have fresh : ∀ b, b ∈ [s1.heap.objs.size + 1, s1.heap.objs.size] → FpOk X pins H1 b := fun b hb => by
      have e' : b = s1.heap.objs.size + 1 ∨ b = s1.heap.objs.size := by simpa using hb
      have hle : s1.heap.objs.size ≤ b := by
        rcases e' with z | z
        · rw [z]; exact Nat.le_add_right _ _
        · rw [z]; exact Nat.le_refl _
      exact I1.fpOk hle (I1.hok.fresh hle)
    rcases q1 with ⟨hq, q⟩ | ⟨hq, q⟩
    · obtain ⟨its, rv, p', hz⟩ := I1.list hq
      refine call_enumerate_list p'.isList fun h' he hit hsz hk => wpAny_pyIter_enum he ?_
      have I2 : Inv X pins σ H1 { s1 with heap := h' } := I1.kept (t' := s1.toks) hk
      exact ⟨s1.heap.objs.size + 1, [s1.heap.objs.size + 1, s1.heap.objs.size], _, _, H1, rfl, I2, turn_enum a (s1.heap.objs.size + 1) s1.heap.objs.size, ⟨⟨.none, he⟩, hit, Nat.succ_ne_self _⟩, fresh, q⟩
    · obtain ⟨its, rv, p', hz⟩ := I1.tuple hq
      obtain ⟨o1, ho1, _⟩ := id p'
      have hlt : a < s1.heap.objs.size := Heap.lt_size ho1
      refine call_enumerate_tuple (show s1.heap.IsTuple a its.toArray from p') fun h' he hit hsz hk => wpAny_pyIter_enum he ?_
      have I2 : Inv X pins σ H1 { s1 with heap := h' } := I1.kept (t' := s1.toks) hk
      exact ⟨s1.heap.objs.size + 1, [s1.heap.objs.size + 1, s1.heap.objs.size], _, _, H1, rfl, I2, turn_enumT a (s1.heap.objs.size + 1) s1.heap.objs.size (Nat.ne_of_lt (Nat.lt_succ_of_lt hlt)) (Nat.ne_of_lt hlt), ⟨⟨.none, he⟩, hit, Nat.succ_ne_self _⟩, fresh, q⟩
def dEnumA (da : DA) : DI := fun env L => (da env L).bind fun xs L1 => match xs with
  | [.lst f xs] => if isArg f && okfs isFz xs then .ok (enuD xs) L1 else .stuck
  | [.tup xs] => .ok (enuD xs) L1
  | _ => .stuck
theorem enuD_len {xs : List D} : (enuD xs).length = xs.length := by simp [enuD]
theorem enuD_get {xs : List D} {i : Nat} {z : D} (e : (enuD xs)[i]? = some z) : ∃ x, xs[i]? = some x ∧ z = .tup [.int (i : Nat), x] := by
  unfold enuD at e
  rw [List.getElem?_zipWith] at e
  cases e2 : xs[i]? with
  | none =>
    rw [e2] at e
    cases e3 : (List.range xs.length)[i]? <;> rw [e3] at e <;> cases e
  | some y =>
    have hi := (List.getElem?_eq_some_iff.mp e2).1
    rw [e2, List.getElem?_range hi] at e
    exact ⟨y, rfl, by simpa using e.symm⟩
theorem serves_enumL {w : Gw} {G0 H0 : Hp} {a : Addr} {xs : List D} {vs : List V} (hq : ∀ {G H}, Sub G0 G → Sub G H → Sub w.B H → SqL w.K H a vs) (d : RDs w G0 H0 xs vs []) (k : okfs isFz xs = true) : Serves w G0 (Ite w.K a) (enuD xs) where
  go i z e := by
    intro G env L σ H fp g R
    obtain ⟨x, ex, rfl⟩ := enuD_get e
    obtain ⟨v, e1, d1⟩ := d.get ex
    refine ⟨⟨vs, v, hq g R.gs R.bs, e1⟩, fun v' H' ⟨T, x', e3, n, e4, z1⟩ => ?_⟩
    have q1 := z1 vs (hq g R.gs R.bs)
    rw [e1] at q1
    obtain rfl : v = x' := by simpa using q1
    subst e3 e4
    exact pair_ahead R n (.int _) (d1.argAny g ((okf_imp fz_arg).1 _ (okfs_get k ex))) rfl (okfs_get k ex)
  stop := by
    intro G env L σ H fp g R
    exact ⟨vs, hq g R.gs R.bs, by rw [enuD_len, d.len]; exact Nat.le_refl _⟩
theorem serves_enumT {w : Gw} {G0 H0 : Hp} {a : Addr} {xs : List D} {vs : List V} (hq : SqT w.K G0 a vs) (d : RDs w G0 H0 xs vs []) (k : okfs isFz xs = true) : Serves w G0 (IteT w.K a) (enuD xs) where
  go i z e := by
    intro G env L σ H fp g R
    have hq' := Sub.seqT R.gs (g.seqT hq)
    obtain ⟨x, ex, rfl⟩ := enuD_get e
    obtain ⟨v, e1, d1⟩ := d.get ex
    refine ⟨⟨vs, v, hq', e1⟩, fun v' H' ⟨T, x', e3, n, e4, z1⟩ => ?_⟩
    have q1 := z1 vs hq'
    rw [e1] at q1
    obtain rfl : v = x' := by simpa using q1
    subst e3 e4
    exact pair_ahead R n (.int _) (d1.argAny g ((okf_imp fz_arg).1 _ (okfs_get k ex))) rfl (okfs_get k ex)
  stop := by
    intro G env L σ H fp g R
    exact ⟨vs, Sub.seqT R.gs (g.seqT hq), by rw [enuD_len, d.len]⟩
theorem si_enum {X : Cx} {W : WX} {e : Expr} {da : DA} {p pos tpos : Pos} {elts : List Expr} {kk : Nat} (hg : Gl X "enumerate") (hm : X.mg "enumerate" = none) (ha : SA X W [e] da) (hs : starEach [e] X.env = [(false, eval e X.env)] := by rfl) :
    SI X W (.Tuple elts kk tpos) (.Call (.Name "enumerate" p) [e] [] pos) (dEnumA da) :=
  PI_imp (pi_enumA hg hm ha hs) fun σ H Q ⟨w, G, env, L, fp, hk, R, h⟩ => ⟨w, G, env, L, fp, hk, R, (PVi.binds h).imp fun vs H1 ⟨G1, L1, xs, a1, d1, h1⟩ => by
    split at h1
    · rename_i f xs
      split at h1
      · rename_i c
        simp only [Bool.and_eq_true] at c
        obtain ⟨v, us, rfl, r1, r2⟩ := d1.cons_of
        obtain ⟨a, vs1, rfl, s1, q1⟩ := r1.seqL_of c.1
        rw [r2.nil_of]
        have z := h1 G1 H1 (Ite w.K a) (.refl a1.rel) (serves_enumL q1 s1 c.2)
        rw [hk.1] at z
        exact ⟨a, vs1, rfl, .inl ⟨hk.1 ▸ q1 (Sub.refl _) a1.rel.gs a1.rel.bs, z⟩⟩
      · exact h1.elim
    · rename_i xs
      obtain ⟨v, us, rfl, r1, r2⟩ := d1.cons_of
      obtain ⟨a, vs1, rfl, q1, s1, c1⟩ := r1.seqT_of
      rw [r2.nil_of]
      have z := h1 G1 H1 (IteT w.K a) (.refl a1.rel) (serves_enumT q1 s1 c1)
      rw [hk.1] at z
      exact ⟨a, vs1, rfl, .inr ⟨hk.1 ▸ Sub.seqT a1.rel.gs q1, z⟩⟩
    · exact h1.elim⟩
end Qd

set_option Elab.async false
set_option linter.all false
set_option maxRecDepth 100000
set_option maxHeartbeats 4000000
namespace Qd
open PySem PySem.Spec PyProof.Rows L2
open PySem.W (kxs_mw ksFn)
open NdefX (NF NScope envF ncx startF CellsAt inv_startN)

/-! ### super().__init__('..') in the __init__ of an error of one's own -/
/-- what the written part says of such a class and its __init__ -/
structure ErrC (P : Program) (K : PySem.W.Frag) (mg : Str → Option Value) (C fI cc cda : Addr) (qual : Str) (st : Stmt) (fd : FuncData) : Prop where
  low : OexC K C
  rd : XfC K C
  fn : ∃ (oc : Value) (od : Option Addr) (kV doc pm : Value) (an : Option Addr) (ct : Value) (osl : Array (Option Value)), fd = ksFn "__init__" qual (defArgs st) (defBody st) (defScope st) .none kV doc pm an (.ref cda) ct cc ∧ K.lookup fI = some ⟨oc, od, .func fd, osl⟩
  code : PySem.W.codeIn K (.ref cda) qual = true
  file : ∃ (ccl : Value) (cdd : Option Addr) (vs : Array Value) (ccs : Array (Option Value)) (fl : Str) (tf : Tok), K.lookup cda = some ⟨ccl, cdd, .fields vs, ccs⟩ ∧ vs[2]? = some (.str fl tf) ∧ ((P.main.file : Str) == fl) = true
  cell : ∃ (cl : Value) (cld : Option Addr) (csl : Array (Option Value)), K.lookup cc = some ⟨cl, cld, .cell (some (.ref C)), csl⟩
  init : PySem.W.findIn K (.ref C) "__init__" = some (some (.ref fI))
  tyI : PySem.W.typeIn K (.ref fI) = some (.type "function")
  self : PySem.W.mroIn K C (.ref C) = some true
  sup : PySem.W.ks_superIn K C C "__init__" = some (some (.builtin "ValueError.__init__"))
  isV : PySem.W.subIn K (.ref C) (.type "ValueError") = some true
  z : mg "super" = none
  st : PySem.W.nsIn K cStatics "thirdparty.any" = some none
  top : (P.main.scope.names.lookup ("super" : Str)).isSome = false

theorem super_boot : bootBuiltins "super" = some (.type "super") := by decide +kernel
section
variable {P : Program} {K : PySem.W.Frag} {mg : Str → Option Value} {X : Cx} {C fI cc cda a : Addr} {qual : Str} {st : Stmt} {fd : FuncData} {pins : List (Addr × Obj)} {σ : L2.St} {H : Hp} {s : Shared}
/-- the frame of the call of __init__ -/
structure InErr (X : Cx) (fI cc cda : Addr) (st : Stmt) : Prop where
  func : X.env.func = some fI
  code : X.env.code = .ref cda
  cells : X.env.cells.lookup ("__class__" : Str) = some cc
  scope : X.env.scope = defScope st
theorem call_mw {u C : Addr} {rest : List Value} {Q : Value → Shared → Prop} {A : Around} {E : Value → Shared → Prop} (T : OexC X.K C) (I : Inv X pins σ H s) (ea : H a = some (exo a C none)) (hu : s.heap.get? u = some (kxs_mw "ValueError.__init__" a)) (hl : rest.length ≤ sizeLine)
    (h : ∀ s', Inv X pins σ H s' → Q .none s') : wpAny (model X.prog X.w) A (call (.ref u) rest) Q E s := by
  obtain ⟨nm, q, N, bs, bm, sn, sub, ab, col, dd, k0, k1, k2, k3, k5, hC, hbm⟩ := T.cls
  obtain ⟨t1, ho⟩ := exo_at I.hok ea
  have hCh := I.kIn _ _ hC
  obtain ⟨hp, g, d, t, os⟩ := s
  refine wpAny_call (codeAny_of_tree ?_)
  show wpAny _ A.in1 (callAny (.ref u) ⟨rest, []⟩) _ _ _
  simp only [callAny]
  refine wpAny_bind (wpAny_load hu ?_)
  simp only [kxs_mw, (by decide : (Value.type "method-wrapper" == Value.type "method" || Value.type "method-wrapper" == Value.type "builtin_function_or_method" || Value.type "method-wrapper" == Value.type "method-wrapper") = true), if_true]
  refine PySem.W.KFB.if_so (by decide) ?_
  refine wpAny_bind (PySem.W.check_bound_init (F.excBase_ValueError).toExcCallFacts hCh ho rfl ?_)
  refine wpAny_bind (wpAny_pure (wpAny_pure ?_))
  refine ⟨plainId_quiet (F.excBase_ValueError).init.plain _, codeAny_builtin (F.excBase_ValueError).initEntry ?_⟩
  refine PySem.W.exc_init_tree (cls := .ref C) (t0 := t1) (dv := none) (c2 := .none) (c3 := .none) (b4 := .bool false) ho hl fun h' kp he _ => ?_
  have J := I.write (t' := t) (x := a) (e := a) (o := exo a C none) (by rw [ea]; trivial) (.inl rfl) kp ⟨_, he⟩ (exo_ok he)
  rw [show upd H a (exo a C none) = H from funext fun b => by
    by_cases hb : b = a
    · rw [hb, upd_same, ea]
    · rw [upd_ne hb]] at J
  exact h _ J
/-- super().__init__('..') -/
theorem super_stmt {body : List Stmt} {p0 p1 p2 p3 p4 p5 : Pos} {txt : Str} {j : Nat} {ar : Arg} {A : Around} {E : Value → Shared → Prop} {Q : Flow → Shared → Prop} (T : ErrC X.prog X.K X.mg C fI cc cda qual st fd) (Z : InErr X fI cc cda st) (I : Inv X pins σ H s)
    (har : ((defArgs st).posonlyargs ++ (defArgs st).args).head? = some ar) (hN : X.N[0]? = some ar.arg) (hs : σ[0]? = some (some (.ref a))) (ea : H a = some (exo a C none)) (hv : (defScope st).names.lookup ar.arg = some .local)
    (hks : (defScope st).names.lookup ("super" : Str) = some .globalImplicit) (hkc : (defScope st).names.lookup ("__class__" : Str) = some .free)
    (h : ∀ s', Inv X pins σ H s' → Q .next s') (hi : interactive X.env = false)
    (hsw : swapsWith (.Call (.Attribute (.Call (.Name "super" p0) [] [] p1) "__init__" p2) [.Constant (.str txt) j p3] [] p4) none p5.line X.env = pure false)
    (ht : ∃ pl : Sem Bool, eval (.Call (.Attribute (.Call (.Name "super" p0) [] [] p1) "__init__" p2) [.Constant (.str txt) j p3] [] p4) X.env = (do
      let ov ← attributeBase (.Call (.Name "super" p0) [] [] p1) "__init__" X.env (eval (.Call (.Name "super" p0) [] [] p1) X.env)
      standAt p2.atName
      let (f, first) ← holding [ov] (getMethod ov "__init__" pl)
      callWith p4 f first (backTo p4 (starEach [.Constant (.str txt) j p3] X.env)) [])) :
    _root_.PySem.wpAt (model X.prog X.w) A (.func body X.env) (exec (.Expr (.Call (.Attribute (.Call (.Name "super" p0) [] [] p1) "__init__" p2) [.Constant (.str txt) j p3] [] p4) p5) X.env) Q E s := by
  have T0 := T
  obtain ⟨oc, od, kV, doc, pm, an, ct, osl, rfl, lk⟩ := T.fn
  obtain ⟨ccl, cdd, vs, ccs, fl, tf, lcode, hvs, hfile⟩ := T.file
  obtain ⟨cl, cld, csl, lcell⟩ := T.cell
  have hsc := Z.scope
  refine PySem.ks_wpAt_Expr_any ?_ hi hsw
  obtain ⟨pl, ht⟩ := ht
  refine PySem.ks_wpAt_MethodCall (pl := pl) ?_ ht
  have hke : X.env.scope.kind = .function := I.ok.kind
  refine PySem.ks_wpAt_super_base (env := X.env) (f := fI) (by show X.env.scope.names.lookup _ = _; rw [hsc]; exact hks) (by show X.env.scope.names.lookup _ = _; rw [hsc]; exact hkc) (by decide) Z.func (I.kIn _ _ lk) rfl har Z.code (I.kIn _ _ lcode) rfl hvs hfile T.top ?_
  refine PySem.W.ks_loadName_global hke (by show X.env.scope.names.lookup _ = _; rw [hsc]; exact hks) ?_
  obtain ⟨mb, hb1, hb2⟩ := I.mod.blt
  refine PySem.Calls.loadGlobal_builtin (mg := X.mg) (mb := mb) (by rw [I.ok.glob]; exact I.mod.glob.keeps I.bk) T.z (by rw [I.ok.blt]; exact hb1.keeps I.bk) ((hb2 _ (by decide)).trans super_boot) ⟨rfl, ?_⟩
  refine wpAny_loadName_free hke (by show X.env.scope.names.lookup _ = _; rw [hsc]; exact hkc) Z.cells ⟨_, I.kIn _ _ lcell, rfl⟩ ?_
  obtain ⟨m, hn, hl⟩ := I.loc
  obtain ⟨u, ru, hu⟩ := hl 0 ar.arg _ hN hs (.inl (by rw [hsc]; exact hv))
  obtain rfl : u = Value.ref a := ru
  have hm : m ar.arg = some (.ref a) := by
    rcases hu with ⟨_, e⟩ | ⟨k, _⟩
    · exact e
    · have k' : X.env.scope.names.lookup ar.arg = some .cell ∨ X.env.scope.names.lookup ar.arg = some .free := k
      rw [hsc, hv] at k'
      rcases k' with k' | k' <;> cases k'
  refine wpAny_loadName_local hke (by show X.env.scope.names.lookup _ = _; rw [hsc]; exact hv) hn hm ?_
  obtain ⟨nm, q, N, bs, bm, sn, sub, ab, col, dd, k0, k1, k2, k3, k5, hC, hbm⟩ := T.low.cls
  have hCh := I.kIn _ _ hC
  obtain ⟨t1, ho⟩ := exo_at I.hok ea
  refine PySem.ks_wpAny_isType_cls hCh rfl ⟨rfl, ?_⟩
  obtain ⟨hp, g, d, t, os⟩ := s
  refine PySem.ks_wpAny_call_super hCh rfl ho rfl (fun c e => by cases e) (PySem.W.looks_mroIn I.kIn T.self) (fun h' e1 k1 => ?_)
  have I1 : Inv X pins σ H ⟨h', g, d, t, os⟩ := I.kept (t' := t) k1
  obtain ⟨t2, ho1⟩ := exo_at I1.hok ea
  have ne : a ≠ C := fun z => by
    subst z
    rw [I.kIn _ _ hC] at ho
    cases ho
  have J : PySem.W.InstAt h' a _ C none := ⟨ho1, rfl, rfl, trivial⟩
  have hcl : ∃ cd, PySem.W.clsIn X.K C = some cd := ⟨_, by unfold PySem.W.clsIn; rw [hC]⟩
  obtain ⟨cd, hcl⟩ := hcl
  have hsup := T.sup
  unfold PySem.W.ks_superIn at hsup
  rw [hcl] at hsup
  refine PySem.W.kxs_getMethod PySem.W.kxs_ValueError e1 (PySem.W.looks_opaque I1.kIn T.st) (l₀ := cd.mro) ?_ rfl I1.kIn hsup (J.type.andThen (PySem.W.looks_subIn I1.kIn T.isV)) ne (by decide) ?_
  · exact fun A Q E s k q => wpAny_bind ((PySem.W.looks_clsIn I1.kIn hcl) A _ E s k (wpAny_pure q))
  have I2 : Inv X pins σ H ⟨h'.push (kxs_mw "ValueError.__init__" a), g, d, t + 1, os⟩ := I1.kept fun b o e => Heap.get?_push_of_some _ e
  have hmw : (h'.push (kxs_mw "ValueError.__init__" a)).get? h'.objs.size = some (kxs_mw "ValueError.__init__" a) := Heap.get?_push_at rfl rfl
  refine PySem.W.kxs_callWith (i := "ValueError.__init__") (x := a) rfl (PySem.Calls.evalArgs_plain ?_)
  refine PySem.Calls.spliced_cons (PySem.Calls.Constant_str (k := j) (pos := p3) (show wpAny _ _ (spliced []) _ _ _ from PySem.Calls.spliced_nil ⟨hmw, ?_⟩))
  exact call_mw T.low (I2.tok _) ea hmw (by rw [sizeLine_eq]; show 1 ≤ _; omega) fun s' J => h s' J
/-- the body's end as a call's end -/
theorem err_run {N ps : List Str} {k : Nat} {sp : Sp} {rest : List Stmt} {tt : TS} {p0 p1 p2 p3 p4 p5 : Pos} {txt : Str} {j : Nat} {ar : Arg} {w : World} {base : Heap} (T : ErrC P K mg C fI cc cda qual st fd) (S : NScope N ps ["__class__"] (defScope st))
    (hb : defBody st = .Expr (.Call (.Attribute (.Call (.Name "super" p0) [] [] p1) "__init__" p2) [.Constant (.str txt) j p3] [] p4) p5 :: rest)
    (har : ((defArgs st).posonlyargs ++ (defArgs st).args).head? = some ar) (hps : ps.head? = some ar.arg) (hks : (defScope st).names.lookup ("super" : Str) = some .globalImplicit)
    (len : ∀ vs H Q E, sp vs H Q E → vs.length = ps.length)
    (hsp : ∀ vs H Q E, sp vs H Q E → ∃ a us, vs = .ref a :: us ∧ H a = some (exo a C none))
    (hw : ∀ (X : Cx), X.env.scope = defScope st → interactive X.env = false ∧ swapsWith (.Call (.Attribute (.Call (.Name "super" p0) [] [] p1) "__init__" p2) [.Constant (.str txt) j p3] [] p4) none p5.line X.env = pure false ∧
      ∃ pl : Sem Bool, eval (.Call (.Attribute (.Call (.Name "super" p0) [] [] p1) "__init__" p2) [.Constant (.str txt) j p3] [] p4) X.env = (do
      let ov ← attributeBase (.Call (.Name "super" p0) [] [] p1) "__init__" X.env (eval (.Call (.Name "super" p0) [] [] p1) X.env)
      standAt p2.atName
      let (f, first) ← holding [ov] (getMethod ov "__init__" pl)
      callWith p4 f first (backTo p4 (starEach [.Constant (.str txt) j p3] X.env)) []))
    (hr : ∀ (F : NF) (A : Around) (outer : List PySem.Env) (s : Shared) (H : Hp) (vs : List V) (ws : List (Option V)) (Q : VK) (E : XK), F.scope = defScope st → Room k (A.deeper (envF F fI s.heap.objs.size)) → sp vs H Q E →
      PSs (ncx (L2.CX P w) P w K mg base N F fI A outer s H E) rest tt ∧ tt { nx := fun _ H' => Q .non H', rt := Q } (startF N vs ws) H) :
    FnOk P w K mg base (L2.CX P w) (k + 1) fI fd ps sp := by
  refine ⟨len, fun A outer s H args us vs Q E hrm e0 hbd r h => ?_⟩
  have T0 := T
  obtain ⟨oc, od, kV, doc, pm, an, ct, osl, rfl, lk⟩ := T.fn
  obtain ⟨cl, cld, csl, lcell⟩ := T.cell
  have hl := len _ _ _ _ h
  have KX : K.In s.heap := e0.mod.kin.keeps fun b o e => (e0.bs b o e).1
  have lim : s.heap.NoLimit := e0.mod.nolimit.keeps fun b o e => (e0.bs b o e).1
  have rd := hrm.deeper (envF ⟨"__init__", qual, defArgs st, defBody st, defScope st, [("__class__", cc)], cda⟩ fI s.heap.objs.size)
  obtain ⟨a, us', rfl, ea⟩ := hsp _ _ _ _ h
  refine PySem.ks_codeAny_call_defAt (body := defBody st) hrm.depth (KX _ _ lk) rfl lim (PySem.W.codeRec_of KX T.code) rfl hbd S.nocell (fun ⟨n, _⟩ hy => S.par n (List.of_mem_zip hy).1) (fun h₁ hns kp => ?_) S.co S.gen S.kind
  have C0 : CellsAt [("__class__", cc)] ["__class__"] [none] s.heap H := by
    refine ⟨rfl, fun y c e => ?_, fun y z c e1 e2 => ?_, fun i y e => ?_⟩
    · by_cases hy : y = "__class__"
      · subst hy
        obtain rfl : cc = c := by simpa [List.lookup] using e
        exact ⟨(e0.bs _ _ (e0.mod.kin _ _ lcell)).2, _, _, KX _ _ lcell, rfl⟩
      · have : (y == ("__class__" : Str)) = false := by simpa using hy
        simp [List.lookup, this] at e
    · by_cases hy : y = "__class__"
      · by_cases hz : z = "__class__"
        · rw [hy, hz]
        · have : (z == ("__class__" : Str)) = false := by simpa using hz
          simp [List.lookup, this] at e2
      · have : (y == ("__class__" : Str)) = false := by simpa using hy
        simp [List.lookup, this] at e1
    · cases i with
      | zero =>
        obtain rfl : "__class__" = y := by simpa using e
        exact ⟨cc, by simp [List.lookup], fun v e => by simp at e⟩
      | succ i => simp at e
  have hfd : callEnv (ksFn "__init__" qual (defArgs st) (defBody st) (defScope st) .none kV doc pm an (.ref cda) ct cc) s.heap.objs.size fI = envF ⟨"__init__", qual, defArgs st, defBody st, defScope st, [("__class__", cc)], cda⟩ fI s.heap.objs.size := rfl
  rw [hfd]
  have I := inv_startN (CX := L2.CX P w) (F := ⟨"__init__", qual, defArgs st, defBody st, defScope st, [("__class__", cc)], cda⟩) (f := fI) (E := E) (tk := s.toks + (ps.zip us).length) S hrm.hd e0 hl r C0 hns kp
  obtain ⟨q1, q2⟩ := hr ⟨"__init__", qual, defArgs st, defBody st, defScope st, [("__class__", cc)], cda⟩ A outer s H _ [none] Q E rfl rd h
  rw [hb]
  have h0 : ps ≠ [] := fun z => by rw [z] at hps; cases hps
  obtain ⟨p, pr, rfl⟩ := List.exists_cons_of_ne_nil h0
  obtain rfl : p = ar.arg := by simpa using hps
  have hN0 : N[0]? = some ar.arg := by
    have q := S.pre
    have q' := congrArg (fun l => l[0]?) q
    simpa [List.getElem?_take] using q'
  obtain ⟨w1, w2, w3⟩ := hw (ncx (L2.CX P w) P w K mg base N ⟨"__init__", qual, defArgs st, defBody st, defScope st, [("__class__", cc)], cda⟩ fI A outer s H E) rfl
  refine PySem.ks_wpAt_execs_cons (super_stmt (X := ncx (L2.CX P w) P w K mg base N ⟨"__init__", qual, defArgs st, defBody st, defScope st, [("__class__", cc)], cda⟩ fI A outer s H E) T0 ⟨rfl, rfl, (show ([("__class__", cc)] : List (Str × Addr)).lookup ("__class__" : Str) = some cc by simp [List.lookup]), rfl⟩ I har hN0 (by simp [startF]) ea (S.par _ (List.mem_cons_self ..)) hks (S.frk _ (List.mem_cons_self ..)) (fun s' J => ?_) w1 w2 w3)
  refine wpAt_of_wpAny (wpAny_mono (q1.run [] s' _ H _ J q2) (fun fl s2 hs => ?_) fun e s2 hs => hs)
  have fin : ∀ {σ' : L2.St} {H' : Hp} {v : V} {u : Value}, L2.Inv (ncx (L2.CX P w) P w K mg base N ⟨"__init__", qual, defArgs st, defBody st, defScope st, [("__class__", cc)], cda⟩ fI A outer s H E) [] σ' H' s2 → L2.RelV v u → Q v H' → CE outer P w H s Q u s2 :=
    fun {σ' H' v u} J rv q => ⟨v, H', J.os, J.bare, J.base, J.hok, rv, q⟩
  cases fl with
  | ret u =>
    obtain ⟨v, σ2, H2, J2, rv, q⟩ := hs
    exact fin J2 rv q
  | next =>
    obtain ⟨σ2, H2, J2, q⟩ := hs
    exact fin (v := .non) (u := .none) J2 rfl q
  | brk => exact hs.elim fun _ z => z.elim fun _ z => z.2.elim
  | cont => exact hs.elim fun _ z => z.elim fun _ z => z.2.elim

/-- what __init__ of such an error promises: its fields fs, the last one first -/
def spErr (C : Addr) (fs : List Str) : Sp := fun vs H Q _ => vs.length = fs.length + 1 ∧ ∃ a us, vs = .ref a :: us ∧ H a = some (exo a C none) ∧ (fs = [] → Q .non H) ∧
  (fs ≠ [] → ∀ H2 dx, H dx = none → dx ≠ a → H2 a = some (exo a C (some dx)) → H2 dx = some (exd dx (fs.zip us).reverse) → (∀ b, b ≠ a → b ≠ dx → H2 b = H b) → Q .non H2)
theorem err_rest0 {N : List Str} {w : World} {base : Heap} {F : NF} {A : Around} {outer : List PySem.Env} {s : Shared} {vs : List V} {ws : List (Option V)} {Q : VK} {E : XK} (h : spErr C [] vs H Q E) :
    PSs (ncx (L2.CX P w) P w K mg base N F fI A outer s H E) [] tNext ∧ tNext { nx := fun _ H' => Q .non H', rt := Q } (startF N vs ws) H := by
  obtain ⟨_, a, us, rfl, ea, q, _⟩ := h
  exact ⟨pss_nil, q rfl⟩
theorem err_rest1 {N : List Str} {w : World} {base : Heap} {F : NF} {A : Around} {outer : List PySem.Env} {s : Shared} {vs : List V} {ws : List (Option V)} {Q : VK} {E : XK} {f f1 : Str} {p0 p1 p2 p3 : Pos} (h : spErr C [f] vs H Q E) (T : OexC K C)
    (hF : PySem.W.findIn K (.ref C) f = some none) (n0 : N[0]? = some ("self" : Str)) (n1 : N[1]? = some f1) (v0 : Vis F.scope "self") (v1 : Vis F.scope f1) (h1 : (f1 == ("__debug__" : Str)) = false) (h2 : (f1 == ("__classdict__" : Str)) = false)
    (hs : ∀ (X : Cx), X.env.scope = F.scope → swapsWith (.Name f1 p2) (some (.Attribute (.Name "self" p0) f p1)) p3.line X.env = pure false) :
    PSs (ncx (L2.CX P w) P w K mg base N F fI A outer s H E) [.Assign [.Attribute (.Name "self" p0) f p1] (.Name f1 p2) p3] (tOst K f (tVar 0) (tVar 1)) ∧ tOst K f (tVar 0) (tVar 1) { nx := fun _ H' => Q .non H', rt := Q } (startF N vs ws) H := by
  obtain ⟨hl, a, us, rfl, ea, _, q⟩ := h
  obtain ⟨y, rfl⟩ : ∃ y, us = [y] := by
    match us, hl with
    | [y], _ => exact ⟨y, rfl⟩
  refine ⟨pss_one (ps_ost (pe_var (i := 0) n0 v0) (pe_var (i := 1) n1 v1 h1 h2) (hs _ rfl)), ?_⟩
  refine ⟨y, by simp [startF], .ref a, by simp [startF], a, C, rfl, T, hF, .inl ⟨ea, fun dx nx ne => ?_⟩⟩
  refine q (by simp) _ dx nx ne upd_same (by rw [upd_ne ne, upd_same]; rfl) fun b b1 b2 => by rw [upd_ne b1, upd_ne b2]
theorem err_rest2 {N : List Str} {w : World} {base : Heap} {F : NF} {A : Around} {outer : List PySem.Env} {s : Shared} {vs : List V} {ws : List (Option V)} {Q : VK} {E : XK} {f g f1 g1 : Str} {p0 p1 p2 p3 q0 q1 q2 q3 : Pos} (h : spErr C [f, g] vs H Q E) (T : OexC K C)
    (hF : PySem.W.findIn K (.ref C) f = some none) (hG : PySem.W.findIn K (.ref C) g = some none) (n0 : N[0]? = some ("self" : Str)) (n1 : N[1]? = some f1) (n2 : N[2]? = some g1) (v0 : Vis F.scope "self") (v1 : Vis F.scope f1) (v2 : Vis F.scope g1) (h1 : (f1 == ("__debug__" : Str)) = false) (h2 : (f1 == ("__classdict__" : Str)) = false)
    (h3 : (g1 == ("__debug__" : Str)) = false) (h4 : (g1 == ("__classdict__" : Str)) = false)
    (hs : ∀ (X : Cx), X.env.scope = F.scope → swapsWith (.Name f1 p2) (some (.Attribute (.Name "self" p0) f p1)) p3.line X.env = pure false)
    (hs2 : ∀ (X : Cx), X.env.scope = F.scope → swapsWith (.Name g1 q2) (some (.Attribute (.Name "self" q0) g q1)) q3.line X.env = pure false) :
    PSs (ncx (L2.CX P w) P w K mg base N F fI A outer s H E) [.Assign [.Attribute (.Name "self" p0) f p1] (.Name f1 p2) p3, .Assign [.Attribute (.Name "self" q0) g q1] (.Name g1 q2) q3] (tSeq (tOst K f (tVar 0) (tVar 1)) (tOst K g (tVar 0) (tVar 2))) ∧
      tSeq (tOst K f (tVar 0) (tVar 1)) (tOst K g (tVar 0) (tVar 2)) { nx := fun _ H' => Q .non H', rt := Q } (startF N vs ws) H := by
  obtain ⟨hl, a, us, rfl, ea, _, q⟩ := h
  obtain ⟨y, z, rfl⟩ : ∃ y z, us = [y, z] := by
    match us, hl with
    | [y, z], _ => exact ⟨y, z, rfl⟩
  refine ⟨pss_cons (ps_ost (pe_var (i := 0) n0 v0) (pe_var (i := 1) n1 v1 h1 h2) (hs _ rfl)) (pss_one (ps_ost (pe_var (i := 0) n0 v0) (pe_var (i := 2) n2 v2 h3 h4) (hs2 _ rfl))), ?_⟩
  refine ⟨y, by simp [startF], .ref a, by simp [startF], a, C, rfl, T, hF, .inl ⟨ea, fun dx nx ne => ?_⟩⟩
  refine ⟨z, by simp [startF], .ref a, by simp [startF], a, C, rfl, T, hG, .inr ⟨dx, [(f, y)], upd_same, by rw [upd_ne ne, upd_same], by simp, ?_⟩⟩
  refine q (by simp) _ dx nx ne (by rw [upd_ne ne.symm, upd_same]) (by rw [upd_same]; rfl) fun b b1 b2 => by rw [upd_ne b2, upd_ne b1, upd_ne b2]
end
end Qd

set_option Elab.async false
set_option linter.all false
set_option maxRecDepth 100000
set_option maxHeartbeats 4000000
namespace Qd
open PySem PySem.Spec PyProof.Rows L2
open PySem.W (kxs_mw ksFn)

/-! ### raise -/
def dRaise (c : Str) (fs : List Str) (a : DA) : DS := fun env L => (a env L).then env fun xs L1 => if decide (xs.length = fs.length) && okfs isFz xs then .exc c fs.reverse xs.reverse env L1 else .stuck
theorem RDs.rev {w : Gw} {G H : Hp} : ∀ {xs : List D} {vs : List V}, RDs w G H xs vs [] → RDs w G H xs.reverse vs.reverse []
  | [], vs, h => by rw [h.nil_of]; exact RDs.nil
  | d :: ds, vs, h => by
    obtain ⟨v, us, rfl, h1, h2⟩ := h.cons_of
    rw [List.reverse_cons, List.reverse_cons]
    exact RDs.app1 (RDs.rev h2) h1
/-- what is there to raise errors of the class c, with the fields fs -/
structure GotE (P : Program) (w : World) (K : PySem.W.Frag) (mg : Str → Option Value) (base : Heap) (k : Nat) (c : Str) (fs : List Str) : Prop where
  ex : ∃ (C fI cc cda : Addr) (qual : Str) (st : Stmt) (fd : FuncData) (ps : List Str), ErrC P K mg C fI cc cda qual st fd ∧ mg c = some (.ref C) ∧ FnOk P w K mg base (L2.CX P w) k fI fd ps (spErr C fs) ∧ Binds K fd ps [] ∧ ∀ f ∈ fs, PySem.W.findIn K (.ref C) f = some none
section
variable {X : Cx} {W : WX} {e : Expr} {es : List Expr} {da : DA} {pos p pos' : Pos} {c : Str} {fs : List Str}
theorem excAt_new {w : Gw} {G H : Hp} {env : Env} {L : List Int} {σ : L2.St} {fp : List Addr} {xs : List D} {vs : List V} {C dx : Addr} {E : Ends} (R : Rel w G env L σ H fp) (d : RDs w G H xs vs []) (hm : w.mg c = some (.ref C)) (n : H dx = none)
    (h : PVS w G H fp W (if decide (xs.length = fs.length) && okfs isFz xs then .exc c fs.reverse xs.reverse env L else .stuck) E) : W (.ref C) (some dx) σ (upd H dx (.xd (fs.zip vs).reverse)) := by
  split at h
  · rename_i cc
    simp only [Bool.and_eq_true, decide_eq_true_eq] at cc
    have A := Ahead.pushG (o := .xd (fs.zip vs).reverse) R n
    have hl : vs.length = fs.length := d.len ▸ cc.1
    have e2 : (fs.zip vs).map (·.2) = vs := List.map_snd_zip (by omega)
    have e1 : (fs.zip vs).map (·.1) = fs := List.map_fst_zip (by omega)
    refine h _ _ σ fp _ _ A.after ⟨⟨C, rfl, hm⟩, .inr ⟨dx, _, rfl, upd_same, by rw [List.map_reverse, e1], ?_, okfs_rev cc.2⟩⟩
    rw [List.map_reverse, e2]
    exact (d.ahead A).rev
  · exact h.elim
theorem sx_raise {j k : Nat} (g : GotE X.prog X.w X.K X.mg X.base j c fs) (hc : X.calm = true) (tk : Takes X W) (hr : Room k X.A) (hj : j + 1 ≤ k := by decide) (hg : Gl X c) (ha : SA X W (e :: es) da) (hf : fs ≠ [] := by decide) (hf2 : fs.length ≤ 1000 := by decide) (hdb : (c == ("__debug__" : Str)) = false := by decide)
    (he : starEach (e :: es) X.env = (false, eval e X.env) :: starEach es X.env := by rfl) (hpl : (backTo pos (starEach es X.env)).any (·.1) = false := by rfl) :
    SS X W (.Raise (some (.Call (.Name c p) (e :: es) [] pos)) none pos') (dRaise c fs da) := by
  obtain ⟨C, fI, cc, cda, qual, st, fd, ps, T, hm, F, hb, _⟩ := g.ex
  refine PS_imp (ps_raise hc tk (pmk_oex T.low T.init T.tyI F (hr.mono hj) hb .nil passL hg hm ha hdb he hpl)) fun E σ H ⟨w, G, env, L, fp, hk, R, h⟩ => ?_
  refine ⟨w, G, env, L, fp, hk, R, (PVS.thens h).imp fun vs H1 ⟨G1, L1, xs, a1, d1, h1⟩ => ?_⟩
  have hl : vs.length = fs.length := by
    split at h1
    · rename_i cc
      simp only [Bool.and_eq_true, decide_eq_true_eq] at cc
      rw [← d1.len]; exact cc.1
    · exact h1.elim
  have hw : w.mg c = some (.ref C) := by rw [hk.2.1]; exact hm
  refine ⟨?_, fun a na => ⟨by simp [hl], a, vs, by simp, upd_same, fun z => absurd z hf, fun _ H2 dx nx ne ea ed ee => ⟨rfl, dx, _, ea, ed, ?_, ?_⟩⟩⟩
  · rw [hl]; exact hf2
  · rw [upd_ne ne] at nx; exact nx
  · have nx' : H1 dx = none := by rw [upd_ne ne] at nx; exact nx
    have e : upd (del H2 a) dx (.xd (fs.zip vs).reverse) = upd H1 dx (.xd (fs.zip vs).reverse) := by
      funext b
      by_cases hbd : b = dx
      · rw [hbd, upd_same, upd_same]
      · rw [upd_ne hbd, upd_ne hbd]
        by_cases hba : b = a
        · rw [hba, del_same, na]
        · rw [del_ne hba, ee b hba hbd, upd_ne hba]
    rw [e]
    exact excAt_new a1.rel d1 hw nx' h1
/-- E(), whose __init__ stores nothing -/
theorem pmk_none {CX : CXT} {j : Nat} {C fI cc cda : Addr} {qual : Str} {st : Stmt} {fd : FuncData} {ps : List Str} (T : ErrC X.prog X.K X.mg C fI cc cda qual st fd) (F : FnOk X.prog X.w X.K X.mg X.base CX j fI fd ps (spErr C [])) (hr : Room (j + 1) X.A) (hb : Binds X.K fd ps [])
    (hx : Passes CX X (fun _ _ _ => False)) (hg : Gl X c) (hm : X.mg c = some (.ref C)) (hdb : (c == ("__debug__" : Str)) = false := by decide) : PMk X (.Call (.Name c p) [] [] pos) (fun σ H Q => Q (.ref C) none H) := by
  intro pins s σ H Q I q
  obtain ⟨nm, qn, N, bs, bm, sn, sub, ab, col, dd, k0, k1, k2, k3, k5, hC, hbm⟩ := T.low.cls
  refine wpAny_Call_Name_kw (ld_glob I hg hm ?_ hdb)
  refine PySem.W.callWith_K0 (first := []) I.kIn T.low.kC ?_
  obtain ⟨hp, g, dr, tk, os⟩ := s
  obtain ⟨a, ha⟩ : ∃ a, a = hp.objs.size + 1 := ⟨_, rfl⟩
  have le : hp.objs.size ≤ a := by rw [ha]; exact Nat.le_succ _
  have na : H a = none := I.hok.fresh le
  obtain ⟨hp2, e2⟩ : ∃ h, h = (hp.push (PySem.W.kdv_tup [])).push (PySem.HandSPX.excO C hp.objs.size) := ⟨_, rfl⟩
  have kk : ∀ b o, hp.get? b = some o → hp2.get? b = some o := fun b o e => by rw [e2]; exact Heap.get?_push_of_some _ (Heap.get?_push_of_some _ e)
  have at2 : hp2.get? a = some (PySem.HandSPX.excO C hp.objs.size) := by rw [e2, ha]; heap_get
  have I2 : L2.Inv X pins σ (upd H a (exo a C none)) ⟨hp2, g, dr, tk, os⟩ := I.laid (t' := tk) (a := a) (o := exo a C none) (h' := hp2) kk le (exo_ok at2)
  have lp : [Value.ref a].length = ps.length := (F.len [.ref a] (upd H a (exo a C none)) (fun _ _ => True) (fun _ _ _ => True) ⟨rfl, a, [], rfl, upd_same, fun _ => trivial, fun z => absurd rfl z⟩)
  have run := F.run _ X.stack ⟨hp2, g, dr, tk, os⟩ (upd H a (exo a C none)) ⟨[.ref a], []⟩ [.ref a] [.ref a] (fun v H2 => v = .non ∧ H2 = upd H a (exo a C none)) (fun _ _ _ => False) (hr.make C [] []) (I2.env0.make C [] [])
    (hb _ [.ref a] I2.kIn (by simpa using lp)) (.cons rfl .nil) ⟨rfl, a, [], rfl, upd_same, fun _ => ⟨rfl, rfl⟩, fun z => absurd rfl z⟩
  refine wpAny_call (PySem.HandSPX.call_own PySem.F.excBase_ValueError (fun Y => PySem.HandSPX.refsVE_contains Y bm hbm) (I.kIn _ _ hC) (PySem.W.looks_findIn I.kIn T.init) (fun self => PySem.W.bind_fn I.kIn self T.tyI) (by rw [sizeLine_eq]; exact Nat.zero_le _) ?_)
  rw [List.append_nil, ← e2, ← ha]
  refine codeAny_mono run fun r s' hq => ?_
  cases r with
  | error er => exact hx pins σ _ _ er s' I2 hq
  | ok fl =>
    cases fl with
    | next => exact hq.elim
    | brk => exact hq.elim
    | cont => exact hq.elim
    | ret u =>
      obtain ⟨v, H2, eo, bare, un, hok, rv, ev, rfl⟩ := hq
      subst ev
      refine ⟨rv, ?_⟩
      obtain ⟨h2, g2, d2, t2, os'⟩ := s'
      obtain ⟨t0, hoe⟩ := exo_at hok upd_same
      obtain ⟨G, g1', g2'⟩ := restrict h2 fun b => decide (b ≠ a)
      have gk : ∀ b, b ≠ a → G.get? b = h2.get? b := fun b z => g1' b (decide_eq_true z)
      have ge : G.get? a = none := g2' a (by simp)
      have nh : ∀ {b : Addr} {o : Obj}, hp.get? b = some o → b ≠ a := fun {b o} z => Nat.ne_of_lt (Nat.lt_of_lt_of_le (Heap.lt_size z) le)
      have up : ∀ {b : Addr}, b ≠ a → upd H a (exo a C none) b = H b := fun z => upd_ne z
      have hne : ∀ {b : Addr} {o : HO}, H b = some o → b ≠ a := fun z y => by rw [y, na] at z; cases z
      have U : Un (frs X.stack) [] H H hp G := {
        keep := fun b o z n hf hz => (gk b (nh z)).trans (un.keep b o (kk b o z) (by rw [up (nh z)]; exact n) hf hz)
        slot := fun b o z n hf hz => by
          obtain ⟨sl, y⟩ := un.slot b o (kk b o z) (by rw [up (nh z)]; exact n) hf hz
          exact ⟨sl, (gk b (nh z)).trans y⟩
        free := fun b o z n hz => n
        there := fun b o z hz => by
          obtain ⟨o', y⟩ := un.there b o (kk b o z) hz
          exact ⟨o', (gk b (nh z)).trans y⟩
        tups := fun b xs z => z
        frzs := fun b o v z => z
        tbls := fun b ps z => ⟨#[], by rw [z]; simp⟩ }
      have hokG : HOk X.prog X.w H G := fun b o z => by
        have y := hok b o ((up (hne z)).trans z)
        exact y.stay (fun c v hc e => by
            have : c ≠ a := by
              rcases hc with hc | hc
              · rw [hc]; exact hne z
              · exact fun q => by
                  rw [q, upd_same] at hc
                  exact exo_own (Option.some.inj hc)
            rw [gk c this]; exact e)
          (fun c hc => by
            by_cases q : c = a
            · rw [q, upd_same] at hc
              exact absurd (Option.some.inj hc) exo_own
            · rwa [up q] at hc)
          (fun c xs hc => by
            by_cases q : c = a
            · rw [q, upd_same] at hc
              exact absurd (Option.some.inj hc) exo_tup
            · rwa [up q] at hc)
      have J : L2.Inv X pins σ H ⟨G, g2, d2, t2, os'⟩ := I.call' (ch := []) eo U hokG bare (fun b z => nomatch z)
      exact ⟨a, _, _, ⟨G, g2, d2, t2, os'⟩, H, .ref C, none, rfl, J, fun b o z => by
        by_cases q : b = a
        · rw [q, ge] at z; cases z
        · exact (gk b q).symm.trans z, ge, hoe, ⟨rfl, rfl⟩, rfl, rfl, na, rfl, bare, raises_own T.low.exC T.low.tyC, q⟩
def dRaise0 (c : Str) : DS := fun env L => .exc c [] [] env L
theorem sx_raise0 {j k : Nat} (g : GotE X.prog X.w X.K X.mg X.base j c []) (hc : X.calm = true) (tk : Takes X W) (hr : Room k X.A) (hg : Gl X c) (hj : j + 1 ≤ k := by decide) (hdb : (c == ("__debug__" : Str)) = false := by decide) :
    SS X W (.Raise (some (.Call (.Name c p) [] [] pos)) none pos') (dRaise0 c) := by
  obtain ⟨C, fI, cc, cda, qual, st, fd, ps, T, hm, F, hb, _⟩ := g.ex
  refine PS_imp (ps_raise hc tk (pmk_none T F (hr.mono hj) hb passL hg hm hdb)) fun E σ H ⟨w, G, env, L, fp, hk, R, h⟩ => ?_
  exact h G H σ fp _ _ (.refl R) ⟨⟨C, rfl, by rw [hk.2.1]; exact hm⟩, .inl ⟨rfl, rfl, rfl⟩⟩
end
end Qd

set_option Elab.async false
set_option linter.all false
set_option maxRecDepth 100000
set_option maxHeartbeats 4000000
namespace Qd
open PySem PySem.Spec PyProof.Rows L2

/-! ### try, with clauses that name the error or not -/
/-- a clause: the slot of its name, its class, its suite's reading -/
abbrev Cl := Option Nat × Value × (Addr → Value → Option Addr → TS)
def bare (D : Ends) (i : Nat) : Ends := { nx := fun σ H => D.nx (σ.set i none) H, rt := D.rt, bk := fun σ H => D.bk (σ.set i none) H, ct := fun σ H => D.ct (σ.set i none) H }
def wClauses (K : PySem.W.Frag) (Wo : WX) (D : Ends) : List Cl → WX
  | [] => Wo
  | (o, c, ts) :: r => fun cls d σ H => ∃ b, PySem.W.exmOne K cls c = some b ∧ (b = true → ∀ a, H a = none → match o with
      | none => ts a cls d D σ H
      | some i => ts a cls d (bare D i) (σ.set i (some (.ref a))) H) ∧ (b = false → wClauses K Wo D r cls d σ H)
abbrev SuiteOk (X : Cx) (suite : List Stmt) (ts : Addr → Value → Option Addr → TS) : Prop := ∀ (a : Addr) (oe : Obj) (cls : Value) (d : Option Addr) (pn : List (Addr × Obj)), Zc cls d oe → (∃ vs, oe.data = .fields vs) → PSs (X.suite a ((a, oe) :: pn)) suite (ts a cls d)
inductive ClsOk (X : Cx) : List ExceptHandler → List Cl → Prop
  | nil : ClsOk X [] []
  | anon {x : Str} {c : Value} {ts : Addr → Value → Option Addr → TS} {b : Stmt} {bs : List Stmt} {p q : Pos} {hs : List ExceptHandler} {l : List Cl} (n : Names X x c) (s : SuiteOk X (b :: bs) ts) (r : ClsOk X hs l) : ClsOk X (.ExceptHandler (some (.Name x p)) none (b :: bs) q :: hs) ((none, c, ts) :: l)
  | named {i : Nat} {y x : Str} {c : Value} {ts : Addr → Value → Option Addr → TS} {b : Stmt} {bs : List Stmt} {p q : Pos} {hs : List ExceptHandler} {l : List Cl} (nd : X.N.Nodup) (hi : X.N[i]? = some y) (hy : X.env.kindOf y = some .local) (n : Names X x c) (s : SuiteOk X (b :: bs) ts) (r : ClsOk X hs l) :
      ClsOk X (.ExceptHandler (some (.Name x p)) (some y) (b :: bs) q :: hs) ((some i, c, ts) :: l)
section
variable {X : Cx} {body : List Stmt} {h0 : ExceptHandler} {hs : List ExceptHandler} {l : List Cl} {pos : Pos} {tb : WX → TS} {Wo : WX}
theorem ps_tryA (e1 : X.stack = X.env :: X.outer) (e2 : X.env.frame = some X.env.locals) (tk : Takes X Wo)
    (hb : ∀ (W : WX) (pn : List (Addr × Obj)) (xe : Value → Shared → Prop), Takes (X.tr pn xe) W → PassesOwn (model X.prog X.w) X.A X.env xe → PSs (X.tr pn xe) body (tb W)) (hh : ClsOk X (h0 :: hs) l) :
    PS X (.Try body (h0 :: hs) [] [] pos) (fun D σ H => tb (wClauses X.K Wo D l) D σ H) := by
  refine ⟨fun pins s σ H D I hw => ?_⟩
  have okX := I.ok
  have frX : X.A.frames = some (X.env :: X.outer) := by rw [← e1]; exact okX.frames
  refine wpAny_Try_except (wpAny_mono ((hb (wClauses X.K Wo D l) (X.pn ++ pins) (fun u s1 => wpAny (model X.prog X.w) X.A (noteFrame u X.env) (fun _ s2 => wpAny (model X.prog X.w) X.A (setFlight u none)
    (fun _ s3 => wpAny (model X.prog X.w) X.A (handleBy u X.env (h0 :: hs)) (SP X pins D) X.xe s3) X.xe s2) X.xe s1) ?caught PassesOwn.looking).run [] s σ H D (I.toTry _) hw) ?fine fun _ _ z => z)
  case fine =>
    intro f s1 q
    cases f with
    | next => obtain ⟨σ1, H1, J, z⟩ := q; exact wpAny_execs_nil ⟨σ1, H1, J.ofTry okX, z⟩
    | brk => obtain ⟨σ1, H1, J, z⟩ := q; exact ⟨σ1, H1, J.ofTry okX, z⟩
    | cont => obtain ⟨σ1, H1, J, z⟩ := q; exact ⟨σ1, H1, J.ofTry okX, z⟩
    | ret u => obtain ⟨v, σ1, H1, J, rv, z⟩ := q; exact ⟨v, σ1, H1, J.ofTry okX, rv, z⟩
  case caught =>
    intro u s1 xx
    obtain ⟨a, B, sB, pb, σ1, H1, cls, d, rfl, Jt, stB, upB, sk, na, eo, ag, wi⟩ := xx
    have J : L2.Inv X pins σ1 H1 sB := Jt.ofTry okX
    have sk1 : Sky B (X.env :: X.outer) a (Zc cls d) X.env.locals s1.heap := by rw [← e1]; exact sk
    refine Sky.land Zc.steady frX e2 sk1 fun hA flA upA => ?_
    have JA : L2.Inv X pins σ1 H1 { s1 with heap := hA } := J.landed stB flA.1 (upB.trans upA) eo ag
    obtain ⟨oA, vA, gA, zA, dA⟩ := flA.there
    have off : a ∉ frs (X.env :: X.outer) := fun m => by
      obtain ⟨_, o2, g2, n2⟩ := flA.2.2.1.mem m
      rw [gA] at g2
      cases g2
      exact n2 _ dA
    have offL : a ≠ X.env.locals := fun z => off (List.mem_filterMap.mpr ⟨X.env, List.mem_cons_self, by rw [e2, z]⟩)
    have offF : a ∉ X.fs := fun m => by
      obtain ⟨e, m1, m2⟩ := List.mem_filterMap.mp m
      exact off (List.mem_filterMap.mpr ⟨e, List.mem_cons_of_mem _ m1, m2⟩)
    have SA := JA.suite gA dA na offL offF
    have ty : PySem.W.Looks (model X.prog X.w) hA (typeOf (.ref a)) cls := fun _ _ _ _ kp q => wpAny_typeOf_ref (kp _ _ gA) (by rw [zA.1]; exact q)
    have nameOf : ∀ {x : Str} {c : Value} {np : Pos} {Q : Value → Shared → Prop} {E : Value → Shared → Prop}, Names X x c → Q c { s1 with heap := hA } → wpAny (model X.prog X.w) (X.A.mark (some (.ref a))) (eval (.Name x np) X.env) Q E { s1 with heap := hA } := fun {x c np Q E} hn q => by
      obtain ⟨g1, g2, g3 | ⟨g3, g4, g5⟩⟩ := hn
      · exact ld_glob (X := X.suite a ((a, oA) :: (X.pn ++ pins))) SA g1 g3 q g2
      · exact ld_blt (X := X.suite a ((a, oA) :: (X.pn ++ pins))) SA g1 g3 g4 q g5 g2
    have land2 : ∀ {R : Shared → Prop} {E : Value → Shared → Prop}, (∀ hB oB, L2.Inv X pins σ1 H1 { s1 with heap := hB } → hB.get? a = some oB → Zc cls d oB → (∃ vs, oB.data = .fields vs) → L2.Inv (X.suite a ((a, oB) :: (X.pn ++ pins))) [] σ1 H1 { s1 with heap := hB } → R { s1 with heap := hB }) →
        wpAny (model X.prog X.w) (X.A.mark (some (.ref a))) (setFlight (.ref a) none) (fun _ s2 => R s2) E { s1 with heap := hA } := fun {R E} kk =>
      HandSPX.lands_againZ flA fun hB flB upB2 => by
        obtain ⟨oB, vB, gB, zB, dB⟩ := flB.there
        have JB : L2.Inv X pins σ1 H1 { s1 with heap := hB } := J.landed stB flB.1 ((upB.trans upA).trans upB2) eo ag
        exact kk hB oB JB gB zB ⟨_, dB⟩ (JB.suite gB dB na offL offF)
    have go : ∀ {hs1 : List ExceptHandler} {l1 : List Cl}, ClsOk X hs1 l1 → wClauses X.K Wo D l1 cls d σ1 H1 → wpAny (model X.prog X.w) X.A (handleBy (.ref a) X.env hs1) (SP X pins D) X.xe { s1 with heap := hA } := by
      intro hs1 l1 hc
      induction hc with
      | nil =>
        intro wo
        refine wpAny_handleBy_nil ?_
        obtain ⟨_, _, _, oe, vs, T, oT, ts1, he, _, hd, h1, _⟩ := id flA
        unfold PySem.passOn
        refine wpAny_bind (wpAny_field he hd h1 ?_)
        rw [if_neg (by simp : ¬ ((Value.ref T == Value.none) = true))]
        have out : wpAny (model X.prog X.w) X.A (setFlight (.ref a) X.env.frame) (fun _ s4 => wpAny (model X.prog X.w) X.A (throw (.ref a) : Sem Flow) (SP X pins D) X.xe s4) X.xe { s1 with heap := hA } := by
          rw [e2]
          refine HandSPX.setFlight_upZ flA fun hB hhB upB2 => wpAny_throw (tk _ _ ?_)
          exact ⟨a, B, sB, pins, σ1, H1, cls, d, rfl, J, stB, (upB.trans upA).trans upB2, .inr (.inr (by rw [e1]; exact hhB)), na, eo, ag, wo⟩
        first
          | exact wpAny_bind (wpAny_pure (wpAny_bind out))
          | exact wpAny_bind out
      | @anon x c ts b bs p q hs2 l2 n su r ih =>
        intro wo
        obtain ⟨t, ht, yes, no⟩ := wo
        refine wpAny_handleBy_cons (codeAny_handlers_test (nameOf n ((PySem.W.exm_one (M := model X.prog X.w) JA.kIn ty ht).here ?_))) (fun z => nomatch z)
        cases t with
        | false => exact ih (no rfl)
        | true =>
          refine codeAny_handlers_suite (land2 fun hB oB JB gB zB dB SB => ?_)
          refine wpAny_mono ((su a oB cls d (X.pn ++ pins) zB dB).run [] _ _ H1 _ SB (yes rfl a na)) (fun f s6 q => ?_) fun _ _ z => z.elim
          cases f with
          | next => obtain ⟨σ6, H6, S6, z⟩ := q; exact ⟨_, _, S6.unsuite okX, z⟩
          | brk => obtain ⟨σ6, H6, S6, z⟩ := q; exact ⟨_, _, S6.unsuite okX, z⟩
          | cont => obtain ⟨σ6, H6, S6, z⟩ := q; exact ⟨_, _, S6.unsuite okX, z⟩
          | ret u => obtain ⟨v6, σ6, H6, S6, r6, z⟩ := q; exact ⟨_, _, _, S6.unsuite okX, r6, z⟩
      | @named i y x c ts b bs p q hs2 l2 nd hi hy n su r ih =>
        intro wo
        obtain ⟨t, ht, yes, no⟩ := wo
        refine wpAny_handleBy_cons (codeAny_handlers_test (nameOf n ((PySem.W.exm_one (M := model X.prog X.w) JA.kIn ty ht).here ?_))) (fun z => nomatch z)
        cases t with
        | false => exact ih (no rfl)
        | true =>
          refine codeAny_handlers_suite_as (land2 fun hB oB JB gB zB dB SB => ?_)
          refine store_ok (X := X.suite a ((a, oB) :: (X.pn ++ pins))) (v := .ref a) SB nd hi (.inl hy) rfl (fun s5 S5 => ?_) (.inr hy)
          have leave : ∀ {σ6 : L2.St} {H6 : Hp} {s6 : Shared} {Q : Shared → Prop}, L2.Inv (X.suite a ((a, oB) :: (X.pn ++ pins))) [] σ6 H6 s6 → (∀ s7, L2.Inv X pins (σ6.set i none) H6 s7 → Q s7) →
              wpAny (model X.prog X.w) X.A (do bindName X.env y .none; unbindBehindTheSuite X.env y q) (fun _ s7 => Q s7) X.xe s6 := fun {σ6 H6 s6 Q} S6 k6 => gone_ok (S6.unsuite okX) nd hi hy k6
          refine wpAny_mono ((su a oB cls d (X.pn ++ pins) zB dB).run [] s5 _ H1 _ S5 (yes rfl a na)) (fun f s6 z => ?_) fun _ _ z => z.elim
          cases f with
          | next => obtain ⟨σ6, H6, S6, z6⟩ := z; exact leave S6 fun s7 J7 => ⟨_, _, J7, z6⟩
          | brk => obtain ⟨σ6, H6, S6, z6⟩ := z; exact leave S6 fun s7 J7 => ⟨_, _, J7, z6⟩
          | cont => obtain ⟨σ6, H6, S6, z6⟩ := z; exact leave S6 fun s7 J7 => ⟨_, _, J7, z6⟩
          | ret u => obtain ⟨v6, σ6, H6, S6, r6, z6⟩ := z; exact leave S6 fun s7 J7 => ⟨_, _, _, J7, r6, z6⟩
    exact go hh wi
end
end Qd

set_option Elab.async false
set_option linter.all false
set_option maxRecDepth 100000
set_option maxHeartbeats 4000000
namespace Qd
open PySem PySem.Spec PyProof.Rows L2

/-! ### the handled error comes into a state and goes -/
def slotOk : D → Bool
  | .lst .kz xs => okfs isFz xs
  | d => okf notKz d
def envOk (env : Env) : Bool := env.all fun o => match o with
  | some d => slotOk d
  | none => true
abbrev Gw.exs (w : Gw) (e : Option (Addr × Obj)) : Gw := { w with ex := e }
section
variable {w : Gw} {G H : Hp} {e : Option (Addr × Obj)}
theorem ex_swap : (∀ d v f, RD w G H d v f → (w.ex = none ∨ okf notKz d = true) → RD (w.exs e) G H d v f) ∧ ∀ ds vs f, RDs w G H ds vs f → (w.ex = none ∨ okfs notKz ds = true) → RDs (w.exs e) G H ds vs f := by
  refine D.ind ?_ ?_ ?_ ?_ ?_ ?_ ?_ ?_ ?_ ?_ ?_ ?_
  · intro v f h _; simp only [RD] at h ⊢; exact h
  · intro b v f h _; simp only [RD] at h ⊢; exact h
  · intro b v f h _; simp only [RD] at h ⊢; exact h
  · intro b v f h _; simp only [RD] at h ⊢; exact h
  · intro b v f h _; simp only [RD] at h ⊢; exact h
  · intro b v f h _; simp only [RD] at h ⊢; exact h
  · intro v f h _; simp only [RD] at h ⊢; exact h
  · intro xs ih v f h k0
    simp only [RD] at h ⊢
    simp only [okf] at k0
    obtain ⟨a, vs, e1, e2, hq, k, r⟩ := h
    exact ⟨a, vs, e1, e2, hq, k, ih _ _ r k0⟩
  · intro fl xs ih v f h k0
    simp only [RD] at h ⊢
    simp only [okf, Bool.and_eq_true] at k0
    obtain ⟨a, vs, fp, e1, hl, r⟩ := h
    refine ⟨a, vs, fp, e1, ?_, ih _ _ r (k0.imp id (·.2))⟩
    cases fl <;> exact hl
  · intro fl c ns xs ih v f h k0
    simp only [RD] at h ⊢
    simp only [okf, Bool.and_eq_true] at k0
    obtain ⟨a, C, dx, fs, fp, e1, hm, hn, hl, r⟩ := h
    refine ⟨a, C, dx, fs, fp, e1, hm, hn, ?_, ih _ _ r (k0.imp id (·.2))⟩
    cases fl with
    | kz =>
      obtain ⟨⟨oe, ⟨q, _⟩, _⟩, _⟩ := hl
      rcases k0 with z | z
      · rw [z] at q; cases q
      · exact absurd z.1 (by decide)
    | fz => exact hl
    | ow => exact hl
    | bo => exact hl
    | lo => exact hl
    | me => exact hl
  · intro vs f h _; simp only [RDs] at h ⊢; exact h
  · intro d r i1 i2 vs f h k0
    simp only [RDs] at h ⊢
    simp only [okfs, Bool.and_eq_true] at k0
    obtain ⟨v, us, f1, f2, e1, e2, h1, h2⟩ := h
    exact ⟨v, us, f1, f2, e1, e2, i1 _ _ h1 (k0.imp id (·.1)), i2 _ _ h2 (k0.imp id (·.2))⟩
theorem fz_kzE : ∀ f, isFz f = true → notKz f = true := by intro f; cases f <;> simp [isFz, notKz]
theorem slot_swap {d : D} {v : V} {f : List Addr} (h : RD w G H d v f) (k : slotOk d = true) : RD (w.exs e) G H d v f := by
  have go : okf notKz d = true → RD (w.exs e) G H d v f := fun q => ex_swap.1 _ _ _ h (.inr q)
  cases d with
  | lst fl xs =>
    cases fl with
    | kz =>
      simp only [RD] at h ⊢
      obtain ⟨a, vs, fp, e1, hl, r⟩ := h
      exact ⟨a, vs, fp, e1, hl, ex_swap.2 _ _ _ r (.inr ((okf_imp fz_kzE).2 _ k))⟩
    | fz => exact go k
    | ow => exact go k
    | bo => exact go k
    | lo => exact go k
    | me => exact go k
  | _ => exact go k
theorem RE_swap : ∀ {env : Env} {σ : L2.St} {f : List Addr}, RE w G H env σ f → (w.ex = none ∨ envOk env = true) → RE (w.exs e) G H env σ f
  | [], _, _, h, _ => h
  | none :: env, _, _, h, k => by
    obtain ⟨x, τ, e1, h⟩ := h
    exact ⟨x, τ, e1, RE_swap h (k.imp id fun z => by simpa [envOk] using z)⟩
  | some d :: env, _, _, h, k => by
    obtain ⟨v, τ, f1, f2, e1, e2, h1, kd, h2⟩ := h
    have k2 : w.ex = none ∨ (slotOk d = true ∧ envOk env = true) := k.imp id fun z => by simpa [envOk] using z
    exact ⟨v, τ, f1, f2, e1, e2, k2.elim (fun z => ex_swap.1 _ _ _ h1 (.inl z)) fun z => slot_swap h1 z.1, kd, RE_swap h2 (k2.imp id (·.2))⟩
theorem Rel.swap {env : Env} {L : List Int} {σ : L2.St} {fp : List Addr} (R : Rel w G env L σ H fp) (k : w.ex = none ∨ envOk env = true) : Rel (w.exs e) G env L σ H fp := ⟨RE_swap R.re k, R.nd, R.gs, R.bs, R.ow, R.st⟩
/-- a slot is let go, whatever then stands there -/
theorem RE.drop {x : Option V} : ∀ {env : Env} {σ : L2.St} {f : List Addr} {i : Nat}, RE w G H env σ f → f.Nodup → ∃ f', RE w G H (env.set i none) (σ.set i x) f' ∧ f'.Nodup ∧ ∀ a ∈ f', a ∈ f
  | [], σ, f, i, h, n => by
    obtain ⟨rfl, rfl⟩ := h
    exact ⟨[], ⟨rfl, rfl⟩, n, fun _ m => m⟩
  | none :: env, _, f, 0, h, n => by
    obtain ⟨y, τ, rfl, h⟩ := h
    exact ⟨f, ⟨x, τ, rfl, h⟩, n, fun _ m => m⟩
  | none :: env, _, f, i + 1, h, n => by
    obtain ⟨y, τ, rfl, h⟩ := h
    obtain ⟨f', h1, h2, h3⟩ := RE.drop (x := x) (i := i) h n
    exact ⟨f', ⟨y, _, rfl, h1⟩, h2, h3⟩
  | some d :: env, _, _, 0, h, n => by
    obtain ⟨v, τ, f1, f2, rfl, rfl, h1, k, h2⟩ := h
    exact ⟨f2, ⟨x, τ, rfl, h2⟩, (List.nodup_append.mp n).2.1, fun a m => List.mem_append_right _ m⟩
  | some d :: env, _, _, i + 1, h, n => by
    obtain ⟨v, τ, f1, f2, rfl, rfl, h1, k, h2⟩ := h
    have nn := List.nodup_append.mp n
    obtain ⟨f', q1, q2, q3⟩ := RE.drop (x := x) (i := i) h2 nn.2.1
    refine ⟨f1 ++ f', ⟨v, _, f1, f', rfl, rfl, h1, k, q1⟩, List.nodup_append.mpr ⟨nn.1, q2, fun a ha b hb z => nn.2.2 a ha b (q3 b hb) z⟩, fun a m => ?_⟩
    rcases List.mem_append.mp m with m | m
    · exact List.mem_append_left _ m
    · exact List.mem_append_right _ (q3 a m)
theorem Rel.drop {x : Option V} {env : Env} {L : List Int} {σ : L2.St} {fp : List Addr} {i : Nat} (R : Rel w G env L σ H fp) : ∃ fp', Rel w G (env.set i none) L (σ.set i x) H fp' ∧ ∀ a ∈ fp', a ∈ fp := by
  obtain ⟨f', h1, h2, h3⟩ := R.re.drop (x := x) (i := i) R.nd
  exact ⟨f', ⟨h1, h2, R.gs, R.bs, fun a m => R.ow a (h3 a m), R.st⟩, h3⟩
end

/-! ### try as a meaning -/
structure Hd where
  o : Option Nat
  c : Str
  yes : List Str
  no : List Str
  s : DS
def Hd.env0 (h : Hd) (c : Str) (ns : List Str) (xs : List D) (env : Env) : Env := match h.o with
  | none => env
  | some i => env.set i (some (.obj .kz c ns xs))
def Hd.envE (h : Hd) (env : Env) : Env := match h.o with
  | none => env
  | some i => env.set i none
def Hd.fin (h : Hd) : SRes → SRes
  | .nx env L => if envOk (h.envE env) then .nx (h.envE env) L else .stuck
  | .brk env L => if envOk (h.envE env) then .brk (h.envE env) L else .stuck
  | .cnt env L => if envOk (h.envE env) then .cnt (h.envE env) L else .stuck
  | .ret x L => if okf notKz x then .ret x L else .stuck
  | _ => .stuck
def dHand (c : Str) (ns : List Str) (xs : List D) : List Hd → DS
  | [] => fun env L => .exc c ns xs env L
  | h :: r => fun env L => if h.yes.contains c then h.fin (h.s (h.env0 c ns xs env) L) else if h.no.contains c then dHand c ns xs r env L else .stuck
def dTry (body : DS) (hs : List Hd) : DS := fun env L => match body env L with
  | .exc c ns xs env1 L1 => dHand c ns xs hs env1 L1
  | r => r
/-- what a clause leans on -/
structure HdF (X : Cx) (h : Hd) (Hc : Addr) : Prop where
  yes : ∀ c ∈ h.yes, ∀ C, X.mg c = some (.ref C) → PySem.W.exmOne X.K (.ref C) (.ref Hc) = some true ∧ PySem.W.findIn X.K (.ref C) "__getattribute__" = some (some (.builtin "BaseException.__getattribute__"))
  no : ∀ c ∈ h.no, ∀ C, X.mg c = some (.ref C) → PySem.W.exmOne X.K (.ref C) (.ref Hc) = some false
/-- a suite's reading, whatever object the error is -/
def tSu (X : Cx) (ds : DS) (a : Addr) (cls : Value) (d : Option Addr) : TS := fun E σ H => ∀ oe, Zc cls d oe → tS X.K X.mg (some (a, oe)) wNo ds E σ H
inductive HdsD (X : Cx) : List ExceptHandler → List (Hd × Addr) → Prop
  | nil : HdsD X [] []
  | anon {h : Hd} {Hc : Addr} {b : Stmt} {bs : List Stmt} {p q : Pos} {hs : List ExceptHandler} {l : List (Hd × Addr)} (n : Names X h.c (.ref Hc)) (ho : h.o = none) (f : HdF X h Hc)
      (s : ∀ (a : Addr) (oe : Obj) (pn : List (Addr × Obj)), (∃ vs, oe.data = .fields vs) → SSs (X.suite a ((a, oe) :: pn)) wNo (b :: bs) h.s) (r : HdsD X hs l) : HdsD X (.ExceptHandler (some (.Name h.c p)) none (b :: bs) q :: hs) ((h, Hc) :: l)
  | named {h : Hd} {Hc : Addr} {i : Nat} {y : Str} {b : Stmt} {bs : List Stmt} {p q : Pos} {hs : List ExceptHandler} {l : List (Hd × Addr)} (n : Names X h.c (.ref Hc)) (ho : h.o = some i) (nd : X.N.Nodup) (hi : X.N[i]? = some y) (hy : X.env.kindOf y = some .local) (f : HdF X h Hc)
      (s : ∀ (a : Addr) (oe : Obj) (pn : List (Addr × Obj)), (∃ vs, oe.data = .fields vs) → SSs (X.suite a ((a, oe) :: pn)) wNo (b :: bs) h.s) (r : HdsD X hs l) : HdsD X (.ExceptHandler (some (.Name h.c p)) (some y) (b :: bs) q :: hs) ((h, Hc) :: l)
def clsOf (X : Cx) (l : List (Hd × Addr)) : List Cl := l.map fun (p : Hd × Addr) => ((p.1.o, .ref p.2, tSu X p.1.s) : Cl)
theorem exA_suite {X : Cx} {a : Addr} {oe : Obj} {pn : List (Addr × Obj)} : (X.suite a ((a, oe) :: pn)).exA = some (a, oe) := by
  show (match (X.A.mark (some (.ref a))).handled with
    | some (.ref a') => ((a, oe) :: pn).find? fun (p : Addr × Obj) => p.1 == a'
    | _ => none) = _
  show ((a, oe) :: pn).find? (fun p => p.1 == a) = _
  simp
theorem suite_ok {X : Cx} {suite : List Stmt} {ds : DS} (s : ∀ (a : Addr) (oe : Obj) (pn : List (Addr × Obj)), (∃ vs, oe.data = .fields vs) → SSs (X.suite a ((a, oe) :: pn)) wNo suite ds) : SuiteOk X suite (tSu X ds) := fun a oe cls d pn hz hf =>
  PSs_imp (s a oe pn hf) fun E σ H h => by
    have q := h oe hz
    show tS X.K X.mg (X.suite a ((a, oe) :: pn)).exA wNo ds E σ H
    rw [exA_suite]
    exact q
theorem clsOk_of {X : Cx} {hs : List ExceptHandler} {l : List (Hd × Addr)} (h : HdsD X hs l) : ClsOk X hs (clsOf X l) := by
  induction h with
  | nil => exact .nil
  | anon n ho f s r ih => unfold clsOf; rw [List.map_cons, ho]; exact .anon n (suite_ok s) ih
  | named n ho nd hi hy f s r ih => unfold clsOf; rw [List.map_cons, ho]; exact .named nd hi hy n (suite_ok s) ih
section
variable {X : Cx} {W : WX}
theorem suite_run {w : Gw} {G H : Hp} {fp : List Addr} {env : Env} {L : List Int} {σ : L2.St} {h : Hd} {c : Str} {ns : List Str} {xs : List D} {cls : Value} {dd : Option Addr} {E : Ends} {a : Addr} (hk : w.K = X.K ∧ w.mg = X.mg ∧ w.ex = none) (R : Rel w G env L σ H fp) (x : ExcAt w c ns xs G H cls dd)
    (hga : ∀ C, X.mg c = some (.ref C) → PySem.W.findIn X.K (.ref C) "__getattribute__" = some (some (.builtin "BaseException.__getattribute__"))) (hh : PVS w G H fp W (h.fin (h.s (h.env0 c ns xs env) L)) E) :
    match h.o with
    | none => tSu X h.s a cls dd E σ H
    | some i => tSu X h.s a cls dd (bare E i) (σ.set i (some (.ref a))) H := by
  have key : ∀ (oe : Obj) (σ0 : L2.St) (E0 : Ends) (fp0 : List Addr), Rel (w.exs (some (a, oe))) G (h.env0 c ns xs env) L σ0 H fp0 → (∀ b ∈ fp0, b ∈ fp) →
      (∀ {env' : Env} {L' : List Int} {G' H' : Hp} {σ' : L2.St} {fp' : List Addr} {K : L2.St → Hp → Prop}, After (w.exs (some (a, oe))) G H fp0 env' L' G' H' σ' fp' → envOk (h.envE env') = true → (∀ G2 H2 σ2 fp2, After w G H fp (h.envE env') L' G2 H2 σ2 fp2 → K σ2 H2) → match h.o with | none => K σ' H' | some i => K (σ'.set i none) H') →
      E0 = (match h.o with | none => E | some i => bare E i) → tS X.K X.mg (some (a, oe)) wNo h.s E0 σ0 H := by
    intro oe σ0 E0 fp0 R0 sub conv hE
    refine ⟨w.exs (some (a, oe)), G, _, L, fp0, ⟨hk.1, hk.2.1, rfl⟩, R0, ?_⟩
    revert hh
    cases h.s (h.env0 c ns xs env) L with
    | nx env' L' =>
      intro hh G' H' σ' fp' A
      simp only [Hd.fin] at hh
      split at hh
      · rename_i k
        have q := conv (K := E.nx) A k hh
        rw [hE]
        cases ho : h.o with
        | none => rw [ho] at q; exact q
        | some i => rw [ho] at q; exact q
      · exact hh.elim
    | brk env' L' =>
      intro hh G' H' σ' fp' A
      simp only [Hd.fin] at hh
      split at hh
      · rename_i k
        have q := conv (K := E.bk) A k hh
        rw [hE]
        cases ho : h.o with
        | none => rw [ho] at q; exact q
        | some i => rw [ho] at q; exact q
      · exact hh.elim
    | cnt env' L' =>
      intro hh G' H' σ' fp' A
      simp only [Hd.fin] at hh
      split at hh
      · rename_i k
        have q := conv (K := E.ct) A k hh
        rw [hE]
        cases ho : h.o with
        | none => rw [ho] at q; exact q
        | some i => rw [ho] at q; exact q
      · exact hh.elim
    | ret y L' =>
      intro hh G' H' v f o
      simp only [Hd.fin] at hh
      split at hh
      · rename_i k
        have q : E.rt v H' := hh G' H' v f ⟨o.sub, fun b u e n z => o.step b u e (fun m => n (sub b m)) z, (ex_swap (w := w.exs (some (a, oe))) (e := w.ex)).1 _ _ _ o.rd (.inr k), o.nd, fun b m => (o.fpx b m).imp (sub b) id, o.ow, o.gs, o.bs, o.st, fun b u e => (o.new b u e).imp id (Or.imp id (sub b))⟩
        rw [hE]
        cases h.o with
        | none => exact q
        | some i => exact q
      · exact hh.elim
    | exc c' ns' xs' env' L' => exact fun hh => hh.elim
    | stuck => exact fun hh => hh.elim
  cases ho : h.o with
  | none =>
    intro oe hz
    have e0 : h.env0 c ns xs env = env := by unfold Hd.env0; rw [ho]
    refine key oe σ E fp (by rw [e0]; exact R.swap (.inl hk.2.2)) (fun _ m => m) (fun {env' L' G' H' σ' fp' K} A k q => ?_) (by rw [ho])
    rw [ho]
    have eE : h.envE env' = env' := by unfold Hd.envE; rw [ho]
    rw [eE] at q k
    exact q _ _ _ _ ⟨A.sub, A.step, (A.rel.swap (e := w.ex) (.inr k)), A.fpx, A.new⟩
  | some i =>
    intro oe hz
    obtain ⟨C, hc, hm⟩ := x.cls
    have e0 : h.env0 c ns xs env = env.set i (some (.obj .kz c ns xs)) := by unfold Hd.env0; rw [ho]
    have R1 : Rel (w.exs (some (a, oe))) G env L σ H fp := R.swap (.inl hk.2.2)
    have dx : RD (w.exs (some (a, oe))) G H (.obj .kz c ns xs) (.ref a) [] := by
      simp only [RD]
      have ga := hga C (by rw [← hk.2.1]; exact hm)
      rcases x.fld with ⟨rfl, rfl, rfl⟩ | ⟨d, fs, rfl, q1, rfl, q3, q4⟩
      · exact ⟨a, C, 0, [], [], rfl, hm, rfl, ⟨⟨oe, ⟨rfl, hz.1.trans hc, by rw [hk.1]; exact ga⟩, .inl ⟨rfl, hz.2⟩⟩, rfl, rfl, rfl⟩, RDs.nil⟩
      · exact ⟨a, C, d, fs, [], rfl, hm, rfl, ⟨⟨oe, ⟨rfl, hz.1.trans hc, by rw [hk.1]; exact ga⟩, .inr ⟨hz.2, q1⟩⟩, q4, rfl, rfl⟩, ex_swap.2 _ _ _ q3 (.inl hk.2.2)⟩
    have kx : okf notLo (.obj .kz c ns xs) = true := by
      have q4 : okfs isFz xs = true := by
        rcases x.fld with ⟨_, rfl, _⟩ | ⟨_, _, _, _, _, _, q⟩
        · rfl
        · exact q
      simp only [okf, Bool.and_eq_true]
      exact ⟨rfl, (okf_imp fz_nlo).2 _ q4⟩
    obtain ⟨fp0, R2, s2⟩ := R1.set0 (i := i) dx kx
    refine key oe _ (bare E i) fp0 (by rw [e0]; exact R2) s2 (fun {env' L' G' H' σ' fp' K} A k q => ?_) (by rw [ho])
    rw [ho]
    have eE : h.envE env' = env'.set i none := by unfold Hd.envE; rw [ho]
    rw [eE] at q k
    obtain ⟨fp2, R3, s3⟩ := A.rel.drop (x := none) (i := i)
    exact q G' H' _ fp2 ⟨A.sub, fun b u e n z => A.step b u e (fun m => n (s2 b m)) z, R3.swap (e := w.ex) (.inr k), fun b m => (A.fpx b (s3 b m)).imp (s2 b) id, fun b u e => (A.new b u e).imp id (Or.imp id (s2 b))⟩
theorem hand_wish {w : Gw} {G H : Hp} {fp : List Addr} {env : Env} {L : List Int} {σ : L2.St} {c : Str} {ns : List Str} {xs : List D} {cls : Value} {dd : Option Addr} {E : Ends} (hk : w.K = X.K ∧ w.mg = X.mg ∧ w.ex = none) (R : Rel w G env L σ H fp) (x : ExcAt w c ns xs G H cls dd) :
    ∀ {l : List (Hd × Addr)}, (∀ p ∈ l, HdF X p.1 p.2) → PVS w G H fp W (dHand c ns xs (l.map (·.1)) env L) E → wClauses X.K W E (clsOf X l) cls dd σ H
  | [], _, h => h G H σ fp cls dd (.refl R) x
  | (h, Hc) :: l, hf, hh => by
    obtain ⟨C, hc, hm⟩ := x.cls
    have hm' : X.mg c = some (.ref C) := by rw [← hk.2.1]; exact hm
    have F := hf (h, Hc) (List.mem_cons_self ..)
    simp only [List.map_cons, dHand] at hh
    split at hh
    · rename_i ky
      have y := F.yes c (by simpa using ky) C hm'
      refine ⟨true, by rw [hc]; exact y.1, fun _ a _ => ?_, fun z => absurd z (by decide)⟩
      have q := suite_run (X := X) (W := W) (h := h) (a := a) (cls := cls) (dd := dd) hk R x (fun C2 z => (F.yes c (by simpa using ky) C2 z).2) hh
      show (match h.o with | none => _ | some i => _)
      cases ho : h.o with
      | none => rw [ho] at q; exact q
      | some i => rw [ho] at q; exact q
    · split at hh
      · rename_i kn
        exact ⟨false, by rw [hc]; exact F.no c (by simpa using kn) C hm', fun z => absurd z (by decide), fun _ => hand_wish hk R x (fun p m => hf p (List.mem_cons_of_mem _ m)) hh⟩
      · exact hh.elim
theorem hdsD_f {hs : List ExceptHandler} {l : List (Hd × Addr)} (h : HdsD X hs l) : ∀ p ∈ l, HdF X p.1 p.2 := by
  induction h with
  | nil => exact fun _ m => nomatch m
  | anon n ho f s r ih => exact fun p m => (List.mem_cons.mp m).elim (fun z => z ▸ f) (ih p)
  | named n ho nd hi hy f s r ih => exact fun p m => (List.mem_cons.mp m).elim (fun z => z ▸ f) (ih p)
theorem sx_try {body : List Stmt} {h0 : ExceptHandler} {hs : List ExceptHandler} {l : List (Hd × Addr)} {pos : Pos} {db : DS} (hc : X.calm = true) (e1 : X.stack = X.env :: X.outer) (e2 : X.env.frame = some X.env.locals) (tk : Takes X W)
    (hb : ∀ (W' : WX) (pn : List (Addr × Obj)) (xe : Value → Shared → Prop), Takes (X.tr pn xe) W' → PassesOwn (model X.prog X.w) X.A X.env xe → SSs (X.tr pn xe) W' body db) (hh : HdsD X (h0 :: hs) l) :
    SS X W (.Try body (h0 :: hs) [] [] pos) (dTry db (l.map (·.1))) := by
  have ec := exA_calm hc
  refine PS_imp (ps_tryA (tb := fun W' => tS X.K X.mg X.exA W' db) (Wo := W) e1 e2 tk (fun W' pn xe t o => ?_) (clsOk_of hh)) fun E σ H ⟨w, G, env, L, fp, hk, R, h⟩ => ?_
  · have z := hb W' pn xe t o
    have e3 : (X.tr pn xe).exA = X.exA := (exA_calm (X := X.tr pn xe) hc).trans ec.symm
    rw [SSs, e3] at z
    exact z
  · refine ⟨w, G, env, L, fp, hk, R, ?_⟩
    unfold dTry at h
    revert h
    cases db env L with
    | exc c ns xs env1 L1 => exact fun h G1 H1 σ1 fp1 cls dd A x => hand_wish ⟨hk.1, hk.2.1, hk.2.2.trans ec⟩ A.rel x (hdsD_f hh) (PVS.later h A)
    | nx env' L' => exact fun h => h
    | ret x L' => exact fun h => h
    | brk env' L' => exact fun h => h
    | cnt env' L' => exact fun h => h
    | stuck => exact fun h => h
end
end Qd

set_option Elab.async false
set_option linter.all false
set_option maxRecDepth 100000
set_option maxHeartbeats 4000000
namespace Qd
open PySem PySem.Spec PyProof.Rows L2

/-! ### what a suite asks of the error -/
def dExF (i : Nat) (cs : List Str) (f : Str) : DE := fun env L => match env[i]? with
  | some (some (.obj .kz c ns xs)) => if cs.contains c then (match lkN f ns xs with
    | some x => .ok x L
    | none => .stuck) else .stuck
  | _ => .stuck
def dExI (i : Nat) (tab : List (Str × Bool)) : DE := fun env L => match env[i]? with
  | some (some (.obj .kz c ns xs)) => (match tab.lookup c with
    | some b => .ok (.bl b) L
    | none => .stuck)
  | _ => .stuck
/-- what isinstance asks of an error's class -/
structure ErrI (K : PySem.W.Frag) (C : Addr) : Prop where
  hc : (PySem.W.clsIn K C).isSome = true
  ga : PySem.W.findIn K (.ref C) "__getattribute__" = some (some (.builtin "BaseException.__getattribute__"))
  gt : PySem.W.findIn K (.ref C) "__getattr__" = some none
  sb : PySem.W.subIn K (.ref C) (.type "BaseException") = some true
  ha : PySem.W.findIn K (.ref C) "__class__" = some (some (.builtin "object.__class__"))
  hn : PySem.W.specialIn K (.builtin "object.__class__") "__get__" = some (some (.builtin "getset_descriptor.__get__"))
  ht : PySem.W.takesIn K (.builtin "object.__class__") = some true
  hm : PySem.W.mroIn K C (.type "object") = some true
section
variable {X : Cx} {a : Addr} {oe : Obj} {pn : List (Addr × Obj)} {W : WX}
/-- the error in its slot -/
theorem err_at {w : Gw} {G H : Hp} {env : Env} {L : List Int} {σ : L2.St} {fp : List Addr} {i : Nat} {c : Str} {ns : List Str} {xs : List D} (hk : w.K = X.K ∧ w.mg = X.mg ∧ w.ex = some (a, oe)) (R : Rel w G env L σ H fp) (ev : env[i]? = some (some (.obj .kz c ns xs))) :
    σ[i]? = some (some (.ref a)) ∧ ∃ C, X.mg c = some (.ref C) ∧ oe.cls = .ref C ∧ ∃ fs : List (Str × V), fs.map (·.1) = ns ∧ RDs w G H xs (fs.map (·.2)) [] ∧ ((fs = [] ∧ oe.dict = none) ∨ ∃ dx, oe.dict = some dx ∧ H dx = some (.xd fs)) := by
  obtain ⟨v, f1, e1, h1, _, hs, _⟩ := R.re.get ev
  simp only [RD] at h1
  obtain ⟨b, C, dx, fs, fq, rfl, hm, hn, hl, r⟩ := h1
  obtain ⟨⟨o2, ⟨q1, q2, q3⟩, g⟩, k, rfl, _⟩ := hl
  rw [hk.2.2] at q1
  injection q1 with q1
  injection q1 with q1 q5
  subst q1 q5
  refine ⟨e1, C, by rw [← hk.2.1]; exact hm, q2, fs, hn, r, g.imp id fun z => ⟨dx, z.1, R.gs _ _ z.2⟩⟩
theorem so_exf (i : Nat) {y f : Str} {cs : List Str} {p pos : Pos} (hcs : ∀ c ∈ cs, ∀ C, X.mg c = some (.ref C) → XfC X.K C ∧ PySem.W.findIn X.K (.ref C) f = some none) (hf : ∃ vs, oe.data = .fields vs) (hN : X.N[i]? = some y := by rfl)
    (hv : Vis X.env.scope y := by first | exact Or.inl rfl | exact Or.inr (Or.inl rfl) | exact Or.inr (Or.inr rfl)) (hd : (y == ("__debug__" : Str)) = false := by decide) (hcd : (y == ("__classdict__" : Str)) = false := by decide)
    (hb : attributeBase (.Name y p) f X.env (eval (.Name y p) X.env) = eval (.Name y p) X.env := by rfl) :
    SE (X.suite a ((a, oe) :: pn)) W (.Attribute (.Name y p) f pos) (dExF i cs f) := by
  refine ⟨fun pins s σ H Q I h => ?_⟩
  obtain ⟨w, G, env, L, fp, hk, R, h⟩ := h
  have hk' : w.K = X.K ∧ w.mg = X.mg ∧ w.ex = some (a, oe) := ⟨hk.1, hk.2.1, hk.2.2.trans exA_suite⟩
  unfold dExF at h
  split at h
  · rename_i c ns xs ev
    obtain ⟨e1, C, hm, hcl, fs, rfl, r, g⟩ := err_at hk' R ev
    split at h
    · rename_i cc
      obtain ⟨T, hno⟩ := hcs c (by simpa using cc) C hm
      split at h
      · rename_i x ex
        obtain ⟨v, l1, l2⟩ := lkN_RDs r ex
        refine (pe_xf (d := oe.dict) T hno ⟨hcl, rfl⟩ hf (pe_var (X := X.suite a ((a, oe) :: pn)) hN hv hd hcd) hb).run pins s σ H Q I ⟨.ref a, e1, rfl, rfl, ?_⟩
        rcases g with ⟨rfl, _⟩ | ⟨dx, g1, g2⟩
        · simp [List.lookup] at l1
        · exact ⟨dx, fs, v, g1, g2, l1, h.done R l2⟩
      · exact h.elim
    · exact h.elim
  · exact h.elim
/-- isinstance(e, c), e the error that the suite holds -/
theorem so_exi (i : Nat) {y x : Str} {tab : List (Str × Bool)} {cv : Value} {c : V} {p pt p0 pos : Pos} (hg : Gl X "isinstance") (hm : X.mg "isinstance" = none) (hf : ∃ vs, oe.data = .fields vs) (hcv : PE (X.suite a ((a, oe) :: pn)) (.Name x pt) (tC c)) (hcu : ∀ u, RelV c u → u = cv)
    (hT : ∀ c b, tab.lookup c = some b → ∀ C, X.mg c = some (.ref C) → ErrI X.K C ∧ PySem.W.kitOne X.K (.ref C) cv = some b) (hN : X.N[i]? = some y := by rfl)
    (hv : Vis X.env.scope y := by first | exact Or.inl rfl | exact Or.inr (Or.inl rfl) | exact Or.inr (Or.inr rfl)) (hd : (y == ("__debug__" : Str)) = false := by decide) (hcd : (y == ("__classdict__" : Str)) = false := by decide)
    (hs : starEach [.Name y p, .Name x pt] X.env = (false, eval (.Name y p) X.env) :: starEach [.Name x pt] X.env := by rfl) (hpl : (backTo pos (starEach [.Name x pt] X.env)).any (·.1) = false := by rfl) :
    SE (X.suite a ((a, oe) :: pn)) W (.Call (.Name "isinstance" p0) [.Name y p, .Name x pt] [] pos) (dExI i tab) := by
  refine ⟨fun pins s σ H Q I h => ?_⟩
  obtain ⟨w, G, env, L, fp, hk, R, h⟩ := h
  have hk' : w.K = X.K ∧ w.mg = X.mg ∧ w.ex = some (a, oe) := ⟨hk.1, hk.2.1, hk.2.2.trans exA_suite⟩
  unfold dExI at h
  split at h
  · rename_i c0 ns xs ev
    obtain ⟨e1, C, hm0, hcl, fs, rfl, r, g⟩ := err_at hk' R ev
    split at h
    · rename_i b eb
      obtain ⟨T, kb⟩ := hT c0 b eb C hm0
      have call : CallR (X.suite a ((a, oe) :: pn)) (.builtin "isinstance") (fun vs H1 Q1 => vs = [.ref a, c] ∧ (oe.dict = none ∨ ∃ dx fs, oe.dict = some dx ∧ H1 dx = some (.xd fs)) ∧ Q1 (.bl b) H1) := by
        intro pins s σ H xs us Q I r h
        obtain ⟨rfl, dd, q⟩ := h
        cases r with
        | cons rx rr =>
          cases rr with
          | cons rt rr =>
            cases rr
            cases rx
            have ec := hcu _ rt
            subst ec
            obtain ⟨hget, _⟩ := I.pin (a, oe) (List.mem_append.mpr (.inl List.mem_cons_self))
            have J : ∃ od, PySem.W.InstAt s.heap a oe C od := by
              obtain ⟨vs, hv⟩ := hf
              obtain ⟨oc, od, oda, osl⟩ := oe
              dsimp only at hcl hv dd
              subst hcl hv
              rcases dd with rfl | ⟨dx, fs2, rfl, g2⟩
              · exact ⟨none, hget, rfl, rfl, trivial⟩
              · have hx : ObjOk X.prog X.w H s.heap dx (.xd fs2) := I.hok dx _ g2
                obtain ⟨mA, ⟨o, es, ep, ho, _⟩, _⟩ := hx
                exact ⟨some o, hget, rfl, rfl, ho⟩
            obtain ⟨od, J⟩ := J
            exact PySem.W.kia_one (PySem.W.kitx_exc T.hc T.ga T.gt T.sb T.ha T.hn T.ht T.hm) I.kIn J kb (fun z => nomatch z) fun tk => ⟨.bl b, H, I.kept (t' := tk) fun _ _ z => z, rfl, q⟩
      refine (pe_callB (X := X.suite a ((a, oe) :: pn)) call hg hm (by decide +kernel) (pa_cons (pe_var (X := X.suite a ((a, oe) :: pn)) hN hv hd hcd) (pa_cons hcv pa_nil) hs) (by decide) (by decide) hs hpl).run pins s σ H Q I ?_
      refine ⟨.ref a, e1, rfl, ?_, h.done R (.bl _)⟩
      exact g.imp (·.2) fun ⟨dx, z1, z2⟩ => ⟨dx, fs, z1, z2⟩
    · exact h.elim
  · exact h.elim
end
end Qd

set_option Elab.async false
set_option linter.all false
set_option maxRecDepth 100000
set_option maxHeartbeats 4000000
namespace Qd
open PySem PySem.Spec PyProof.Rows L2

/-! ### chains of comparisons -/
abbrev DCh := D → DE
def dChL (f : D → D → List Int → Res D) (b : DE) : DCh := fun x env L => (b env L).bindF fun y L1 => f x y L1
def dChK (f : D → D → List Int → Res D) (b : DE) (r : DCh) : DCh := fun x env L => (b env L).bindF fun y L1 => (f x y L1).bindF fun z L2 => match z with
  | .bl true => r y env L2
  | .bl false => .ok (.bl false) L2
  | _ => .stuck
def dChain (a : DE) (r : DCh) : DE := fun env L => (a env L).bindF fun x L1 => r x env L1
def tCh (K : PySem.W.Frag) (mg : Str → Option Value) (ex : Option (Addr × Obj)) (W : WX) (d : DCh) (v : V) : TE := fun σ H Q => ∃ w G env L fp x, (w.K = K ∧ w.mg = mg ∧ w.ex = ex) ∧ Rel w G env L σ H fp ∧ RD w G H x v [] ∧ PV w G env σ H fp W (d x env L) Q
structure SCh (X : Cx) (W : WX) (ops : List CmpOp) (rs : List Expr) (d : DCh) : Prop where
  run : ∀ (pos : Pos) (pins : List (Addr × Obj)) (s : Shared) (σ : L2.St) (H : Hp) (v : V) (u : Value) (Q : VK), L2.Inv X pins σ H s → RelV v u → tCh X.K X.mg X.exA W d v σ H Q → wpAny (model X.prog X.w) X.A (compareChain pos u ops (evalEach rs X.env)) (EP X pins σ Q) X.xe s
  tst : ∀ (pos : Pos) (pins : List (Addr × Obj)) (s : Shared) (σ : L2.St) (H : Hp) (v : V) (u : Value) (Q : Bool → Hp → Prop), L2.Inv X pins σ H s → RelV v u → tCh X.K X.mg X.exA W d v σ H (fun z H1 => ∃ c, z = .bl c ∧ Q c H1) → wpAny (model X.prog X.w) X.A (testChain pos u ops (evalEach rs X.env)) (TP X pins σ Q) X.xe s
section
variable {X : Cx} {W : WX} {a b : Expr} {rs : List Expr} {op op' : CmpOp} {ops : List CmpOp} {r : R2} {f : D → D → List Int → Res D} {da db : DE} {dr : DCh} {pos : Pos}
theorem ch_last (ho : OpR X (compareOp op) r) (hf : OpD X r f) (hb : SE X W b db) : SCh X W [op] [b] (dChL f db) where
  run := fun pos pins s σ H v u Q I rv ⟨w, G, env, L, fp, x, hk, R, d, h⟩ =>
    PyProof.Rows.chain_last (thn (hb.run pins s σ H _ I ⟨w, G, env, L, fp, hk, R, h.bindF.imp fun v2 H1 ⟨G1, L1, y, a1, d1, h1⟩ => hf hk.1 hk.2.1 a1.rel (d.ahead a1) d1 h1⟩) fun u2 s2 ⟨y, H2, I2, r2, q2⟩ => ho pins s2 σ H2 v y u u2 Q I2 rv r2 q2)
  tst := fun pos pins s σ H v u Q I rv ⟨w, G, env, L, fp, x, hk, R, d, h⟩ =>
    PyProof.Rows.test_last (thn (hb.run pins s σ H _ I ⟨w, G, env, L, fp, hk, R, h.bindF.imp fun v2 H1 ⟨G1, L1, y, a1, d1, h1⟩ => hf hk.1 hk.2.1 a1.rel (d.ahead a1) d1 h1⟩) fun u2 s2 ⟨y, H2, I2, r2, q2⟩ =>
      thn (ho pins s2 σ H2 v y u u2 _ I2 rv r2 q2) fun z s3 hz => by
        obtain ⟨zv, H3, I3, r3, c, e, q3⟩ := hz
        subst e
        cases r3
        exact wpAny_truthy_bool ⟨H3, I3, q3⟩)
theorem ch_key {w : Gw} {G H : Hp} {env : Env} {L : List Int} {σ : L2.St} {fp : List Addr} {x : D} {v : V} {Q : VK} (hf : OpD X r f) (hk : w.K = X.K ∧ w.mg = X.mg ∧ w.ex = X.exA) (d : RD w G H x v []) (h : PV w G env σ H fp W (dChK f db dr x env L) Q) :
    PV w G env σ H fp W (db env L) fun v2 H1 => r v v2 H1 fun z H2 => ∃ c, z = .bl c ∧ if c = true then tCh X.K X.mg X.exA W dr v2 σ H2 Q else Q (.bl false) H2 :=
  h.bindF.imp fun v2 H1 ⟨G1, L1, y, a1, d1, h1⟩ => hf hk.1 hk.2.1 a1.rel (d.ahead a1) d1 (h1.bindF.imp fun z H2 ⟨G2, L2, zd, a2, d2, h2⟩ => by
    cases zd with
    | bl c =>
      refine ⟨c, d2.bl_of, ?_⟩
      cases c with
      | true => exact ⟨w, G2, env, L2, fp, y, hk, a2.rel, d1.ahead a2, h2⟩
      | false => exact PV.done h2 a2.rel (.bl _)
    | _ => exact h2.elim)
theorem ch_cons (ho : OpR X (compareOp op) r) (hf : OpD X r f) (hb : SE X W b db) (hr : SCh X W (op' :: ops) (a :: rs) dr) : SCh X W (op :: op' :: ops) (b :: a :: rs) (dChK f db dr) where
  run := fun pos pins s σ H v u Q I rv ⟨w, G, env, L, fp, x, hk, R, d, h⟩ =>
    PyProof.Rows.chain_link (thn (hb.run pins s σ H _ I ⟨w, G, env, L, fp, hk, R, ch_key hf hk d h⟩) fun u2 s2 ⟨y, H2, I2, r2, q2⟩ =>
      thn (ho pins s2 σ H2 v y u u2 _ I2 rv r2 q2) fun z s3 ⟨zv, H3, I3, r3, c, e, q3⟩ => by
        subst e
        cases r3
        refine wpAny_truthy_bool ?_
        cases c with
        | true => exact hr.run pos pins s3 σ H3 y u2 Q I3 r2 q3
        | false => exact ⟨.bl false, H3, I3, rfl, q3⟩)
  tst := fun pos pins s σ H v u Q I rv ⟨w, G, env, L, fp, x, hk, R, d, h⟩ =>
    PyProof.Rows.test_link (thn (hb.run pins s σ H _ I ⟨w, G, env, L, fp, hk, R, ch_key hf hk d h⟩) fun u2 s2 ⟨y, H2, I2, r2, q2⟩ =>
      thn (ho pins s2 σ H2 v y u u2 _ I2 rv r2 q2) fun z s3 ⟨zv, H3, I3, r3, c, e, q3⟩ => by
        subst e
        cases r3
        refine wpAny_truthy_bool ?_
        cases c with
        | true => exact hr.tst pos pins s3 σ H3 y u2 Q I3 r2 q3
        | false =>
          obtain ⟨c, e, q⟩ := q3
          cases e
          exact ⟨H3, I3, q⟩)
theorem so_chain {c : Expr} (ha : SE X W a da) (hr : SCh X W (op :: op' :: ops) (b :: c :: rs) dr) (hm : lastMarks (op :: op' :: ops) (b :: c :: rs) = false := by with_unfolding_all rfl) : SE X W (.Compare a (op :: op' :: ops) (b :: c :: rs) pos) (dChain da dr) :=
  ⟨fun pins s σ H Q I ⟨w, G, env, L, fp, hk, R, h⟩ => PyProof.Rows.Compare_chain (thn (ha.run pins s σ H _ I ⟨w, G, env, L, fp, hk, R, h.bindF.imp fun v H1 ⟨G1, L1, x, a1, d1, h1⟩ => (⟨w, G1, env, L1, fp, x, hk, a1.rel, d1, h1⟩ : tCh X.K X.mg X.exA W dr v σ H1 Q)⟩)
    fun u s1 ⟨v, H1, I1, r1, q1⟩ => hr.run _ pins s1 σ H1 v u Q I1 r1 q1) hm⟩
theorem st_chain {c : Expr} (ha : SE X W a da) (hr : SCh X W (op :: op' :: ops) (b :: c :: rs) dr) (hm : lastMarks (op :: op' :: ops) (b :: c :: rs) = false := by with_unfolding_all rfl) : SEt X W (.Compare a (op :: op' :: ops) (b :: c :: rs) pos) (dTst (dChain da dr)) :=
  ⟨fun pins s σ H Q I h => by
    obtain ⟨w, G, env, L, fp, hk, R, h⟩ := tst_tE h
    exact PyProof.Rows.isTrue_chain (thn (ha.run pins s σ H _ I ⟨w, G, env, L, fp, hk, R, h.bindF.imp fun v H1 ⟨G1, L1, x, a1, d1, h1⟩ => (⟨w, G1, env, L1, fp, x, hk, a1.rel, d1, h1⟩ : tCh X.K X.mg X.exA W dr v σ H1 _)⟩)
      fun u s1 ⟨v, H1, I1, r1, q1⟩ => hr.tst _ pins s1 σ H1 v u Q I1 r1 q1) hm⟩
end

/-! ### slices -/
def dPartK (o : Option DE) (env : Env) (L : List Int) (k : Option Int → List Int → Res D) : Res D := match o with
  | none => k none L
  | some a => (a env L).bindF fun x L1 => match x with
    | .int i => k (some i) L1
    | _ => .stuck
def dSl (a : DE) (lo hi : Option DE) : DE := fun env L => (a env L).bindF fun x L1 => dPartK lo env L1 fun l L2 => dPartK hi env L2 fun h L3 => slD l h x L3
def tPk (K : PySem.W.Frag) (mg : Str → Option Value) (ex : Option (Addr × Obj)) (W : WX) (o : Option DE) : TO := fun σ H Q => ∃ w G env L fp, (w.K = K ∧ w.mg = mg ∧ w.ex = ex) ∧ Rel w G env L σ H fp ∧ ∃ k : Option Int → List Int → Res D, ∃ Q1 : VK, PV w G env σ H fp W (dPartK o env L k) Q1 ∧
  ∀ l H1 G1 L1, Ahead w G env σ H fp L1 G1 H1 → PV w G1 env σ H1 fp W (k l L1) Q1 → Q l H1
abbrev SO (X : Cx) (W : WX) (e : Option Expr) (o : Option DE) : Prop := PO X e (tPk X.K X.mg X.exA W o)
section
variable {X : Cx} {W : WX} {e : Expr} {lo hi : Option Expr} {de : DE} {dl dh : Option DE} {pos p2 : Pos}
theorem PO_imp {e : Option Expr} {t t' : TO} (h : PO X e t) (i : ∀ σ H Q, t' σ H Q → t σ H Q) : PO X e t' := ⟨fun pins s σ H Q I q => h.run pins s σ H Q I (i σ H Q q)⟩
theorem sp_none : SO X W none none := PO_imp po_none fun σ H Q ⟨w, G, env, L, fp, hk, R, k, Q1, h, q⟩ => q none H G L (.refl R) h
theorem sp_some (he : SE X W e de) : SO X W (some e) (some de) := PO_imp (po_some he) fun σ H Q ⟨w, G, env, L, fp, hk, R, k, Q1, h, q⟩ => by
  have h' : PV w G env σ H fp W ((de env L).bindF fun x L1 => match x with
    | .int i => k (some i) L1
    | _ => .stuck) Q1 := h
  refine ⟨w, G, env, L, fp, hk, R, h'.bindF.imp fun v H1 ⟨G1, L1, x, a1, d1, h1⟩ => ?_⟩
  cases x with
  | int i => exact ⟨i, d1.int_of, q (some i) H1 G1 L1 a1 h1⟩
  | _ => exact h1.elim
theorem RDs.cut {w : Gw} {G H : Hp} {xs : List D} {vs : List V} {lo hi : Option Int} (r : RDs w G H xs vs []) : RDs w G H (cutD xs lo hi) (cutV vs lo hi) [] := by
  unfold cutD cutV
  rw [← r.len]
  exact RDs.take _ (RDs.drop _ r)
theorem okfs_take {p : Fl → Bool} : ∀ (n : Nat) {xs : List D}, okfs p xs = true → okfs p (xs.take n) = true
  | 0, _, _ => rfl
  | n + 1, [], _ => rfl
  | n + 1, x :: xs, h => by simp only [okfs, List.take_succ_cons, Bool.and_eq_true] at h ⊢; exact ⟨h.1, okfs_take n h.2⟩
theorem okfs_drop {p : Fl → Bool} : ∀ (n : Nat) {xs : List D}, okfs p xs = true → okfs p (xs.drop n) = true
  | 0, _, h => h
  | n + 1, [], _ => rfl
  | n + 1, x :: xs, h => by simp only [okfs, Bool.and_eq_true] at h; exact okfs_drop n h.2
theorem okfs_cut {p : Fl → Bool} {xs : List D} {lo hi : Option Int} (h : okfs p xs = true) : okfs p (cutD xs lo hi) = true := okfs_take _ (okfs_drop _ h)
theorem cutV_all {vs : List V} {lo hi : Option Int} (h : HT.sIx vs.length 0 lo = 0 ∧ HT.sIx vs.length vs.length hi = vs.length) : cutV vs lo hi = vs := by
  unfold cutV
  rw [h.1, h.2]
  simp
theorem so_slice (he : SE X W e de) (hl : SO X W lo dl) (hh : SO X W hi dh) : SE X W (.Subscript e (.Slice lo hi none p2) pos) (dSl de dl dh) :=
  PE_imp (pe_slice (SlR.or sl_list sl_tupA) he hl hh) fun σ H Q ⟨w, G, env, L, fp, hk, R, h⟩ =>
    ⟨w, G, env, L, fp, hk, R, h.bindF.imp fun v H1 ⟨G1, L1, x, a1, d1, h1⟩ => ⟨w, G1, env, L1, fp, hk, a1.rel, _, Q, h1, fun l H2 G2 L2 a2 h2 => ⟨w, G2, env, L2, fp, hk, a2.rel, _, Q, h2, fun u H3 G3 L3 a3 h3 => by
      have d3 := (d1.ahead a2).ahead a3
      cases x with
      | lst f xs =>
        obtain ⟨a, vs, rfl, hq, r, _⟩ := d3.lst_of a3.rel
        simp only [slD] at h3
        split at h3
        · rename_i k
          exact .inl ⟨a, vs, rfl, hk.1 ▸ hq, h3.newL a3.rel r.cut ((okf_imp fz_sto).2 _ k)⟩
        · exact h3.elim
      | tup xs =>
        obtain ⟨a, vs, rfl, hq, r, k⟩ := d3.tup_of a3.rel
        refine .inr ⟨a, vs, rfl, hk.1 ▸ hq, fun z => ?_, fun _ => h3.newT a3.rel r.cut (okfs_cut k)⟩
        have e : cutD xs l u = xs := by
          unfold cutD
          rw [r.len, z.1, z.2, ← r.len]
          simp
        have h4 : PV w G3 env σ H3 fp W (.ok (.tup (cutD xs l u)) L3) Q := h3
        rw [e] at h4
        exact h4.done a3.rel d3
      | _ => exact h3.elim⟩⟩⟩
/-- xs[::-1], a list -/
def revLD : D → List Int → Res D
  | .lst _ xs, L => if okfs isFz xs then .ok (.lst .ow xs.reverse) L else .stuck
  | _, _ => .stuck
theorem so_revL {k : Nat} {p1 p3 p4 : Pos} (he : SE X W e de) : SE X W (.Subscript e (.Slice none none (some (.UnaryOp .USub (.Constant (.int 1) k p1) p3)) p4) pos) (dUn revLD de) :=
  PE_imp (pe_revL he) fun σ H Q ⟨w, G, env, L, fp, hk, R, h⟩ =>
    ⟨w, G, env, L, fp, hk, R, h.bindF.imp fun v H1 ⟨G1, L1, x, a1, d1, h1⟩ => by
      cases x with
      | lst f xs =>
        obtain ⟨a, vs, rfl, hq, r, _⟩ := d1.lst_of a1.rel
        simp only [revLD] at h1
        split at h1
        · rename_i k
          exact ⟨a, vs, rfl, hk.1 ▸ hq, h1.newL a1.rel (RDs.reverse r) ((okf_imp fz_sto).2 _ (okfs_rev k))⟩
        · exact h1.elim
      | _ => exact h1.elim⟩
end

/-! ### a, b = .. -/
def dAsgT (is : List Nat) (e : DE) : DS := fun env L => (e env L).thenF env fun x L1 => match bindP (.tp is) x env with
  | some env1 => .nx env1 L1
  | none => .stuck
def dParT (is : List Nat) (a : DA) : DS := fun env L => (a env L).then env fun xs L1 => match bindN is xs env with
  | some env1 => .nx env1 L1
  | none => .stuck
section
variable {X : Cx} {W : WX} {e a b c : Expr} {es : List Expr} {de : DE} {da : DA} {is : List Nat} {pos : Pos}
theorem sx_asgT {k : Nat} {pt : Pos} (he : SE X W e de) (hg : SG X (.Tuple es k pt) (.tp is)) (hs : swapsWithSole [.Tuple es k pt] e pos.line X.env = pure false := by rfl) (hw : swappedStores [.Tuple es k pt] e X.env = pure none := by rfl)
    (h1 : (assignEach [.Tuple es k pt] X.env).map (·.2) = [assign (.Tuple es k pt) X.env] := by rfl) : SS X W (.Assign [.Tuple es k pt] e pos) (dAsgT is de) :=
  PS_imp (ps_asg he hg hs hw h1) fun E σ H ⟨w, G, env, L, fp, hk, R, h⟩ => ⟨w, G, env, L, fp, hk, R, (PVS.thenF h).imp fun v H1 ⟨G1, L1, x, a1, d1, h1⟩ => by
    refine ⟨w, G1, env, L1, fp, x, hk, a1.rel, d1, ?_⟩
    revert h1
    cases bindP (.tp is) x env with
    | none => exact fun h => h
    | some env1 =>
      intro h1 σ1 B
      obtain ⟨fp1, r1, r2⟩ := B.rel
      exact h1 _ _ _ _ ⟨Sub.refl _, fun _ _ z _ _ => z, r1, fun m z => .inl (r2 m z), fun _ _ z => .inl z⟩⟩
theorem sx_par2 {i j : Nat} {x y : Str} {px py pt pt2 : Pos} {kt k2 : Nat} (hc : X.calm = true) (hN : X.N.Nodup) (ha : SA X W [a, b] da) (hi : X.N[i]? = some x := by rfl) (hj : X.N[j]? = some y := by rfl) (hij : i ≠ j := by decide)
    (hx : X.env.scope.names.lookup x = some .local := by rfl) (hy : X.env.scope.names.lookup y = some .local := by rfl) (hw : swappedStores [.Tuple [.Name x px, .Name y py] kt pt] (.Tuple [a, b] k2 pt2) X.env = pure (some [x, y]) := by rfl)
    (hs : swapsWithSole [.Tuple [.Name x px, .Name y py] kt pt] (.Tuple [a, b] k2 pt2) pos.line X.env = pure false := by rfl) : SS X W (.Assign [.Tuple [.Name x px, .Name y py] kt pt] (.Tuple [a, b] k2 pt2) pos) (dParT [i, j] da) :=
  PS_imp (ps_par hc hN hi hj hij hx hy ha hw hs) fun E σ H ⟨w, G, env, L, fp, hk, R, h⟩ => ⟨w, G, env, L, fp, hk, R, (PVS.thens h).imp fun vs H1 ⟨G1, L1, xs, a1, d1, h1⟩ => by
    match xs, d1, h1 with
    | [x1, x2], d1, h1 =>
      obtain ⟨v1, us, rfl, d2, d3⟩ := d1.cons_of
      obtain ⟨v2, us, rfl, d4, d5⟩ := d3.cons_of
      obtain rfl := d5.nil_of
      simp only [bindN] at h1
      split at h1
      · rename_i env1 e1
        split at e1
        · rename_i k1
          split at e1
          · rename_i k2
            obtain rfl := Option.some.inj e1
            obtain ⟨fp1, r1, s1⟩ := a1.rel.set0 (i := i) d2 k1
            obtain ⟨fp2, r2, s2⟩ := r1.set0 (i := j) d4 k2
            exact ⟨v1, v2, rfl, h1 _ _ _ fp2 ⟨Sub.refl _, fun _ _ z _ _ => z, r2, fun m z => .inl (s1 m (s2 m z)), fun _ _ z => .inl z⟩⟩
          · cases e1
        · cases e1
      · exact h1.elim
    | [], _, h1 => exact h1.elim
    | [x1], _, h1 => simp only [bindN] at h1; split at h1 <;> first | exact h1.elim | (rename_i e1; split at e1 <;> cases e1)
    | x1 :: x2 :: x3 :: r, _, h1 => simp only [bindN] at h1; split at h1 <;> first | exact h1.elim | (rename_i e1; split at e1 <;> first | cases e1 | (split at e1 <;> cases e1))⟩
theorem sx_par3 {i j l : Nat} {x y z : Str} {px py pz pt pt2 : Pos} {kt k2 : Nat} (hc : X.calm = true) (hN : X.N.Nodup) (ha : SA X W [a, b, c] da) (hi : X.N[i]? = some x := by rfl) (hj : X.N[j]? = some y := by rfl) (hl : X.N[l]? = some z := by rfl) (hij : i ≠ j := by decide) (hil : i ≠ l := by decide) (hjl : j ≠ l := by decide)
    (hx : X.env.scope.names.lookup x = some .local := by rfl) (hy : X.env.scope.names.lookup y = some .local := by rfl) (hz : X.env.scope.names.lookup z = some .local := by rfl)
    (hw : swappedStores [.Tuple [.Name x px, .Name y py, .Name z pz] kt pt] (.Tuple [a, b, c] k2 pt2) X.env = pure (some [x, y, z]) := by rfl)
    (hs : swapsWithSole [.Tuple [.Name x px, .Name y py, .Name z pz] kt pt] (.Tuple [a, b, c] k2 pt2) pos.line X.env = pure false := by rfl) : SS X W (.Assign [.Tuple [.Name x px, .Name y py, .Name z pz] kt pt] (.Tuple [a, b, c] k2 pt2) pos) (dParT [i, j, l] da) :=
  PS_imp (ps_par3 hc hN hi hj hl hij hil hjl hx hy hz ha hw hs) fun E σ H ⟨w, G, env, L, fp, hk, R, h⟩ => ⟨w, G, env, L, fp, hk, R, (PVS.thens h).imp fun vs H1 ⟨G1, L1, xs, a1, d1, h1⟩ => by
    match xs, d1, h1 with
    | [x1, x2, x3], d1, h1 =>
      obtain ⟨v1, us, rfl, d2, d3⟩ := d1.cons_of
      obtain ⟨v2, us, rfl, d4, d5⟩ := d3.cons_of
      obtain ⟨v3, us, rfl, d6, d7⟩ := d5.cons_of
      obtain rfl := d7.nil_of
      simp only [bindN] at h1
      split at h1
      · rename_i env1 e1
        split at e1
        · rename_i k1
          split at e1
          · rename_i k2
            split at e1
            · rename_i k3
              obtain rfl := Option.some.inj e1
              obtain ⟨fp1, r1, s1⟩ := a1.rel.set0 (i := i) d2 k1
              obtain ⟨fp2, r2, s2⟩ := r1.set0 (i := j) d4 k2
              obtain ⟨fp3, r3, s3⟩ := r2.set0 (i := l) d6 k3
              exact ⟨v1, v2, v3, rfl, h1 _ _ _ fp3 ⟨Sub.refl _, fun _ _ z _ _ => z, r3, fun m z => .inl (s1 m (s2 m (s3 m z))), fun _ _ z => .inl z⟩⟩
            · cases e1
          · cases e1
        · cases e1
      · exact h1.elim
    | [], _, h1 => exact h1.elim
    | [x1], _, h1 => simp only [bindN] at h1; split at h1 <;> first | exact h1.elim | (rename_i e1; split at e1 <;> cases e1)
    | [x1, x2], _, h1 => simp only [bindN] at h1; split at h1 <;> first | exact h1.elim | (rename_i e1; split at e1 <;> first | cases e1 | (split at e1 <;> cases e1))
    | x1 :: x2 :: x3 :: x4 :: r, _, h1 => simp only [bindN] at h1; split at h1 <;> first | exact h1.elim | (rename_i e1; split at e1 <;> first | cases e1 | (split at e1 <;> first | cases e1 | (split at e1 <;> cases e1)))⟩
end
end Qd

set_option Elab.async false
set_option linter.all false
set_option maxRecDepth 100000
set_option maxHeartbeats 4000000
namespace Qd
open PySem PySem.Spec PyProof.Rows L2

/-! ### calls by position, by keyword, with defaults; what is raised is wished for at the slots -/
/-- where a parameter's value comes from: a written value, a keyword's, a default -/
inductive Src where | p (i : Nat) | k (i : Nat) | m (i : Nat)
def arr {α : Type} (src : List Src) (xs ms zs : List α) : List α := src.flatMap fun
  | .p i => xs[i]?.toList
  | .k i => zs[i]?.toList
  | .m i => ms[i]?.toList
def cV : D → V
  | .bl b => .bl b
  | .int i => .int i
  | .str x => .str x
  | _ => .non
def isC : D → Bool
  | .non => true
  | .bl _ => true
  | .int _ => true
  | .str _ => true
  | _ => false
theorem rd_c {w : Gw} {G H : Hp} {d : D} (h : isC d = true) : RD w G H d (cV d) [] := by
  cases d with
  | non => exact .non
  | bl b => exact .bl b
  | int i => exact .int i
  | str x => exact .str x
  | _ => cases h
theorem rds_c {w : Gw} {G H : Hp} : ∀ {ms : List D}, ms.all isC = true → RDs w G H ms (ms.map cV) []
  | [], _ => RDs.nil
  | d :: ms, h => by
    simp only [List.all_cons, Bool.and_eq_true] at h
    exact RDs.cons (rd_c h.1) (rds_c h.2)
theorem RDs.at {w : Gw} {G H : Hp} : ∀ {xs : List D} {vs : List V} (i : Nat), RDs w G H xs vs [] → RDs w G H xs[i]?.toList vs[i]?.toList []
  | [], _, i, h => by rw [h.nil_of]; simp; exact RDs.nil
  | d :: ds, _, 0, h => by
    obtain ⟨v, us, rfl, h1, h2⟩ := h.cons_of
    exact RDs.cons h1 RDs.nil
  | d :: ds, _, i + 1, h => by
    obtain ⟨v, us, rfl, h1, h2⟩ := h.cons_of
    simpa using RDs.at i h2
theorem RDs.arr {w : Gw} {G H : Hp} {xs ms zs : List D} {vs us ws : List V} (h1 : RDs w G H xs vs []) (h2 : RDs w G H ms us []) (h3 : RDs w G H zs ws []) : ∀ src : List Src, RDs w G H (arr src xs ms zs) (arr src vs us ws) []
  | [] => RDs.nil
  | s :: src => by
    unfold Qd.arr
    rw [List.flatMap_cons, List.flatMap_cons]
    refine RDs.append ?_ (RDs.arr h1 h2 h3 src)
    cases s with
    | p i => exact h1.at i
    | k i => exact h3.at i
    | m i => exact h2.at i
theorem Vals.at : ∀ {vs : List V} {us : List Value} (i : Nat), Vals vs us → Vals vs[i]?.toList us[i]?.toList
  | _, _, _, .nil => by simp; exact .nil
  | _, _, 0, .cons a r => .cons a .nil
  | _, _, i + 1, .cons a r => by simpa using Vals.at i r
theorem Vals.arr {xs ms zs : List V} {vs us ws : List Value} (h1 : Vals xs vs) (h2 : Vals ms us) (h3 : Vals zs ws) : ∀ src : List Src, Vals (arr src xs ms zs) (arr src vs us ws)
  | [] => .nil
  | s :: src => by
    unfold Qd.arr
    rw [List.flatMap_cons, List.flatMap_cons]
    refine L2.Vals.append ?_ (Vals.arr h1 h2 h3 src)
    cases s with
    | p i => exact Vals.at i h1
    | k i => exact Vals.at i h3
    | m i => exact Vals.at i h2
abbrev Kb (K : PySem.W.Frag) (fd : FuncData) (ps : List Str) (np : Nat) (ks : List Str) (src : List Src) (ms : List D) : Prop := ∃ g, KBn K fd ps np ks g (fun vs zs => arr src vs (ms.map cV) zs)
def idS (n : Nat) : List Src := (List.range n).map .p
theorem arr_id {α : Type} {ms zs : List α} : ∀ {xs : List α}, arr (idS xs.length) xs ms zs = xs := by
  intro xs
  unfold arr idS
  rw [List.flatMap_map]
  apply List.ext_getElem?
  intro i
  have key : ∀ (l : List α) (k : Nat), (List.range' k l.length).flatMap (fun j => (l[j - k]?).toList) = l := by
    intro l
    induction l with
    | nil => intro k; rfl
    | cons x l ih =>
      intro k
      rw [List.length_cons, List.range'_succ, List.flatMap_cons]
      simp only [Nat.sub_self, List.getElem?_cons_zero, Option.toList_some, List.singleton_append]
      congr 1
      have cg : ∀ (l2 : List Nat), (∀ j ∈ l2, k + 1 ≤ j) → (l2.flatMap fun j => ((x :: l)[j - k]?).toList) = l2.flatMap fun j => (l[j - (k + 1)]?).toList := by
        intro l2
        induction l2 with
        | nil => intro _; rfl
        | cons j l2 ih2 =>
          intro hj
          rw [List.flatMap_cons, List.flatMap_cons, ih2 fun i hi => hj i (List.mem_cons_of_mem _ hi)]
          have := hj j (List.mem_cons_self ..)
          rw [show j - k = (j - (k + 1)) + 1 by omega, List.getElem?_cons_succ]
      rw [cg _ fun j hj => (List.mem_range'_1.mp hj).1]
      exact ih (k + 1)
  have k0 := key xs 0
  rw [← List.range_eq_range'] at k0
  simp only [Nat.sub_zero] at k0
  rw [k0]
theorem kb_all {K : PySem.W.Frag} {fd : FuncData} {ps : List Str} {n : Nat} (hb : Binds K fd ps []) (hn : ps.length = n) : Kb K fd ps n [] (idS n) [] := by
  refine ⟨fun us _ => arr (idS n) us [] [], fun s us ws X l1 _ => ?_, fun {vs us zs ws} r1 r2 => ?_⟩
  · have q := hb s us X (by rw [List.append_nil]; omega)
    rw [List.append_nil] at q
    subst l1
    rw [arr_id]
    exact q
  · show Vals (arr (idS n) vs [] zs) (arr (idS n) us [] [])
    have z : ∀ {α : Type} {xs ms zs zs' : List α}, arr (idS n) xs ms zs = arr (idS n) xs ms zs' := by
      intro α xs ms zs zs'
      unfold arr idS
      rw [List.flatMap_map, List.flatMap_map]
    rw [z (zs' := [])]
    exact Vals.arr r1 .nil .nil _

/-- what stands in the place of a call's values -/
def tKw (K : PySem.W.Frag) (mg : Str → Option Value) (ex : Option (Addr × Obj)) (W : WX) (d : DA) : TA := tAs K mg ex W d
abbrev SKw (X : Cx) (W : WX) (kws : List Keyword) (d : DA) : Prop := PK X kws (tAs X.K X.mg X.exA W d)
section
variable {X : Cx} {W : WX} {kws : List Keyword} {nm : Option Str} {e : Expr} {kp : Pos} {de : DE} {dk : DA}
theorem PK_imp {t t' : TA} (h : PK X kws t) (i : ∀ σ H Q, t' σ H Q → t σ H Q) : PK X kws t' := ⟨fun pos pins s σ H Q I q => h.run pos pins s σ H Q I (i σ H Q q)⟩
theorem sk_nil : SKw X W [] dNil := PK_imp pk_nil fun σ H Q ⟨w, G, env, L, fp, hk, R, h⟩ => h G H [] (.refl R) RDs.nil
theorem sk_cons (ha : SE X W e de) (hr : SKw X W kws dk) : SKw X W (⟨nm, e, kp⟩ :: kws) (dCons de dk) :=
  PK_imp (pk_cons ha hr) fun σ H Q ⟨w, G, env, L, fp, hk, R, h⟩ =>
    ⟨w, G, env, L, fp, hk, R, (PV.bindFs h).imp fun v H1 ⟨G1, L1, x, a1, d1, h1⟩ => ⟨w, G1, env, L1, fp, hk, a1.rel, (PVs.binds h1).imp fun vs H2 ⟨G2, L2, xs, a2, d2, h2⟩ => h2 G2 H2 (v :: vs) (.refl a2.rel) (RDs.cons (d1.ahead a2) d2)⟩⟩
end
/-- a call's values, in the parameters' order -/
def dVals (np nk : Nat) (src : List Src) (ms : List D) (xs zs : List D) (k : List D → Res D) : Res D := if xs.length = np ∧ zs.length = nk ∧ ms.all isC = true then k (arr src xs ms zs) else .stuck
def dCallK (n : Nat) (f : DF) (np nk : Nat) (src : List Src) (ms : List D) (a k : DA) : DE := fun env L => (a env L).bind fun xs L1 => (k env L1).bind fun zs L2 => dVals np nk src ms xs zs fun ys => if ys.length = n then f (bws ys) L2 else .stuck
def dMethK (c m : Str) (n : Nat) (f : DF) (np nk : Nat) (src : List Src) (ms : List D) (o : DE) (a k : DA) : DE := fun env L => (o env L).bindF fun x L0 => match x with
  | .obj fl c' ns ys => if c' = c ∧ lkN m ns ys = none ∧ ns.length = ys.length then (a env L0).bind fun xs L1 => (k env L1).bind fun zs L2 => dVals np nk src ms (x :: xs) zs fun ys => if ys.length = n then f (bws ys) L2 else .stuck else .stuck
  | _ => .stuck
section
variable {X : Cx} {W : WX} {k n : Nat} {f : Addr} {fd : FuncData} {ps ks : List Str} {sp : Sp}
theorem run_anyS {CX : CXT} {g : List Value → List Value → List Value} {gV : List V → List V → List V} {pins : List (Addr × Obj)} {σ : L2.St} {H : Hp} {s : Shared} {Q : VK} {E : XK} {us ws : List Value} {vs zs : List V} (F : FnOk X.prog X.w X.K X.mg X.base CX k f fd ps sp) (hr : Room k X.A) (hb : KBn X.K fd ps n ks g gV)
    (hx : PassesAt CX X σ E) (I : L2.Inv X pins σ H s) (r : Vals vs us) (rz : Vals zs ws) (l1 : vs.length = n) (l2 : zs.length = ks.length) (h : sp (gV vs zs) H Q E) : wpAny (model X.prog X.w) X.A (call (.ref f) us (ks.zip ws)) (EP X pins σ Q) X.xe s := by
  have bt := hb.to s us ws I.kIn (r.length.symm.trans l1) (rz.length.symm.trans l2)
  refine wpAny_call (codeAny_mono (F.run X.A X.stack s H _ _ _ Q E hr I.env0 bt (hb.rel r rz) h) fun rs s2 q => ?_)
  cases rs with
  | error u => exact hx pins H s u s2 I q
  | ok fl => cases fl with
    | ret u => exact I.after q
    | next => exact q.elim
    | brk => exact q.elim
    | cont => exact q.elim
theorem run_makeS {CX : CXT} {C : Addr} {g : List Value → List Value → List Value} {gV : List V → List V → List V} {pins : List (Addr × Obj)} {σ : L2.St} {H : Hp} {s : Shared} {Q : VK} {E : XK} {us ws : List Value} {vs zs : List V} (M : Mk X.K C f) (F : FnOk X.prog X.w X.K X.mg X.base CX k f fd ps sp) (hr : Room (k + 1) X.A)
    (hb : KBn X.K fd ps (n + 1) ks g gV) (hx : PassesAt CX X σ E) (I : L2.Inv X pins σ H s) (r : Vals vs us) (rz : Vals zs ws) (l1 : vs.length = n) (l2 : zs.length = ks.length)
    (h : ∀ x dx, H x = none → H dx = none → dx ≠ x → sp (gV (.ref x :: vs) zs) (upd (upd H dx (.own x)) x (.ins C dx [])) (fun v H2 => v = .non ∧ Q (.ref x) H2) E) : wpAny (model X.prog X.w) X.A (call (.ref C) us (ks.zip ws)) (EP X pins σ Q) X.xe s := by
  obtain ⟨x, ex⟩ : ∃ x, x = s.heap.objs.size + 1 := ⟨_, rfl⟩
  have q0 := h x s.heap.objs.size (I.hok.fresh (by rw [ex]; exact Nat.le_succ _)) (I.hok.fresh (Nat.le_refl _)) (by rw [ex]; exact Nat.ne_of_lt (Nat.lt_succ_self _))
  have IM := Inv.made (C := C) I
  rw [← ex] at IM
  have rx : Vals (V.ref x :: vs) (Value.ref x :: us) := .cons rfl r
  have bt := hb.to _ (Value.ref x :: us) ws IM.kIn (by rw [← rx.length, List.length_cons, l1]) (rz.length.symm.trans l2)
  have run := F.run _ X.stack _ _ ⟨Value.ref x :: us, ks.zip ws⟩ _ _ _ E (hr.make C us (ks.zip ws)) (IM.env0.make C us (ks.zip ws)) bt (hb.rel rx rz) q0
  rw [ex] at run
  refine wpAny_call (make_map (f := f) I.kIn M.makes M.init (beq_iff_eq.mp M.fn) (codeAny_mono run fun rs s2 q => ?_))
  rw [← ex] at q
  cases rs with
  | error u => exact hx pins _ _ u s2 IM q
  | ok fl => cases fl with
    | next => exact q.elim
    | brk => exact q.elim
    | cont => exact q.elim
    | ret u =>
      obtain ⟨v, H2, J, rv, ev, q2⟩ := IM.after q
      subst ev
      exact ⟨rv, .ref x, H2, J, by rw [ex]; rfl, q2⟩
/-- from the values to the promise -/
theorem vals_spD {w : Gw} {G H : Hp} {env : Env} {σ : L2.St} {fp : List Addr} {L : List Int} {xs zs : List D} {vs us : List V} {f : DF} {np nk n : Nat} {src : List Src} {ms : List D} {Q : VK} (R : Rel w G env L σ H fp) (hk : w.K = X.K ∧ w.mg = X.mg ∧ w.ex = X.exA) (hx : X.exA = none) (d : RDs w G H xs vs []) (dz : RDs w G H zs us [])
    (h : PV w G env σ H fp W (dVals np nk src ms xs zs fun ys => if ys.length = n then f (bws ys) L else .stuck) Q) : vs.length = np ∧ us.length = nk ∧ SpD X.K X.mg n f (arr src vs (ms.map cV) us) H Q (WE W σ) := by
  unfold dVals at h
  split at h
  · rename_i c
    replace h : PV w G env σ H fp W (if (arr src xs ms zs).length = n then f (bws (arr src xs ms zs)) L else .stuck) Q := h
    split at h
    · rename_i cn
      have dd := RDs.arr d (rds_c c.2.2) dz src
      exact ⟨d.len ▸ c.1, dz.len ▸ c.2.1, call_spD R hk hx dd (dd.len ▸ cn) h fun _ _ _ z => z⟩
    · exact h.elim
  · exact h.elim
end
def upS (src : List Src) : List Src := .p 0 :: src.map fun | .p i => .p (i + 1) | s => s
theorem arr_up {α : Type} {x : α} {xs ms zs : List α} : ∀ src : List Src, arr (upS src) (x :: xs) ms zs = x :: arr src xs ms zs := by
  intro src
  unfold arr upS
  rw [List.flatMap_cons]
  simp only [List.getElem?_cons_zero, Option.toList_some, List.singleton_append, List.flatMap_map]
  congr 1
  induction src with
  | nil => rfl
  | cons s src ih =>
    rw [List.flatMap_cons, List.flatMap_cons, ih]
    cases s <;> simp
/-- a def of the top, for calls of a form -/
def GotFN (P : Program) (w : World) (K : PySem.W.Frag) (mg : Str → Option Value) (base : Heap) (k : Nat) (x : Str) (n : Nat) (df : DF) (np : Nat) (ks : List Str) (src : List Src) (ms : List D) : Prop :=
  ∃ f fd ps, FnOk P w K mg base (L2.CX P w) k f fd ps (SpD K mg n df) ∧ mg x = some (.ref f) ∧ PySem.W.keepIn K (.ref f) = true ∧ Kb K fd ps np ks src ms
def GotMN (P : Program) (w : World) (K : PySem.W.Frag) (mg : Str → Option Value) (base : Heap) (k : Nat) (c m : Str) (n : Nat) (df : DF) (np : Nat) (ks : List Str) (src : List Src) (ms : List D) : Prop :=
  ∃ C f fd ps, mg c = some (.ref C) ∧ Cls K C ∧ Meth K C m f ∧ FnOk P w K mg base (L2.CX P w) k f fd ps (SpD K mg n df) ∧ Kb K fd ps np ks src ms
def GotIN (P : Program) (w : World) (K : PySem.W.Frag) (mg : Str → Option Value) (base : Heap) (k : Nat) (c : Str) (n : Nat) (di : DF) (np : Nat) (ks : List Str) (src : List Src) (ms : List D) : Prop :=
  ∃ C f fd ps, Mk K C f ∧ FnOk P w K mg base (L2.CX P w) k f fd ps (SpI K mg c n di) ∧ mg c = some (.ref C) ∧ Kb K fd ps (np + 1) ks (upS src) ms
section
variable {X : Cx} {W : WX} {e o : Expr} {es : List Expr} {kws : List Keyword} {da dk : DA} {de : DE} {pos p apos : Pos} {j k n np nk : Nat} {x c m : Str} {ks : List Str} {src : List Src} {ms : List D} {df : DF}
theorem so_callN (g : GotFN X.prog X.w X.K X.mg X.base j x n df np ks src ms) (hr : Room k X.A) (tk : Takes X W) (hg : Gl X x) (ha : SA X W (e :: es) da) (hkw : SKw X W kws dk) (hj : j ≤ k := by decide) (hnk : nk = ks.length := by rfl)
    (hall : (backToKw pos (keywordEach kws X.env)).all (·.1.isSome) = true := by rfl) (hks : (backToKw pos (keywordEach kws X.env)).filterMap (·.1) = ks := by rfl) (hdb : (x == ("__debug__" : Str)) = false := by decide)
    (he : starEach (e :: es) X.env = (false, eval e X.env) :: starEach es X.env := by rfl) (hpl : ((backTo pos (starEach (e :: es) X.env)).any (·.1) || (backToKw pos (keywordEach kws X.env)).any (·.1.isNone)) = false := by rfl) :
    SE X W (.Call (.Name x p) (e :: es) kws pos) (dCallK n df np nk src ms da dk) := by
  obtain ⟨f, fd, ps, F, hm, hk, gg, hb⟩ := g
  subst hnk
  refine ⟨fun pins s σ H Q I ⟨w, G, env, L, fp, hkk, R, h⟩ => ?_⟩
  refine wpAny_Call_Name_kw (ld_glob I hg hm ?_ hdb)
  refine PySem.W.callWith_KW (h₀ := X.base) I.ok.mod.kin hk hall (thn (ha.run pos pins s σ H _ I ⟨w, G, env, L, fp, hkk, R, PVs.bind h⟩) fun us s1 z => ?_) hpl he
  obtain ⟨vs, H1, I1, r, G1, L1, xs, a1, d1, h1⟩ := z
  refine thn (hkw.run pos pins s1 σ H1 _ I1 ⟨w, G1, env, L1, fp, hkk, a1.rel, PVs.bind h1⟩) fun ws s2 z => ?_
  obtain ⟨zs, H2, I2, rz, G2, L2, ys, a2, d2, h2⟩ := z
  refine ⟨I2.kIn, ?_⟩
  rw [hks]
  obtain ⟨l1, l2, q⟩ := vals_spD a2.rel hkk (exA_room hr) (d1.ahead a2) d2 h2
  exact run_anyS F (hr.mono hj) hb (passAt tk σ) I2 r rz l1 l2 q
theorem so_callN0 (g : GotFN X.prog X.w X.K X.mg X.base j x n df np ks src ms) (hr : Room k X.A) (tk : Takes X W) (hg : Gl X x) (hkw : SKw X W kws dk) (hj : j ≤ k := by decide) (hnk : nk = ks.length := by rfl)
    (hall : (backToKw pos (keywordEach kws X.env)).all (·.1.isSome) = true := by rfl) (hks : (backToKw pos (keywordEach kws X.env)).filterMap (·.1) = ks := by rfl) (hdb : (x == ("__debug__" : Str)) = false := by decide)
    (hpl : ((backTo pos (starEach [] X.env)).any (·.1) || (backToKw pos (keywordEach kws X.env)).any (·.1.isNone)) = false := by rfl) :
    SE X W (.Call (.Name x p) [] kws pos) (dCallK n df np nk src ms dNil dk) := by
  obtain ⟨f, fd, ps, F, hm, hk, gg, hb⟩ := g
  subst hnk
  refine ⟨fun pins s σ H Q I ⟨w, G, env, L, fp, hkk, R, h⟩ => ?_⟩
  refine wpAny_Call_Name_kw (ld_glob I hg hm ?_ hdb)
  refine PySem.W.callWith_KW0 (h₀ := X.base) I.ok.mod.kin hk hall ?_ hpl
  refine thn (hkw.run pos pins s σ H _ I ⟨w, G, env, L, fp, hkk, R, PVs.bind h⟩) fun ws s2 z => ?_
  obtain ⟨zs, H2, I2, rz, G2, L2, ys, a2, d2, h2⟩ := z
  refine ⟨I2.kIn, ?_⟩
  rw [hks]
  obtain ⟨l1, l2, q⟩ := vals_spD a2.rel hkk (exA_room hr) RDs.nil d2 h2
  exact run_anyS (vs := []) (us := []) F (hr.mono hj) hb (passAt tk σ) I2 .nil rz l1 l2 q
theorem so_methN {pl : Sem Bool} (g : GotMN X.prog X.w X.K X.mg X.base j c m n df np ks src ms) (ho : SE X W o de) (hr : Room k X.A) (tk : Takes X W) (ha : SA X W (e :: es) da) (hkw : SKw X W kws dk) (hj : j ≤ k := by decide) (hnk : nk = ks.length := by rfl)
    (hall : (backToKw pos (keywordEach kws X.env)).all (·.1.isSome) = true := by rfl) (hks : (backToKw pos (keywordEach kws X.env)).filterMap (·.1) = ks := by rfl)
    (hst : starEach (e :: es) X.env = (false, eval e X.env) :: starEach es X.env := by rfl) (hpl : ((backTo pos (starEach (e :: es) X.env)).any (·.1) || (backToKw pos (keywordEach kws X.env)).any (·.1.isNone)) = false := by rfl)
    (ht : eval (.Call (.Attribute o m apos) (e :: es) kws pos) X.env = (do
      let ov ← eval o X.env
      standAt apos.atName
      let (f, first) ← holding [ov] (getMethod ov m pl)
      callWith pos f first (backTo pos (starEach (e :: es) X.env)) (backToKw pos (keywordEach kws X.env))) := by rfl) :
    SE X W (.Call (.Attribute o m apos) (e :: es) kws pos) (dMethK c m n df np nk src ms de da dk) := by
  obtain ⟨C, f, fd, ps, gC, cl, hm, F, gg, hb⟩ := g
  subst hnk
  refine ⟨fun pins s σ H Q I ⟨w, G, env, L, fp, hkk, R, h⟩ => ?_⟩
  refine PySem.W.methodCall_KW (pl := pl) (thn (ho.run pins s σ H _ I ⟨w, G, env, L, fp, hkk, R, h.bindF⟩) fun u s1 z => ?_) ht
  obtain ⟨v, H1, I1, rv, G1, L1, xo, a1, d1, h1⟩ := z
  cases xo with
  | obj fl c' ns ys =>
    simp only at h1
    split at h1
    · rename_i cc
      obtain ⟨rfl, c2, c3⟩ := cc
      obtain ⟨q, C2, dx, fs, rfl, hm2, rfl, hob, rr⟩ := d1.obj_of a1.rel fun C z => by
        have z2 := z.symm.trans (hkk.2.1 ▸ gC)
        cases z2
        rw [hkk.1]; exact cl.pg
      have e2 : C2 = C := by
        have z := hm2.symm.trans (hkk.2.1 ▸ gC)
        injection z with z
        injection z
      subst e2
      obtain rfl : u = Value.ref q := rv
      refine getmeth_ok I1 hob cl hm (lkN_none (by rw [← c3]; simp) c2) ?_
      refine PySem.W.callWith_KW (first := [.ref q]) (h₀ := X.base) I.ok.mod.kin hm.kp hall (thn (ha.run pos pins s1 σ H1 _ I1 ⟨w, G1, env, L1, fp, hkk, a1.rel, PVs.bind h1⟩) fun us s2 z => ?_) hpl hst
      obtain ⟨vs, H2, I2, r, G2, L2, xs, a2, d2, h2⟩ := z
      refine thn (hkw.run pos pins s2 σ H2 _ I2 ⟨w, G2, env, L2, fp, hkk, a2.rel, PVs.bind h2⟩) fun ws s3 z => ?_
      obtain ⟨zs, H3, I3, rz, G3, L3, ys, a3, d3, h3⟩ := z
      refine ⟨I3.kIn, ?_⟩
      rw [hks]
      obtain ⟨l1, l2, qq⟩ := vals_spD a3.rel hkk (exA_room hr) (RDs.cons ((d1.ahead a2).ahead a3) (d2.ahead a3)) d3 h3
      exact run_anyS (vs := .ref q :: vs) (us := .ref q :: us) F (hr.mono hj) hb (passAt tk σ) I3 (.cons rfl r) rz l1 l2 qq
    · exact h1.elim
  | _ => exact h1.elim
theorem so_methN0 {pl : Sem Bool} (g : GotMN X.prog X.w X.K X.mg X.base j c m n df np ks src ms) (ho : SE X W o de) (hr : Room k X.A) (tk : Takes X W) (hkw : SKw X W kws dk) (hj : j ≤ k := by decide) (hnk : nk = ks.length := by rfl)
    (hall : (backToKw pos (keywordEach kws X.env)).all (·.1.isSome) = true := by rfl) (hks : (backToKw pos (keywordEach kws X.env)).filterMap (·.1) = ks := by rfl)
    (hpl : ((backTo pos (starEach [] X.env)).any (·.1) || (backToKw pos (keywordEach kws X.env)).any (·.1.isNone)) = false := by rfl)
    (ht : eval (.Call (.Attribute o m apos) [] kws pos) X.env = (do
      let ov ← eval o X.env
      standAt apos.atName
      let (f, first) ← holding [ov] (getMethod ov m pl)
      callWith pos f first (backTo pos (starEach [] X.env)) (backToKw pos (keywordEach kws X.env))) := by rfl) :
    SE X W (.Call (.Attribute o m apos) [] kws pos) (dMethK c m n df np nk src ms de dNil dk) := by
  obtain ⟨C, f, fd, ps, gC, cl, hm, F, gg, hb⟩ := g
  subst hnk
  refine ⟨fun pins s σ H Q I ⟨w, G, env, L, fp, hkk, R, h⟩ => ?_⟩
  refine PySem.W.methodCall_KW (pl := pl) (thn (ho.run pins s σ H _ I ⟨w, G, env, L, fp, hkk, R, h.bindF⟩) fun u s1 z => ?_) ht
  obtain ⟨v, H1, I1, rv, G1, L1, xo, a1, d1, h1⟩ := z
  cases xo with
  | obj fl c' ns ys =>
    simp only at h1
    split at h1
    · rename_i cc
      obtain ⟨rfl, c2, c3⟩ := cc
      obtain ⟨q, C2, dx, fs, rfl, hm2, rfl, hob, rr⟩ := d1.obj_of a1.rel fun C z => by
        have z2 := z.symm.trans (hkk.2.1 ▸ gC)
        cases z2
        rw [hkk.1]; exact cl.pg
      have e2 : C2 = C := by
        have z := hm2.symm.trans (hkk.2.1 ▸ gC)
        injection z with z
        injection z
      subst e2
      obtain rfl : u = Value.ref q := rv
      refine getmeth_ok I1 hob cl hm (lkN_none (by rw [← c3]; simp) c2) ?_
      refine PySem.W.callWith_KW0 (first := [.ref q]) (h₀ := X.base) I.ok.mod.kin hm.kp hall ?_ hpl
      refine thn (hkw.run pos pins s1 σ H1 _ I1 ⟨w, G1, env, L1, fp, hkk, a1.rel, PVs.bind h1⟩) fun ws s3 z => ?_
      obtain ⟨zs, H3, I3, rz, G3, L3, ys, a3, d3, h3⟩ := z
      refine ⟨I3.kIn, ?_⟩
      rw [hks]
      obtain ⟨l1, l2, qq⟩ := vals_spD a3.rel hkk (exA_room hr) (RDs.cons (d1.ahead a3) RDs.nil) d3 h3
      exact run_anyS (vs := [.ref q]) (us := [.ref q]) F (hr.mono hj) hb (passAt tk σ) I3 (.cons rfl .nil) rz l1 l2 qq
    · exact h1.elim
  | _ => exact h1.elim
theorem so_makeN (g : GotIN X.prog X.w X.K X.mg X.base j c n df np ks src ms) (hr : Room k X.A) (tk : Takes X W) (hg : Gl X c) (ha : SA X W (e :: es) da) (hkw : SKw X W kws dk) (hj : j + 1 ≤ k := by decide) (hnk : nk = ks.length := by rfl)
    (hall : (backToKw pos (keywordEach kws X.env)).all (·.1.isSome) = true := by rfl) (hks : (backToKw pos (keywordEach kws X.env)).filterMap (·.1) = ks := by rfl) (hdb : (c == ("__debug__" : Str)) = false := by decide)
    (he : starEach (e :: es) X.env = (false, eval e X.env) :: starEach es X.env := by rfl) (hpl : ((backTo pos (starEach (e :: es) X.env)).any (·.1) || (backToKw pos (keywordEach kws X.env)).any (·.1.isNone)) = false := by rfl) :
    SE X W (.Call (.Name c p) (e :: es) kws pos) (dCallK n df np nk src ms da dk) := by
  obtain ⟨C, f, fd, ps, M, F, hm, gg, hb⟩ := g
  subst hnk
  refine ⟨fun pins s σ H Q I ⟨w, G, env, L, fp, hkk, R, h⟩ => ?_⟩
  refine wpAny_Call_Name_kw (ld_glob I hg hm ?_ hdb)
  refine PySem.W.callWith_KW (h₀ := X.base) I.ok.mod.kin M.kp hall (thn (ha.run pos pins s σ H _ I ⟨w, G, env, L, fp, hkk, R, PVs.bind h⟩) fun us s1 z => ?_) hpl he
  obtain ⟨vs, H1, I1, r, G1, L1, xs, a1, d1, h1⟩ := z
  refine thn (hkw.run pos pins s1 σ H1 _ I1 ⟨w, G1, env, L1, fp, hkk, a1.rel, PVs.bind h1⟩) fun ws s2 z => ?_
  obtain ⟨zs, H2, I2, rz, G2, L2, ys, a2, d2, h2⟩ := z
  refine ⟨I2.kIn, ?_⟩
  rw [hks]
  unfold dVals at h2
  split at h2
  · rename_i cc
    replace h2 : PV w G2 env σ H2 fp W (if (arr src xs ms ys).length = n then df (bws (arr src xs ms ys)) L2 else .stuck) Q := h2
    split at h2
    · rename_i cn
      have dd := RDs.arr (d1.ahead a2) (rds_c cc.2.2) d2 src
      refine run_makeS M F (hr.mono hj) hb (passAt tk σ) I2 r rz ((d1.ahead a2).len ▸ cc.1) (d2.len ▸ cc.2.1) fun x dx nx ndx ne => ?_
      have e := arr_up (x := V.ref x) (xs := vs) (ms := ms.map cV) (zs := zs) src
      show SpI X.K X.mg c n df (arr (upS src) (.ref x :: vs) (ms.map cV) zs) _ _ _
      rw [e]
      exact make_spI a2.rel hkk (exA_room hr) hm dd cn h2 (fun _ _ _ z => z) nx ndx ne
    · exact h2.elim
  · exact h2.elim
theorem so_makeN0 (g : GotIN X.prog X.w X.K X.mg X.base j c n df np ks src ms) (hr : Room k X.A) (tk : Takes X W) (hg : Gl X c) (hkw : SKw X W kws dk) (hj : j + 1 ≤ k := by decide) (hnk : nk = ks.length := by rfl)
    (hall : (backToKw pos (keywordEach kws X.env)).all (·.1.isSome) = true := by rfl) (hks : (backToKw pos (keywordEach kws X.env)).filterMap (·.1) = ks := by rfl) (hdb : (c == ("__debug__" : Str)) = false := by decide)
    (hpl : ((backTo pos (starEach [] X.env)).any (·.1) || (backToKw pos (keywordEach kws X.env)).any (·.1.isNone)) = false := by rfl) :
    SE X W (.Call (.Name c p) [] kws pos) (dCallK n df np nk src ms dNil dk) := by
  obtain ⟨C, f, fd, ps, M, F, hm, gg, hb⟩ := g
  subst hnk
  refine ⟨fun pins s σ H Q I ⟨w, G, env, L, fp, hkk, R, h⟩ => ?_⟩
  refine wpAny_Call_Name_kw (ld_glob I hg hm ?_ hdb)
  refine PySem.W.callWith_KW0 (h₀ := X.base) I.ok.mod.kin M.kp hall ?_ hpl
  refine thn (hkw.run pos pins s σ H _ I ⟨w, G, env, L, fp, hkk, R, PVs.bind h⟩) fun ws s2 z => ?_
  obtain ⟨zs, H2, I2, rz, G2, L2, ys, a2, d2, h2⟩ := z
  refine ⟨I2.kIn, ?_⟩
  rw [hks]
  unfold dVals at h2
  split at h2
  · rename_i cc
    replace h2 : PV w G2 env σ H2 fp W (if (arr src [] ms ys).length = n then df (bws (arr src [] ms ys)) L2 else .stuck) Q := h2
    split at h2
    · rename_i cn
      have dd := RDs.arr (RDs.nil (w := w) (G := G2) (H := H2)) (rds_c cc.2.2) d2 src
      refine run_makeS (vs := []) (us := []) M F (hr.mono hj) hb (passAt tk σ) I2 .nil rz cc.1 (d2.len ▸ cc.2.1) fun x dx nx ndx ne => ?_
      have e := arr_up (x := V.ref x) (xs := []) (ms := ms.map cV) (zs := zs) src
      show SpI X.K X.mg c n df (arr (upS src) [.ref x] (ms.map cV) zs) _ _ _
      rw [e]
      exact make_spI a2.rel hkk (exA_room hr) hm dd cn h2 (fun _ _ _ z => z) nx ndx ne
    · exact h2.elim
  · exact h2.elim
end
end Qd

set_option Elab.async false
set_option linter.all false
set_option maxRecDepth 100000
set_option maxHeartbeats 4000000
namespace Qd
open PySem PySem.Spec PyProof.Rows L2
/-! ### defs with defaults -/
section
variable {P : Program} {w : World} {K : PySem.W.Frag} {mg : Str → Option Value} {base : Heap} {x qual c : Str} {st : Stmt} {f : Addr} {fd : FuncData} {N ps : List Str} {k np nn : Nat} {body : DS} {dvs : List V} {kws : List (Str × V)}
theorem okD (F : Fun K x qual st f fd) (S : FnScope N ps (defScope st)) (hp : ps.length = np) (hn : N.length = nn)
    (hb : ∀ (cdv : Value) (A : Around) (outer : List PySem.Env) (s : Shared) (H : Hp) (E : XK), Room k (A.deeper (envOfC qual (defScope st) s.heap.objs.size f cdv)) →
      Takes (cxOf (L2.CX P w) P w K mg base N qual (defScope st) f cdv A outer s H E) (fun cls d _ H => E cls d H) →
      SSs (cxOf (L2.CX P w) P w K mg base N qual (defScope st) f cdv A outer s H E) (fun cls d _ H => E cls d H) (defBody st) body) :
    FnOk P w K mg base (L2.CX P w) (k + 1) f fd ps (SpD K mg np (dBody np nn body)) := okD' (fun _ => F.okX S) hp hn hb
theorem okI (F : Fun K x qual st f fd) (S : FnScope N ps (defScope st)) (hp : ps.length = np + 1) (hn : N.length = nn + 1)
    (hb : ∀ (cdv : Value) (A : Around) (outer : List PySem.Env) (s : Shared) (H : Hp) (E : XK), Room k (A.deeper (envOfC qual (defScope st) s.heap.objs.size f cdv)) →
      Takes (cxOf (L2.CX P w) P w K mg base N qual (defScope st) f cdv A outer s H E) (fun cls d _ H => E cls d H) →
      SSs (cxOf (L2.CX P w) P w K mg base N qual (defScope st) f cdv A outer s H E) (fun cls d _ H => E cls d H) (defBody st) body) :
    FnOk P w K mg base (L2.CX P w) (k + 1) f fd ps (SpI K mg c np (dInit np nn c body)) := okI' (fun _ => F.okX S) hp hn hb
theorem okDD (F : FunD K x qual (defArgs st) (defBody st) (defScope st) dvs kws f fd) (S : FnScope N ps (defScope st)) (hp : ps.length = np) (hn : N.length = nn)
    (hb : ∀ (cdv : Value) (A : Around) (outer : List PySem.Env) (s : Shared) (H : Hp) (E : XK), Room k (A.deeper (envOfC qual (defScope st) s.heap.objs.size f cdv)) →
      Takes (cxOf (L2.CX P w) P w K mg base N qual (defScope st) f cdv A outer s H E) (fun cls d _ H => E cls d H) →
      SSs (cxOf (L2.CX P w) P w K mg base N qual (defScope st) f cdv A outer s H E) (fun cls d _ H => E cls d H) (defBody st) body) :
    FnOk P w K mg base (L2.CX P w) (k + 1) f fd ps (SpD K mg np (dBody np nn body)) := okD' (fun _ => F.ok S) hp hn hb
theorem okID (F : FunD K x qual (defArgs st) (defBody st) (defScope st) dvs kws f fd) (S : FnScope N ps (defScope st)) (hp : ps.length = np + 1) (hn : N.length = nn + 1)
    (hb : ∀ (cdv : Value) (A : Around) (outer : List PySem.Env) (s : Shared) (H : Hp) (E : XK), Room k (A.deeper (envOfC qual (defScope st) s.heap.objs.size f cdv)) →
      Takes (cxOf (L2.CX P w) P w K mg base N qual (defScope st) f cdv A outer s H E) (fun cls d _ H => E cls d H) →
      SSs (cxOf (L2.CX P w) P w K mg base N qual (defScope st) f cdv A outer s H E) (fun cls d _ H => E cls d H) (defBody st) body) :
    FnOk P w K mg base (L2.CX P w) (k + 1) f fd ps (SpI K mg c np (dInit np nn c body)) := okI' (fun _ => F.ok S) hp hn hb
/-- a call's form binds: the keyword-only parameters ms lack -/
theorem kb_kw {params : Arguments} {body : List Stmt} {scope : Scope} (F : FunD K x qual params body scope [] kws f fd) (n : Nat) (ks : List Str) (ms : List (Str × D)) (src : List Src) (hk : kws ≠ []) (hms : ∀ q ∈ ms, (q.1, cV q.2) ∈ kws)
    (h : ∀ (D : Addr) (doc pm : Value) (an : Option Addr) (cdv ct : Value) (us mv ws : List Value), us.length = n → mv.length = ms.length → ws.length = ks.length →
      KwChain D ((ms.map (·.1)).zip mv) (bindArgs (PySem.W.fnOf x qual params body scope .none (.ref D) doc pm an cdv ct) ⟨us, ks.zip ws⟩) (ps.zip (arr src us mv ws))) :
    Kb K fd ps n ks src (ms.map (·.2)) := by
  obtain ⟨mv, B⟩ := F.kbinds0 n ks (ms.map fun q => (q.1, cV q.2)) (fun {α} (xs ms zs : List α) => arr src xs ms zs) hk (fun q hq => by
      obtain ⟨p, hp, rfl⟩ := List.mem_map.mp hq
      exact hms p hp) (fun r1 r2 r3 => Vals.arr r1 r2 r3 src) (fun D doc pm an cdv ct us mv ws l1 l2 l3 => by
      have := h D doc pm an cdv ct us mv ws l1 (by simpa using l2) l3
      simpa [List.map_map, Function.comp_def] using this)
  refine ⟨_, ⟨B.to, fun r1 r2 => ?_⟩⟩
  have q := B.rel r1 r2
  simpa [List.map_map, Function.comp_def] using q
end
def IsiG (K : PySem.W.Frag) (mg : Str → Option Value) (cs : List Str) (c : Str) : Prop := ∃ C, IsiF K mg cs c C
theorem so_isiG {X : Cx} {W : WX} {e : Expr} {da : DE} {p pos pt : Pos} {cs : List Str} {c : Str} (hg : Gl X "isinstance") (hm : X.mg "isinstance" = none) (F : IsiG X.K X.mg cs c) (ha : SE X W e da) (gt : Gl X c) (h2 : (c == ("__debug__" : Str)) = false := by decide)
    (hs : starEach [e, .Name c pt] X.env = (false, eval e X.env) :: starEach [.Name c pt] X.env := by rfl) (hpl : (backTo pos (starEach [.Name c pt] X.env)).any (·.1) = false := by rfl) :
    SE X W (.Call (.Name "isinstance" p) [e, .Name c pt] [] pos) (dUn (isiC cs c) da) := by
  obtain ⟨C, F⟩ := F
  exact so_isiC hg hm F ha gt h2 hs hpl
end Qd

set_option Elab.async false
set_option linter.all false
set_option maxRecDepth 100000
set_option maxHeartbeats 4000000
namespace Qd
open PySem PySem.Spec PyProof.Rows L2
theorem int_fn {env : PySem.Env} (h : env.scope.kind = .function) : interactive env = false := by
  unfold interactive
  rw [h]
  rfl
theorem lookup_cases {c k : Str} {b v : Bool} {l : List (Str × Bool)} (h : ((k, v) :: l).lookup c = some b) : (c = k ∧ b = v) ∨ (c ≠ k ∧ l.lookup c = some b) := by
  by_cases e : c = k
  · subst e
    simp [List.lookup] at h
    exact .inl ⟨rfl, h.symm⟩
  · refine .inr ⟨e, ?_⟩
    rwa [List.lookup_cons, show (c == k) = false by simpa using e] at h
theorem up_id (n : Nat) : upS (idS n) = idS (n + 1) := by
  unfold upS idS
  rw [List.range_succ_eq_map, List.map_cons, List.map_map, List.map_map]
  rfl
theorem kb_up {K : PySem.W.Frag} {fd : FuncData} {ps : List Str} {n : Nat} (hb : Binds K fd ps []) (hn : ps.length = n + 1) : Kb K fd ps (n + 1) [] (upS (idS n)) [] := by
  rw [up_id]
  exact kb_all hb hn
/-- the value y is put at x[a] -/
def setV (i : Nat) (a : DE) (y : D) : DS := fun env L => match env[i]? with
  | some (some (.lst .ow xs)) => (a env L).thenF env fun k L2 => match k with
    | .int k => (match ixN xs.length k with
      | some j => if okf isFz y && okfs isFz xs then .nx (env.set i (some (.lst .ow (xs.set j y)))) L2 else .stuck
      | none => .stuck)
    | _ => .stuck
  | _ => .stuck
/-- x[a], x[b] = e1, e2 -/
def dSetTwo (i : Nat) (a b : DE) (d : DA) : DS := fun env L => (dApp tupD d env L).thenF env fun t L1 => match t with
  | .tup [u, v] => dSeq (setV i a u) (setV i b v) env L1
  | _ => .stuck
section
variable {X : Cx} {W : WX} {e c c2 : Expr} {dc dc2 : DE} {pos : Pos}
theorem PVS.seqA {w : Gw} {G H : Hp} {fp : List Addr} {E : Ends} {env : Env} {L : List Int} {da db : DS} (h : PVS w G H fp W (dSeq da db env L) E) :
    PVS w G H fp W (da env L) { E with nx := fun σ' H' => ∃ G' env' L' fp', After w G H fp env' L' G' H' σ' fp' ∧ PVS w G' H' fp' W (db env' L') E } := by
  unfold dSeq at h
  cases q : da env L with
  | nx env1 L1 =>
    rw [q] at h
    exact fun G' H' σ' fp' a => ⟨G', env1, L1, fp', a, PVS.later h a⟩
  | ret x L' => rw [q] at h; exact h
  | brk env' L' => rw [q] at h; exact h
  | cnt env' L' => rw [q] at h; exact h
  | exc c ns xs env' L' => rw [q] at h; exact h
  | stuck => rw [q] at h; exact h
/-- a target x[a] -/
theorem sg_ix (i : Nat) {x : Str} {p pt : Pos} (hc : SE X W c dc) (hN : X.N[i]? = some x) (hv : Vis X.env.scope x)
    (hd : (x == ("__debug__" : Str)) = false) (hcd : (x == ("__classdict__" : Str)) = false)
    (ha : ∀ v, assign (.Subscript (.Name x p) c pt) X.env v = (do
      let ov ← holding [v] (eval (.Name x p) X.env)
      let iv ← holding [v, ov] (eval c X.env)
      standAt pt
      holding [v, ov, iv] (setItem ov iv v)
      release [v, ov, iv] [])) :
    PG X (.Subscript (.Name x p) c pt) (fun v σ H Q => ∃ w G env L fp y E, (w.K = X.K ∧ w.mg = X.mg ∧ w.ex = X.exA) ∧ Rel w G env L σ H fp ∧ RD w G H y v [] ∧ PVS w G H fp W (setV i dc y env L) E ∧ ∀ H', E.nx σ H' → Q σ H') :=
  PG_imp (pg_sub (pe_var hN hv hd hcd) hc set_list ha) fun v σ H Q ⟨w, G, env, L, fp, y, E, hk, R, d, h, hq⟩ => by
    unfold setV at h
    split at h
    · rename_i xs ev
      obtain ⟨a, vs, e1, ha, ns, ma, lv, _⟩ := R.own ev
      refine ⟨.ref a, e1, ⟨w, G, env, L, fp, hk, R, (PVS.thenF h).imp fun k H2 ⟨G2, L2, kd, a2, d2, h2⟩ => ?_⟩⟩
      split at h2
      · rename_i k'
        split at h2
        · rename_i j ej
          split at h2
          · rename_i c
            obtain ⟨a', vs', e1', ha', _, _, lv', up⟩ := a2.rel.own ev
            rw [e1] at e1'
            obtain rfl : a = a' := by simpa using e1'
            simp only [Bool.and_eq_true] at c
            have lj : ixN vs'.length k' = some j := by rw [lv']; exact ej
            obtain ⟨fp', A⟩ := up (xs.set j y) (vs'.set j v) (fun r => RDs.set r c.2 (RD.fzAny (d.ahead a2) c.1)) ((okf_imp fz_sto).2 _ (okfs_set _ _ _ c.2 c.1))
            exact ⟨a, vs', k', j, rfl, d2.int_of, ha', lj, hq _ (h2 _ _ _ _ A)⟩
          · exact h2.elim
        · exact h2.elim
      · exact h2.elim
    · exact h.elim
theorem sx_setTwo (i : Nat) {x : Str} {p p2 pt pt2 pt3 : Pos} {kt : Nat} {ka : Nat} {pa : Pos} {es : List Expr} {da : DA} (hcm : X.calm = true) (he : SA X W es da) (hc : SE X W c dc) (hc2 : SE X W c2 dc2) (hN : X.N[i]? = some x := by rfl) (hv : Vis X.env.scope x := by first | exact Or.inl rfl | exact Or.inr (Or.inl rfl) | exact Or.inr (Or.inr rfl))
    (hd : (x == ("__debug__" : Str)) = false := by decide) (hcd : (x == ("__classdict__" : Str)) = false := by decide)
    (ha : ∀ v, assign (.Subscript (.Name x p) c pt) X.env v = (do
      let ov ← holding [v] (eval (.Name x p) X.env)
      let iv ← holding [v, ov] (eval c X.env)
      standAt pt
      holding [v, ov, iv] (setItem ov iv v)
      release [v, ov, iv] []) := by intro _; rfl)
    (ha2 : ∀ v, assign (.Subscript (.Name x p2) c2 pt2) X.env v = (do
      let ov ← holding [v] (eval (.Name x p2) X.env)
      let iv ← holding [v, ov] (eval c2 X.env)
      standAt pt2
      holding [v, ov, iv] (setItem ov iv v)
      release [v, ov, iv] []) := by intro _; rfl)
    (hn : (assignEach [.Subscript (.Name x p) c pt, .Subscript (.Name x p2) c2 pt2] X.env).length = 2 := by rfl) (hst : (assignEach [.Subscript (.Name x p) c pt, .Subscript (.Name x p2) c2 pt2] X.env).findIdx? (·.1) = none := by rfl)
    (hs1 : (assignEach (.Subscript (.Name x p) c pt :: [.Subscript (.Name x p2) c2 pt2]) X.env).map (·.2) = assign (.Subscript (.Name x p) c pt) X.env :: (assignEach [.Subscript (.Name x p2) c2 pt2] X.env).map (·.2) := by rfl)
    (hs2 : (assignEach (.Subscript (.Name x p2) c2 pt2 :: []) X.env).map (·.2) = assign (.Subscript (.Name x p2) c2 pt2) X.env :: (assignEach [] X.env).map (·.2) := by rfl)
    (hs : swapsWithSole [.Tuple [.Subscript (.Name x p) c pt, .Subscript (.Name x p2) c2 pt2] kt pt3] (.Tuple es ka pa) pos.line X.env = pure false := by rfl) (hw : swappedStores [.Tuple [.Subscript (.Name x p) c pt, .Subscript (.Name x p2) c2 pt2] kt pt3] (.Tuple es ka pa) X.env = pure none := by rfl)
    (h1 : (assignEach [.Tuple [.Subscript (.Name x p) c pt, .Subscript (.Name x p2) c2 pt2] kt pt3] X.env).map (·.2) = [assign (.Tuple [.Subscript (.Name x p) c pt, .Subscript (.Name x p2) c2 pt2] kt pt3) X.env] := by rfl) :
    SS X W (.Assign [.Tuple [.Subscript (.Name x p) c pt, .Subscript (.Name x p2) c2 pt2] kt pt3] (.Tuple es ka pa) pos) (dSetTwo i dc dc2 da) :=
  PS_imp (ps_asg (so_tup he) (pg_tup hcm (pgs_cons (sg_ix i hc hN hv hd hcd ha) (pgs_cons (sg_ix i hc2 hN hv hd hcd ha2) pgs_nil hs2) hs1) hn hst) hs hw h1) fun E σ H ⟨w, G, env, L, fp, hk, R, h⟩ =>
    ⟨w, G, env, L, fp, hk, R, (PVS.thenF h).imp fun v H1 ⟨G1, L1, x, a1, d1, h1⟩ => by
      split at h1
      · rename_i u v
        obtain ⟨a, vs, rfl, hq, r, kz⟩ := d1.tup_of a1.rel
        obtain ⟨v1, us, rfl, d2, d3⟩ := r.cons_of
        obtain ⟨v2, us, rfl, d4, d5⟩ := d3.cons_of
        obtain rfl := d5.nil_of
        simp only [okfs, Bool.and_eq_true] at kz
        refine ⟨a, _, rfl, hk.1 ▸ hq, rfl, v1, [v2], rfl, w, G1, env, L1, fp, u, _, hk, a1.rel, d2, PVS.seqA h1, ?_⟩
        rintro H' ⟨G2, env2, L2, fp2, A, h2⟩
        refine ⟨v2, [], rfl, w, G2, env2, L2, fp2, v, _, hk, A.rel, ?_, h2, fun H2 z => ⟨rfl, z⟩⟩
        exact (sto_all rfl rfl rfl A.sub).1 _ _ _ d4 ((okf_imp fz_sto).1 _ kz.2.1) (fun _ m => nomatch m)
      · exact h1.elim⟩
end
def pkClasses : List Str := ("Apart" : Str) :: ("Unbent" : Str) :: ("Body" : Str) :: ("Clip" : Str) :: ("Desk" : Str) :: ("Doubt" : Str) :: ("Funnel" : Str) :: ("Jobs" : Str) :: ("Run" : Str) :: ("Log" : Str) :: ("Lots" : Str) :: ("Later" : Str) :: ("Asked" : Str) :: ("Machine" : Str) :: ("Levels" : Str) :: ("Net" : Str) :: ("HourTable" : Str) :: ("Ratio" : Str) :: ("RopeKind" : Str) :: ("Ropes" : Str) :: ("Round" : Str) :: ("Span" : Str) :: ("Staircase" : Str) :: ("Steps" : Str) :: ("Store" : Str) :: ("StoreKind" : Str) :: ("SurePaper" : Str) :: ("Table" : Str) :: ("Task" : Str) :: ("StoreTask" : Str) :: ("RopesTask" : Str) :: ("TradeTask" : Str) :: ("MachineTask" : Str) :: ("LotsTask" : Str) :: ("JobsTask" : Str) :: ("RoundTask" : Str) :: ("LineReader" : Str) :: ("Thresholds" : Str) :: ("Trade" : Str) :: ("Trial" : Str) :: ("World" : Str) :: []
end Qd

set_option Elab.async false
set_option linter.all false
set_option maxRecDepth 100000
set_option maxHeartbeats 4000000
namespace Qd
open PySem PySem.Spec PyProof.Rows L2
/-! ### evaluation of the further meanings -/
section
variable {env env1 : Qd.Env} {L : List Int} {x y : D} {i j n m : Nat} {a b : DE} {r r2 : DA} {f : DF} {α β : Type} {c d : Str} {ns : List Str} {xs : List D} {s1 s2 : DS}
@[simp] theorem Res.bind_exc {k : α → List Int → Res β} : (Res.exc c ns xs L : Res α).bind k = .exc c ns xs L := (rfl)
@[simp] theorem Res.bindF_exc {k : D → List Int → Res β} : (Res.exc c ns xs L : Res D).bindF k = .exc c ns xs L := (rfl)
@[simp] theorem Res.then_exc {k : α → List Int → SRes} : (Res.exc c ns xs L : Res α).then env k = .exc c ns xs env L := (rfl)
@[simp] theorem Res.thenF_exc {k : D → List Int → SRes} : (Res.exc c ns xs L : Res D).thenF env k = .exc c ns xs env L := (rfl)
theorem callK_plain : dCallK n f n 0 (idS n) [] r dNil = dCall n f r := by
  funext env L
  show (r env L).bind _ = (r env L).bind _
  congr 1
  funext xs L1
  rw [dNil_ev, Res.bind_ok]
  unfold dVals
  by_cases h : xs.length = n
  · subst h
    simp [arr_id]
  · simp [h]
theorem methK_plain {o : DE} : dMethK c d n f n 0 (idS n) [] o r dNil = dMeth c d n f o r := by
  funext env L
  show (o env L).bindF _ = (o env L).bindF _
  congr 1
  funext x L0
  cases x with
  | obj fl c' ns ys =>
    show (if _ then _ else _) = if _ then _ else _
    split
    · show (r env L0).bind _ = (r env L0).bind _
      congr 1
      funext xs L1
      rw [dNil_ev, Res.bind_ok]
      unfold dVals
      by_cases h : xs.length + 1 = n
      · subst h
        have e := arr_id (ms := []) (zs := []) (xs := D.obj fl c' ns ys :: xs)
        rw [List.length_cons] at e
        simp [e]
      · simp [h]
    · rfl
  | _ => rfl
@[simp] theorem dRaise_ev : dRaise c ns r env L = (r env L).then env fun xs L1 => if decide (xs.length = ns.length) && okfs isFz xs then .exc c ns.reverse xs.reverse env L1 else .stuck := (rfl)
@[simp] theorem dRaise0_ev : dRaise0 c env L = .exc c [] [] env L := (rfl)
@[simp] theorem dAsgT_ev {is : List Nat} : dAsgT is a env L = (a env L).thenF env fun x L1 => match bindP (.tp is) x env with
  | some env1 => .nx env1 L1
  | none => .stuck := (rfl)
@[simp] theorem dParT_ev {is : List Nat} : dParT is r env L = (r env L).then env fun xs L1 => match bindN is xs env with
  | some env1 => .nx env1 L1
  | none => .stuck := (rfl)
@[simp] theorem dEnumA_ev : dEnumA r env L = (r env L).bind fun xs L1 => match xs with
  | [.lst f xs] => if isArg f && okfs isFz xs then .ok (enuD xs) L1 else .stuck
  | [.tup xs] => .ok (enuD xs) L1
  | _ => .stuck := (rfl)
@[simp] theorem dChain_ev {k : DCh} : dChain a k env L = (a env L).bindF fun x L1 => k x env L1 := (rfl)
@[simp] theorem dChL_ev {o : D → D → List Int → Res D} : dChL o b x env L = (b env L).bindF fun y L1 => o x y L1 := (rfl)
@[simp] theorem dChK_ev {o : D → D → List Int → Res D} {k : DCh} : dChK o b k x env L = (b env L).bindF fun y L1 => (o x y L1).bindF fun z L2 => match z with
  | .bl true => k y env L2
  | .bl false => .ok (.bl false) L2
  | _ => .stuck := (rfl)
@[simp] theorem setV_ev : setV i a y env L = (match env[i]? with
  | some (some (.lst .ow xs)) => (a env L).thenF env fun k L2 => match k with
    | .int k => (match ixN xs.length k with
      | some j => if okf isFz y && okfs isFz xs then .nx (env.set i (some (.lst .ow (xs.set j y)))) L2 else .stuck
      | none => .stuck)
    | _ => .stuck
  | _ => .stuck) := (rfl)
@[simp] theorem dSetTwo_ev : dSetTwo i a b r env L = (dApp tupD r env L).thenF env fun t L1 => match t with
  | .tup [u, v] => dSeq (setV i a u) (setV i b v) env L1
  | _ => .stuck := (rfl)
@[simp] theorem dExF_ev {cs : List Str} {g : Str} : dExF i cs g env L = (match env[i]? with
  | some (some (.obj .kz c ns xs)) => if cs.contains c then (match lkN g ns xs with
    | some x => .ok x L
    | none => .stuck) else .stuck
  | _ => .stuck) := (rfl)
@[simp] theorem dTry_nx {hs : List Hd} {L1 : List Int} (h : s1 env L = .nx env1 L1) : dTry s1 hs env L = .nx env1 L1 := by
  unfold dTry; rw [h]
@[simp] theorem dTry_ret {hs : List Hd} {L1 : List Int} (h : s1 env L = .ret x L1) : dTry s1 hs env L = .ret x L1 := by
  unfold dTry; rw [h]
theorem dTry_exc {hs : List Hd} {L1 : List Int} (h : s1 env L = .exc c ns xs env1 L1) : dTry s1 hs env L = dHand c ns xs hs env1 L1 := by
  unfold dTry; rw [h]
end
end Qd

set_option Elab.async false
set_option linter.all false
set_option maxRecDepth 100000
set_option maxHeartbeats 4000000
namespace Pk
open PySem PySem.Spec PyProof.Rows L2 Qd
def l_p_law_stream_1 : DS := (dIfS (dTst (dBin gtD (dVar 3) (dC (.int 0)))) (dSeq (dAppend 1 (dBin modD (dApp intD (dCons (dVar 3) dNil)) (dC (.int 30))))
    (dSet 3 (dBin fdivD (dVar 3) (dC (.int 30))))) dNext)
def l_p_law_stream_2 : DS := (dSeq (dSet 5 (dBin modD (dApp intD (dCons (dBin addD (dBin addD (dBin addD (dBin mulD (dVar 5) (dVar 5)) (dBin mulD (dVar 4) (dC (.int 104729)))) (dBin mulD (dVar 2) (dC (.int 31)))) (dC (.int 11))) dNil)) (dC (.int 2147483587))))
    (dAppend 1 (dBin fdivD (dVar 5) (dC (.int 64)))))
def l_p_law_stream_3 : DS := (dSeq (dSet 3 (dApp intD (dCons (dBin ixD (dVar 0) (dVar 2)) dNil)))
    (dSeq (dIfS (dTst (dBin ltD (dVar 3) (dC (.int 0)))) (dSet 3 (dBin subD (dC (.int 5)) (dBin mulD (dC (.int 3)) (dVar 3)))) dNext)
    (dIfS (dTst (dBin geD (dVar 3) (dBin powD (dC (.int 10)) (dC (.int 18))))) (dFor (.nm 4) (dRng1 (dCons (dC (.int 48)) dNil)) l_p_law_stream_1) (dSeq (dSet 5 (dBin modD (dApp intD (dCons (dBin addD (dBin addD (dBin mulD (dVar 3) (dC (.int 16807))) (dBin mulD (dVar 2) (dC (.int 7919)))) (dC (.int 3))) dNil)) (dC (.int 2147483629))))
    (dFor (.nm 4) (dRng1 (dCons (dC (.int 7)) dNil)) l_p_law_stream_2)))))
def b_p_law_stream : DS := (dSeq (dSetO 1 (dApp lstD dNil))
    (dSeq (dFor (.nm 2) (dRng1 (dCons (dApp min2D (dCons (dApp lenD (dCons (dVar 0) dNil)) (dCons (dC (.int 63)) dNil))) dNil)) l_p_law_stream_3)
    (dSeq (dRevF 1)
    (dRetMv 1))))
def d_p_law_stream : DF := dBody 1 6 b_p_law_stream
def b_p_law_next : DS := (dSeq (dIfS (dTst (dBin eqD (dApp lenD (dCons (dVar 0) dNil)) (dC (.int 0)))) (dRet (dC (.int 0))) dNext)
    (dRet (dBin modD (dApp intD (dCons (dPop 0) dNil)) (dVar 1))))
def d_p_law_next : DF := dBody 2 2 b_p_law_next
def c_p_law_bt_great_1 : DE := (dCall 2 d_p_law_next (dCons (dVar 0) (dCons (dC (.int 30)) dNil)))
def c_p_law_bt_great_2 : DE := (dCall 2 d_p_law_next (dCons (dVar 0) (dCons (dC (.int 30)) dNil)))
def c_p_law_bt_great_3 : DE := (dBin subD (dBin addD (dBin ixD (dVar 3) (dVar 6)) (dBin ixD (dVar 4) (dVar 7))) (dBin mulD (dBin mulD (dC (.int 2)) (dVar 6)) (dVar 7)))
def l_p_law_bt_great_1 : DS := (dAppendO 5 (dLc [7] (.nm 7) (dRng1 (dCons (dVar 2) dNil)) dYes c_p_law_bt_great_3))
def b_p_law_bt_great : DS := (dSeq (dSet 1 (dBin subD (dC (.int 30)) (dCall 2 d_p_law_next (dCons (dVar 0) (dCons (dC (.int 4)) dNil)))))
    (dSeq (dSet 2 (dBin subD (dC (.int 30)) (dCall 2 d_p_law_next (dCons (dVar 0) (dCons (dC (.int 4)) dNil)))))
    (dSeq (dSet 3 (dLc [6] (.nm 6) (dRng1 (dCons (dVar 1) dNil)) dYes c_p_law_bt_great_1))
    (dSeq (dSet 4 (dLc [7] (.nm 7) (dRng1 (dCons (dVar 2) dNil)) dYes c_p_law_bt_great_2))
    (dSeq (dSetO 5 (dApp lstD dNil))
    (dSeq (dFor (.nm 6) (dRng1 (dCons (dVar 1) dNil)) l_p_law_bt_great_1)
    (dRetMv 5)))))))
def d_p_law_bt_great : DF := dBody 1 8 b_p_law_bt_great
def b_is_whole : DS := (dRet (dAnd (dUn (isiT ["int"]) (dVar 0)) (dNot (dUn (isiT ["bool"]) (dVar 0)))))
def d_is_whole : DF := dBody 1 1 b_is_whole
def b_is_amount : DS := (dRet (dOr (dBin isD (dVar 0) (dC .non)) (dCall 1 d_is_whole (dCons (dVar 0) dNil))))
def d_is_amount : DF := dBody 1 1 b_is_amount
def l_p_tables_rows_1 : DS := (dIfS (dTOr (dTNot (dTst (dUn (isiT ["list", "tuple"]) (dVar 1)))) (dTOr (dTst (dBin eqD (dApp lenD (dCons (dVar 1) dNil)) (dC (.int 0)))) (dTst (dBin neD (dApp lenD (dCons (dVar 1) dNil)) (dApp lenD (dCons (dBin ixD (dVar 0) (dC (.int 0))) dNil)))))) (dRaise "BadRow" ["place"] (dCons (dUn negD (dC (.int 1))) dNil)) dNext)
def l_p_tables_rows_2 : DS := (dSeq (dIfS (dTNot (dTst (dCall 1 d_is_amount (dCons (dVar 3) dNil)))) (dRaise "BadRow" ["place"] (dCons (dVar 2) dNil)) dNext)
    (dSet 2 (dBin addD (dVar 2) (dC (.int 1)))))
def l_p_tables_rows_3 : DS := (dFor (.nm 3) (dIt (dVar 1)) l_p_tables_rows_2)
def c_p_tables_rows_1 : DE := (dApp tupleD (dCons (dVar 1) dNil))
def b_p_tables_rows : DS := (dSeq (dIfS (dTOr (dTNot (dTst (dUn (isiT ["list", "tuple"]) (dVar 0)))) (dTst (dBin eqD (dApp lenD (dCons (dVar 0) dNil)) (dC (.int 0))))) (dRaise "BadRow" ["place"] (dCons (dUn negD (dC (.int 1))) dNil)) dNext)
    (dSeq (dFor (.nm 1) (dIt (dVar 0)) l_p_tables_rows_1)
    (dSeq (dSet 2 (dC (.int 0)))
    (dSeq (dFor (.nm 1) (dIt (dVar 0)) l_p_tables_rows_3)
    (dRet (dApp tupleD (dCons (dLc [1] (.nm 1) (dIt (dVar 0)) dYes c_p_tables_rows_1) dNil)))))))
def d_p_tables_rows : DF := dBody 1 4 b_p_tables_rows
def b_Table_init : DS := (dSeq (dSetF ["HourTable", "Table"] 0 "rows" (dCall 1 d_p_tables_rows (dCons (dVar 1) dNil)))
    (dSetF ["Body", "Round", "Table"] 0 "states" (dApp lenD (dCons (dBin ixD (dUn (fldD ["HourTable", "Table"] "rows") (dVar 0)) (dC (.int 0))) dNil))))
def d_Table_init : DF := dInit 1 1 "Table" b_Table_init
def b_below : DS := (dSeq (dIfS (dTst (dBin isD (dVar 0) (dC .non))) (dRet (dC (.bl false))) dNext)
    (dRet (dOr (dBin isD (dVar 1) (dC .non)) (dBin ltD (dVar 0) (dVar 1)))))
def d_below : DF := dBody 2 2 b_below
def b_plus : DS := (dSeq (dIfS (dTOr (dTst (dBin isD (dVar 0) (dC .non))) (dTst (dBin isD (dVar 1) (dC .non)))) (dRet (dC .non)) dNext)
    (dRet (dBin addD (dVar 0) (dVar 1))))
def d_plus : DF := dBody 2 2 b_plus
def l_p_bent_states_1 : DS := (dIfS (dTst (dCall 2 d_below (dCons (dCall 2 d_plus (dCons (dBin ixD (dVar 0) (dVar 3)) (dCons (dBin ixD (dVar 1) (dVar 2)) dNil))) (dCons (dCall 2 d_plus (dCons (dBin ixD (dVar 0) (dVar 2)) (dCons (dBin ixD (dVar 1) (dVar 3)) dNil))) dNil)))) (dRet (dApp tupD (dCons (dVar 2) (dCons (dVar 3) dNil)))) dNext)
def l_p_bent_states_2 : DS := (dFor (.nm 3) (dRng2 (dCons (dBin addD (dVar 2) (dC (.int 1))) (dCons (dApp lenD (dCons (dVar 0) dNil)) dNil))) l_p_bent_states_1)
def b_p_bent_states : DS := (dSeq (dFor (.nm 2) (dRng1 (dCons (dApp lenD (dCons (dVar 0) dNil)) dNil)) l_p_bent_states_2)
    (dRet (dApp tupD dNil)))
def d_p_bent_states : DF := dBody 2 4 b_p_bent_states
def l_bent_break_1 : DS := (dSeq (dSet 3 (dCall 2 d_p_bent_states (dCons (dBin ixD (dUn (fldD ["HourTable", "Table"] "rows") (dVar 0)) (dVar 1)) (dCons (dBin ixD (dUn (fldD ["HourTable", "Table"] "rows") (dVar 0)) (dVar 2)) dNil))))
    (dIfS (dTst (dBin gtD (dApp lenD (dCons (dVar 3) dNil)) (dC (.int 0)))) (dRet (dBin addD (dApp tupD (dCons (dVar 1) (dCons (dVar 2) dNil))) (dVar 3))) dNext))
def l_bent_break_2 : DS := (dFor (.nm 2) (dRng2 (dCons (dBin addD (dVar 1) (dC (.int 1))) (dCons (dApp lenD (dCons (dUn (fldD ["HourTable", "Table"] "rows") (dVar 0)) dNil)) dNil))) l_bent_break_1)
def b_bent_break : DS := (dSeq (dFor (.nm 1) (dRng1 (dCons (dApp lenD (dCons (dUn (fldD ["HourTable", "Table"] "rows") (dVar 0)) dNil)) dNil)) l_bent_break_2)
    (dRet (dApp tupD dNil)))
def d_bent_break : DF := dBody 1 4 b_bent_break
def l_p_bent_out_1 : DS := (dIfS (dTst (dBin isNotD (dBin ixD (dVar 0) (dVar 5)) (dC .non))) (dSet 3 (dApp max2D (dCons (dVar 3) (dCons (dBin subD (dBin addD (dVar 4) (dC (.int 1))) (dBin ixD (dVar 0) (dVar 5))) dNil)))) dNext)
def b_p_bent_out : DS := (dSeq (dSet 3 (dC (.int 0)))
    (dSeq (dFor (.tp [4, 5]) (dZip (dCons (dVar 1) (dCons (dVar 2) dNil))) l_p_bent_out_1)
    (dRetMv 3)))
def d_p_bent_out : DF := dBody 3 6 b_p_bent_out
def l_Unbent_init_1 : DS := (dIfS (dTNot (dTst (dCall 1 d_is_whole (dCons (dVar 4) dNil)))) (dRaise "BadPaper" ["name"] (dCons (dC (.str "numbers")) dNil)) dNext)
def b_Unbent_init : DS := (dSeq (dIfS (dTNot (dTst (dUn (isiT ["list", "tuple"]) (dVar 1)))) (dRaise "BadPaper" ["name"] (dCons (dC (.str "numbers")) dNil)) dNext)
    (dSeq (dFor (.nm 4) (dIt (dVar 1)) l_Unbent_init_1)
    (dSeq (dIfS (dTNot (dTst (dCall 1 d_is_whole (dCons (dVar 2) dNil)))) (dRaise "BadPaper" ["name"] (dCons (dC (.str "lower")) dNil)) dNext)
    (dSeq (dIfS (dTNot (dTst (dCall 1 d_is_whole (dCons (dVar 3) dNil)))) (dRaise "BadPaper" ["name"] (dCons (dC (.str "upper")) dNil)) dNext)
    (dSeq (dSetF ["Unbent", "Levels"] 0 "numbers" (dApp tupleD (dCons (dVar 1) dNil)))
    (dSeq (dSetF ["Unbent"] 0 "lower" (dVar 2))
    (dSetF ["Unbent"] 0 "upper" (dVar 3))))))))
def d_Unbent_init : DF := dInit 3 4 "Unbent" b_Unbent_init
def c_unbent_1 : DE := (dCall 3 d_p_bent_out (dCons (dVar 10) (dCons (dApp tupD (dCons (dBin addD (dBin ixD (dVar 7) (dVar 4)) (dVar 8)) (dCons (dBin ixD (dVar 6) (dVar 5)) dNil))) (dCons (dApp tupD (dCons (dVar 4) (dCons (dVar 5) dNil))) dNil))))
def b_unbent : DS := (dSeq (dSet 1 (dCall 1 d_bent_break (dCons (dVar 0) dNil)))
    (dSeq (dIfS (dTst (dBin eqD (dApp lenD (dCons (dVar 1) dNil)) (dC (.int 0)))) (dRet (dC .non)) dNext)
    (dSeq (dAsgT [2, 3, 4, 5] (dVar 1))
    (dSeq (dAsgT [6, 7] (dApp tupD (dCons (dBin ixD (dUn (fldD ["HourTable", "Table"] "rows") (dVar 0)) (dVar 2)) (dCons (dBin ixD (dUn (fldD ["HourTable", "Table"] "rows") (dVar 0)) (dVar 3)) dNil))))
    (dSeq (dSet 8 (dC (.int 0)))
    (dSeq (dIfS (dTst (dBin isNotD (dBin ixD (dVar 6) (dVar 4)) (dC .non))) (dSet 8 (dBin subD (dBin ixD (dVar 6) (dVar 4)) (dBin ixD (dVar 7) (dVar 4)))) (dIfS (dTst (dBin isNotD (dBin ixD (dVar 7) (dVar 5)) (dC .non))) (dSet 8 (dBin subD (dBin ixD (dVar 6) (dVar 5)) (dBin ixD (dVar 7) (dVar 5)))) dNext))
    (dSeq (dSetO 9 (dLc [10] (.nm 10) (dIt (dUn (fldD ["HourTable", "Table"] "rows") (dVar 0))) dYes c_unbent_1))
    (dSeq (dSetTwo 9 (dVar 2) (dVar 3) (dCons (dC (.int 0)) (dCons (dVar 8) dNil)))
    (dRet (dCallK 3 d_Unbent_init 3 0 (idS 3) [] (dCons (dVar 9) (dCons (dVar 4) (dCons (dVar 5) dNil))) dNil))))))))))
def d_unbent : DF := dBody 1 11 b_unbent
def b_p_law_whole : DS := (dRet (dAnd (dUn (isiT ["int"]) (dVar 0)) (dNot (dUn (isiT ["bool"]) (dVar 0)))))
def d_p_law_whole : DF := dBody 1 1 b_p_law_whole
def b_p_law_below : DS := (dSeq (dIfS (dTst (dBin isD (dVar 0) (dC .non))) (dRet (dC (.bl false))) dNext)
    (dRet (dOr (dBin isD (dVar 1) (dC .non)) (dBin ltD (dVar 0) (dVar 1)))))
def d_p_law_below : DF := dBody 2 2 b_p_law_below
def b_p_law_lesser : DS := (dSeq (dIfS (dTst (dCall 2 d_p_law_below (dCons (dVar 1) (dCons (dVar 0) dNil)))) (dRetMv 1) dNext)
    (dRetMv 0))
def d_p_law_lesser : DF := dBody 2 2 b_p_law_lesser
def b_p_law_plus : DS := (dSeq (dIfS (dTOr (dTst (dBin isD (dVar 0) (dC .non))) (dTst (dBin isD (dVar 1) (dC .non)))) (dRet (dC .non)) dNext)
    (dRet (dBin addD (dVar 0) (dVar 1))))
def d_p_law_plus : DF := dBody 2 2 b_p_law_plus
def l_p_law_ub_bests_1 : DS := (dSet 3 (dCall 2 d_p_law_lesser (dCons (dVar 3) (dCons (dCall 2 d_p_law_plus (dCons (dBin ixD (dBin ixD (dVar 0) (dVar 4)) (dVar 2)) (dCons (dBin ixD (dVar 1) (dVar 4)) dNil))) dNil))))
def c_p_law_ub_bests_1 : DE := (dVar 4)
def t_p_law_ub_bests_1 : DT := (dTst (dBin eqD (dCall 2 d_p_law_plus (dCons (dBin ixD (dBin ixD (dVar 0) (dVar 4)) (dVar 2)) (dCons (dBin ixD (dVar 1) (dVar 4)) dNil))) (dVar 3)))
def b_p_law_ub_bests : DS := (dSeq (dSet 3 (dC .non))
    (dSeq (dFor (.nm 4) (dRng1 (dCons (dApp lenD (dCons (dVar 0) dNil)) dNil)) l_p_law_ub_bests_1)
    (dSeq (dIfS (dTst (dBin isD (dVar 3) (dC .non))) (dRet (dApp lstD dNil)) dNext)
    (dRet (dLc [4] (.nm 4) (dRng1 (dCons (dApp lenD (dCons (dVar 0) dNil)) dNil)) t_p_law_ub_bests_1 c_p_law_ub_bests_1)))))
def d_p_law_ub_bests : DF := dBody 3 5 b_p_law_ub_bests
def l_p_law_ub_shows_1 : DS := (dIfS (dTAnd (dTst (dBin gtD (dVar 6) (dVar 7))) (dTOr (dTst (dBin (inFD true) (dVar 7) (dVar 4))) (dTst (dBin (inFD true) (dVar 6) (dVar 5))))) (dRet (dC (.bl true))) dNext)
def l_p_law_ub_shows_2 : DS := (dFor (.nm 7) (dIt (dVar 5)) l_p_law_ub_shows_1)
def b_p_law_ub_shows : DS := (dSeq (dIfS (dTOr (dTst (dBin neD (dApp lenD (dCons (dVar 1) dNil)) (dApp lenD (dCons (dVar 0) dNil)))) (dTOr (dTst (dBin ltD (dVar 2) (dC (.int 0)))) (dTOr (dTst (dBin leD (dVar 3) (dVar 2))) (dTst (dBin geD (dVar 3) (dApp lenD (dCons (dBin ixD (dVar 0) (dC (.int 0))) dNil))))))) (dRet (dC (.bl false))) dNext)
    (dSeq (dSet 4 (dCall 3 d_p_law_ub_bests (dCons (dVar 0) (dCons (dVar 1) (dCons (dVar 2) dNil)))))
    (dSeq (dSet 5 (dCall 3 d_p_law_ub_bests (dCons (dVar 0) (dCons (dVar 1) (dCons (dVar 3) dNil)))))
    (dSeq (dFor (.nm 6) (dIt (dVar 4)) l_p_law_ub_shows_2)
    (dRet (dC (.bl false)))))))
def d_p_law_ub_shows : DF := dBody 4 8 b_p_law_ub_shows
def b_at_most : DS := (dSeq (dIfS (dTst (dBin isD (dVar 1) (dC .non))) (dRet (dC (.bl true))) dNext)
    (dRet (dAnd (dBin isNotD (dVar 0) (dC .non)) (dBin leD (dVar 0) (dVar 1)))))
def d_at_most : DF := dBody 2 2 b_at_most
def b_lesser : DS := (dRet (dIf (dTst (dCall 2 d_at_most (dCons (dVar 0) (dCons (dVar 1) dNil)))) (dVar 0) (dVar 1)))
def d_lesser : DF := dBody 2 2 b_lesser
def l_least_of_1 : DS := (dSet 1 (dCall 2 d_lesser (dCons (dVar 1) (dCons (dVar 2) dNil))))
def b_least_of : DS := (dSeq (dSet 1 (dC .non))
    (dSeq (dFor (.nm 2) (dIt (dVar 0)) l_least_of_1)
    (dRetMv 1)))
def d_least_of : DF := dBody 1 3 b_least_of
def c_p_bent_bests_1 : DE := (dCall 2 d_plus (dCons (dBin ixD (dVar 5) (dVar 2)) (dCons (dVar 6) dNil)))
def c_p_bent_bests_2 : DE := (dVar 7)
def t_p_bent_bests_1 : DT := (dTst (dBin eqD (dVar 8) (dVar 4)))
def b_p_bent_bests : DS := (dSeq (dSetO 3 (dLc [5, 6] (.tp [5, 6]) (dZip (dCons (dUn (fldD ["HourTable", "Table"] "rows") (dVar 0)) (dCons (dVar 1) dNil))) dYes c_p_bent_bests_1))
    (dSeq (dSet 4 (dCall 1 d_least_of (dCons (dVar 3) dNil)))
    (dSeq (dIfS (dTst (dBin isD (dVar 4) (dC .non))) (dRet (dApp tupD dNil)) dNext)
    (dFrz 3 (dRet (dApp tupleD (dCons (dLc [7, 8] (.tp [7, 8]) (dEnumA (dCons (dVar 3) dNil)) t_p_bent_bests_1 c_p_bent_bests_2) dNil)))))))
def d_p_bent_bests : DF := dBody 3 9 b_p_bent_bests
def l_shows_unbent_1 : DS := (dIfS (dTAnd (dTst (dBin gtD (dVar 4) (dVar 5))) (dTOr (dTst (dBin (inFD true) (dVar 5) (dVar 2))) (dTst (dBin (inFD true) (dVar 4) (dVar 3))))) (dRet (dC (.bl true))) dNext)
def l_shows_unbent_2 : DS := (dFor (.nm 5) (dIt (dVar 3)) l_shows_unbent_1)
def b_shows_unbent : DS := (dSeq (dIfS (dTOr (dTNot (dTst (dUn (isiC pkClasses "Unbent") (dVar 1)))) (dTst (dBin neD (dApp lenD (dCons (dUn (fldD ["Unbent", "Levels"] "numbers") (dVar 1)) dNil)) (dApp lenD (dCons (dUn (fldD ["HourTable", "Table"] "rows") (dVar 0)) dNil))))) (dRet (dC (.bl false))) dNext)
    (dSeq (dIfS (dTNot (dTst (dChain (dC (.int 0)) (dChK leD (dUn (fldD ["Unbent"] "lower") (dVar 1)) (dChK ltD (dUn (fldD ["Unbent"] "upper") (dVar 1)) (dChL ltD (dUn (fldD ["Body", "Round", "Table"] "states") (dVar 0)))))))) (dRet (dC (.bl false))) dNext)
    (dSeq (dSet 2 (dCall 3 d_p_bent_bests (dCons (dVar 0) (dCons (dUn (fldD ["Unbent", "Levels"] "numbers") (dVar 1)) (dCons (dUn (fldD ["Unbent"] "lower") (dVar 1)) dNil)))))
    (dSeq (dSet 3 (dCall 3 d_p_bent_bests (dCons (dVar 0) (dCons (dUn (fldD ["Unbent", "Levels"] "numbers") (dVar 1)) (dCons (dUn (fldD ["Unbent"] "upper") (dVar 1)) dNil)))))
    (dSeq (dFor (.nm 4) (dIt (dVar 2)) l_shows_unbent_2)
    (dRet (dC (.bl false))))))))
def d_shows_unbent : DF := dBody 2 6 b_shows_unbent
def l_p_law_ub_made_1 : DS := (dIfS (dTNot (dTst (dCall 1 d_p_law_whole (dCons (dVar 4) dNil)))) (dRet (dC (.bl false))) dNext)
def b_p_law_ub_made : DS := (dSeq (dSet 3 (dCall 1 d_unbent (dCons (dVar 0) dNil)))
    (dSeq (dIfS (dTst (dBin eqD (dApp lenD (dCons (dVar 2) dNil)) (dC (.int 0)))) (dRet (dBin isD (dVar 3) (dC .non))) dNext)
    (dSeq (dIfS (dTOr (dTNot (dTst (dUn (isiC pkClasses "Unbent") (dVar 3)))) (dTNot (dTst (dUn (isiT ["tuple"]) (dUn (fldD ["Unbent", "Levels"] "numbers") (dVar 3)))))) (dRet (dC (.bl false))) dNext)
    (dSeq (dFor (.nm 4) (dIt (dBin addD (dApp listD (dCons (dUn (fldD ["Unbent", "Levels"] "numbers") (dVar 3)) dNil)) (dApp lstD (dCons (dUn (fldD ["Unbent"] "lower") (dVar 3)) (dCons (dUn (fldD ["Unbent"] "upper") (dVar 3)) dNil))))) l_p_law_ub_made_1)
    (dSeq (dIfS (dTNot (dTst (dCall 4 d_p_law_ub_shows (dCons (dVar 1) (dCons (dApp listD (dCons (dUn (fldD ["Unbent", "Levels"] "numbers") (dVar 3)) dNil)) (dCons (dUn (fldD ["Unbent"] "lower") (dVar 3)) (dCons (dUn (fldD ["Unbent"] "upper") (dVar 3)) dNil))))))) (dRet (dC (.bl false))) dNext)
    (dRet (dBin isD (dCall 2 d_shows_unbent (dCons (dVar 0) (dCons (dVar 3) dNil))) (dC (.bl true)))))))))
def d_p_law_ub_made : DF := dBody 3 5 b_p_law_ub_made
def c_p_law_ub_own_1 : DE := (dBin powD (dC (.int 10)) (dC (.int 16)))
def b_p_law_ub_own : DS := (dSeq (dSet 2 (dBin ixD (dVar 1) (dC (.int 0))))
    (dSeq (dSet 3 (dBin ixD (dVar 1) (dC (.int 1))))
    (dSeq (dSet 4 (dBin ixD (dVar 1) (dC (.int 2))))
    (dSeq (dSet 5 (dBin ixD (dVar 1) (dC (.int 3))))
    (dSeq (dSet 6 (dC (.int 0)))
    (dSeq (dIfS (dTst (dBin isNotD (dBin ixD (dBin ixD (dVar 0) (dVar 2)) (dVar 4)) (dC .non))) (dSet 6 (dBin subD (dBin ixD (dBin ixD (dVar 0) (dVar 2)) (dVar 4)) (dBin ixD (dBin ixD (dVar 0) (dVar 3)) (dVar 4)))) (dIfS (dTst (dBin isNotD (dBin ixD (dBin ixD (dVar 0) (dVar 3)) (dVar 5)) (dC .non))) (dSet 6 (dBin subD (dBin ixD (dBin ixD (dVar 0) (dVar 2)) (dVar 5)) (dBin ixD (dBin ixD (dVar 0) (dVar 3)) (dVar 5)))) dNext))
    (dSeq (dSetO 7 (dLc [8] (.nm 8) (dIt (dVar 0)) dYes c_p_law_ub_own_1))
    (dSeq (dSetIx 7 (dVar 2) (dC (.int 7)))
    (dSeq (dSetIx 7 (dVar 3) (dBin addD (dVar 6) (dC (.int 7))))
    (dFrz 7 (dRet (dApp lstD (dCons (dVar 7) (dCons (dVar 4) (dCons (dVar 5) dNil)))))))))))))))
def d_p_law_ub_own : DF := dBody 2 9 b_p_law_ub_own
def b_p_law_ub_judged : DS := (dSeq (dSet 5 (dCall 4 d_p_law_ub_shows (dCons (dVar 1) (dCons (dVar 2) (dCons (dVar 3) (dCons (dVar 4) dNil))))))
    (dSeq (dSet 6 (dCallK 3 d_Unbent_init 3 0 (idS 3) [] (dCons (dApp listD (dCons (dVar 2) dNil)) (dCons (dVar 3) (dCons (dVar 4) dNil))) dNil))
    (dSeq (dIfS (dTst (dVar 5)) (dRet (dBin isD (dCall 2 d_shows_unbent (dCons (dVar 0) (dCons (dVar 6) dNil))) (dC (.bl true)))) dNext)
    (dRet (dBin isD (dCall 2 d_shows_unbent (dCons (dVar 0) (dCons (dVar 6) dNil))) (dC (.bl false)))))))
def d_p_law_ub_judged : DF := dBody 5 7 b_p_law_ub_judged
def l_p_law_ub_spoilt_1 : DS := (dIfS (dTNot (dTst (dCall 5 d_p_law_ub_judged (dCons (dVar 0) (dCons (dVar 1) (dCons (dBin ixD (dVar 10) (dC (.int 0))) (dCons (dBin ixD (dVar 10) (dC (.int 1))) (dCons (dBin ixD (dVar 10) (dC (.int 2))) dNil)))))))) (dRet (dC (.bl false))) dNext)
def l_p_law_ub_spoilt_2 : DS := (dIfS (dTst (dBin isNotD (dCall 2 d_shows_unbent (dCons (dVar 0) (dCons (dVar 11) dNil))) (dC (.bl false)))) (dRet (dC (.bl false))) dNext)
def b_p_law_ub_spoilt : DS := (dSeq (dSet 4 (dBin ixD (dVar 2) (dC (.int 0))))
    (dSeq (dSet 5 (dBin ixD (dVar 2) (dC (.int 1))))
    (dSeq (dSet 6 (dBin ixD (dVar 2) (dC (.int 2))))
    (dSeq (dSet 7 (dCall 2 d_p_law_next (dCons (dVar 3) (dCons (dApp lenD (dCons (dVar 1) dNil)) dNil))))
    (dSeq (dSetO 8 (dApp listD (dCons (dVar 4) dNil)))
    (dSeq (dSetIx 8 (dVar 7) (dBin addD (dBin ixD (dVar 8) (dVar 7)) (dBin ixD (dApp lstD (dCons (dC (.int 1)) (dCons (dUn negD (dC (.int 1))) (dCons (dBin powD (dC (.int 10)) (dC (.int 17))) (dCons (dUn negD (dBin powD (dC (.int 10)) (dC (.int 17)))) dNil))))) (dCall 2 d_p_law_next (dCons (dVar 3) (dCons (dC (.int 4)) dNil))))))
    (dSeq (dSetO 9 (dApp lstD (dCons (dApp lstD (dCons (dVar 4) (dCons (dVar 6) (dCons (dVar 5) dNil)))) (dCons (dApp lstD (dCons (dVar 4) (dCons (dVar 5) (dCons (dVar 5) dNil)))) (dCons (dApp lstD (dCons (dVar 4) (dCons (dUn negD (dC (.int 1))) (dCons (dVar 6) dNil)))) (dCons (dApp lstD (dCons (dVar 4) (dCons (dVar 5) (dCons (dApp lenD (dCons (dBin ixD (dVar 1) (dC (.int 0))) dNil)) dNil)))) dNil))))))
    (dSeq (dAppend 9 (dApp lstD (dCons (dBin addD (dVar 4) (dApp lstD (dCons (dC (.int 0)) dNil))) (dCons (dVar 5) (dCons (dVar 6) dNil)))))
    (dSeq (dAppend 9 (dApp lstD (dCons (dSl (dVar 4) none (some (dBin subD (dApp lenD (dCons (dVar 4) dNil)) (dC (.int 1))))) (dCons (dVar 5) (dCons (dVar 6) dNil)))))
    (dSeq (dAppend 9 (dApp lstD (dCons (dApp lstD dNil) (dCons (dVar 5) (dCons (dVar 6) dNil)))))
    (dSeq (dFrz 8 (dAppend 9 (dApp lstD (dCons (dVar 8) (dCons (dVar 5) (dCons (dVar 6) dNil))))))
    (dSeq (dFrz 9 (dFor (.nm 10) (dIt (dVar 9)) l_p_law_ub_spoilt_1))
    (dSeq (dFor (.nm 11) (dIt (dApp lstD (dCons (dC .non) (dCons (dC (.bl true)) (dCons (dApp tupD (dCons (dApp tupleD (dCons (dVar 4) dNil)) (dCons (dVar 5) (dCons (dVar 6) dNil)))) (dCons (dApp lstD (dCons (dApp listD (dCons (dVar 4) dNil)) (dCons (dVar 5) (dCons (dVar 6) dNil)))) (dCons (dVar 0) dNil))))))) l_p_law_ub_spoilt_2)
    (dRet (dC (.bl true))))))))))))))))
def d_p_law_ub_spoilt : DF := dBody 4 12 b_p_law_ub_spoilt
def c_p_law_ub_great_1 : DE := (dApp listD (dCons (dVar 7) dNil))
def b_p_law_ub_great : DS := (dSeq (dSetO 1 (dCall 1 d_p_law_bt_great (dCons (dVar 0) dNil)))
    (dSeq (dSet 2 (dCall 2 d_p_law_next (dCons (dVar 0) (dCons (dC (.int 2)) dNil))))
    (dSeq (dSet 3 (dCall 2 d_p_law_next (dCons (dVar 0) (dCons (dBin subD (dApp lenD (dCons (dBin ixD (dVar 1) (dC (.int 0))) dNil)) (dC (.int 1))) dNil))))
    (dSeq (dSetIx2 1 (dVar 2) (dVar 3) (dBin addD (dBin ixD (dBin ixD (dVar 1) (dVar 2)) (dVar 3)) (dC (.int 3))))
    (dSeq (dSet 4 (dApp lstD (dCons (dVar 2) (dCons (dBin addD (dVar 2) (dC (.int 1))) (dCons (dVar 3) (dCons (dBin addD (dVar 3) (dC (.int 1))) dNil))))))
    (dSeq (dIfS (dTAnd (dTst (dBin gtD (dVar 2) (dC (.int 0)))) (dTst (dBin gtD (dVar 3) (dC (.int 0))))) (dSet 4 (dApp lstD (dCons (dBin subD (dVar 2) (dC (.int 1))) (dCons (dVar 2) (dCons (dBin subD (dVar 3) (dC (.int 1))) (dCons (dVar 3) dNil)))))) dNext)
    (dSeq (dFrz 1 (dSet 5 (dCallK 1 d_Table_init 1 0 (idS 1) [] (dCons (dLc [7] (.nm 7) (dIt (dVar 1)) dYes c_p_law_ub_great_1) dNil) dNil)))
    (dSeq (dIfS (dTNot (dTst (dCall 3 d_p_law_ub_made (dCons (dVar 5) (dCons (dVar 1) (dCons (dVar 4) dNil)))))) (dRet (dC (.bl false))) dNext)
    (dSeq (dSet 6 (dCall 2 d_p_law_ub_own (dCons (dVar 1) (dCons (dVar 4) dNil))))
    (dRet (dAnd (dCall 5 d_p_law_ub_judged (dCons (dVar 5) (dCons (dVar 1) (dCons (dBin ixD (dVar 6) (dC (.int 0))) (dCons (dBin ixD (dVar 6) (dC (.int 1))) (dCons (dBin ixD (dVar 6) (dC (.int 2))) dNil)))))) (dCall 4 d_p_law_ub_spoilt (dCons (dVar 5) (dCons (dVar 1) (dCons (dVar 6) (dCons (dVar 0) dNil))))))))))))))))
def d_p_law_ub_great : DF := dBody 1 8 b_p_law_ub_great
def l_p_law_bt_free_1 : DS := (dSeq (dSet 8 (dCall 2 d_p_law_next (dCons (dVar 0) (dCons (dC (.int 8)) dNil))))
    (dSeq (dSet 9 (dCall 2 d_p_law_next (dCons (dVar 0) (dCons (dC (.int 10)) dNil))))
    (dIfS (dTst (dBin eqD (dVar 8) (dC (.int 7)))) (dAppend 6 (dC .non)) (dAppend 6 (dBin mulD (dVar 9) (dVar 3))))))
def l_p_law_bt_free_2 : DS := (dSeq (dSetO 6 (dApp lstD dNil))
    (dSeq (dFor (.nm 7) (dRng1 (dCons (dVar 2) dNil)) l_p_law_bt_free_1)
    (dAppendMv 4 6)))
def b_p_law_bt_free : DS := (dSeq (dSetO 4 (dApp lstD dNil))
    (dSeq (dFor (.nm 5) (dRng1 (dCons (dVar 1) dNil)) l_p_law_bt_free_2)
    (dRetMv 4)))
def d_p_law_bt_free : DF := dBody 4 10 b_p_law_bt_free
def l_p_law_bt_cut_1 : DS := (dSeq (dSet 11 (dBin ixD (dBin ixD (dVar 1) (dVar 8)) (dVar 10)))
    (dSeq (dIfS (dTAnd (dTst (dBin eqD (dVar 2) (dC (.int 3)))) (dTOr (dTst (dBin ltD (dBin subD (dVar 10) (dVar 8)) (dVar 3))) (dTst (dBin gtD (dBin subD (dVar 10) (dVar 8)) (dVar 4))))) (dSet 11 (dC .non)) dNext)
    (dSeq (dIfS (dTAnd (dTst (dBin eqD (dVar 2) (dC (.int 4)))) (dTst (dBin eqD (dVar 10) (dVar 5)))) (dSet 11 (dC .non)) dNext)
    (dSeq (dIfS (dTAnd (dTst (dBin eqD (dVar 2) (dC (.int 5)))) (dTst (dBin eqD (dVar 8) (dVar 6)))) (dSet 11 (dC .non)) dNext)
    (dAppend 9 (dVar 11))))))
def l_p_law_bt_cut_2 : DS := (dSeq (dSetO 9 (dApp lstD dNil))
    (dSeq (dFor (.nm 10) (dRng1 (dCons (dApp lenD (dCons (dBin ixD (dVar 1) (dC (.int 0))) dNil)) dNil)) l_p_law_bt_cut_1)
    (dAppendMv 7 9)))
def b_p_law_bt_cut : DS := (dSeq (dSet 2 (dCall 2 d_p_law_next (dCons (dVar 0) (dCons (dC (.int 6)) dNil))))
    (dSeq (dSet 3 (dBin subD (dC (.int 0)) (dCall 2 d_p_law_next (dCons (dVar 0) (dCons (dC (.int 4)) dNil)))))
    (dSeq (dSet 4 (dCall 2 d_p_law_next (dCons (dVar 0) (dCons (dC (.int 4)) dNil))))
    (dSeq (dSet 5 (dCall 2 d_p_law_next (dCons (dVar 0) (dCons (dApp lenD (dCons (dBin ixD (dVar 1) (dC (.int 0))) dNil)) dNil))))
    (dSeq (dSet 6 (dCall 2 d_p_law_next (dCons (dVar 0) (dCons (dApp lenD (dCons (dVar 1) dNil)) dNil))))
    (dSeq (dSetO 7 (dApp lstD dNil))
    (dSeq (dFor (.nm 8) (dRng1 (dCons (dApp lenD (dCons (dVar 1) dNil)) dNil)) l_p_law_bt_cut_2)
    (dRetMv 7))))))))
def d_p_law_bt_cut : DF := dBody 2 12 b_p_law_bt_cut
def c_p_law_bt_sums_1 : DE := (dC (.int 0))
def c_p_law_bt_sums_2 : DE := (dCall 2 d_p_law_next (dCons (dVar 0) (dCons (dC (.int 8)) dNil)))
def l_p_law_bt_sums_1 : DS := (dSeq (dAug 9 (fun i j => i + j) (dCall 2 d_p_law_next (dCons (dVar 0) (dCons (dC (.int 3)) dNil))))
    (dSeq (dSetIx 5 (dVar 11) (dBin addD (dBin ixD (dVar 5) (dVar 11)) (dVar 9)))
    (dAppend 10 (dBin mulD (dBin subD (dBin addD (dVar 8) (dBin ixD (dVar 6) (dVar 11))) (dBin ixD (dVar 5) (dVar 11))) (dVar 3)))))
def l_p_law_bt_sums_2 : DS := (dSeq (dSet 8 (dCall 2 d_p_law_next (dCons (dVar 0) (dCons (dC (.int 9)) dNil))))
    (dSeq (dSet 9 (dC (.int 0)))
    (dSeq (dSetO 10 (dApp lstD dNil))
    (dSeq (dFor (.nm 11) (dRng1 (dCons (dVar 2) dNil)) l_p_law_bt_sums_1)
    (dAppendMv 4 10)))))
def b_p_law_bt_sums : DS := (dSeq (dSetO 4 (dApp lstD dNil))
    (dSeq (dSetO 5 (dLc [11] (.nm 11) (dRng1 (dCons (dVar 2) dNil)) dYes c_p_law_bt_sums_1))
    (dSeq (dSetO 6 (dLc [11] (.nm 11) (dRng1 (dCons (dVar 2) dNil)) dYes c_p_law_bt_sums_2))
    (dSeq (dFor (.nm 7) (dRng1 (dCons (dVar 1) dNil)) l_p_law_bt_sums_2)
    (dRetMv 4)))))
def d_p_law_bt_sums : DF := dBody 4 12 b_p_law_bt_sums
def b_p_law_ub_rows : DS := (dSeq (dSet 3 (dCall 2 d_p_law_next (dCons (dVar 0) (dCons (dC (.int 3)) dNil))))
    (dSeq (dSet 4 (dBin ixD (dApp lstD (dCons (dC (.int 1)) (dCons (dC (.int 1)) (dCons (dBin powD (dC (.int 10)) (dC (.int 12))) dNil)))) (dCall 2 d_p_law_next (dCons (dVar 0) (dCons (dC (.int 3)) dNil)))))
    (dSeq (dIfS (dTst (dBin eqD (dVar 3) (dC (.int 1)))) (dRet (dCall 4 d_p_law_bt_free (dCons (dVar 0) (dCons (dVar 1) (dCons (dVar 2) (dCons (dVar 4) dNil)))))) dNext)
    (dSeq (dSetO 5 (dCall 2 d_p_law_bt_cut (dCons (dVar 0) (dCons (dCall 4 d_p_law_bt_sums (dCons (dVar 0) (dCons (dVar 1) (dCons (dVar 2) (dCons (dVar 4) dNil))))) dNil))))
    (dSeq (dIfS (dTst (dBin eqD (dVar 3) (dC (.int 2)))) (dSeq (dSet 6 (dCall 2 d_p_law_next (dCons (dVar 0) (dCons (dVar 1) dNil))))
    (dSeq (dSet 7 (dCall 2 d_p_law_next (dCons (dVar 0) (dCons (dVar 2) dNil))))
    (dIfS (dTst (dBin isD (dBin ixD (dBin ixD (dVar 5) (dVar 6)) (dVar 7)) (dC .non))) (dSetIx2 5 (dVar 6) (dVar 7) (dC (.int 1))) (dSetIx2 5 (dVar 6) (dVar 7) (dBin subD (dBin addD (dBin ixD (dBin ixD (dVar 5) (dVar 6)) (dVar 7)) (dCall 2 d_p_law_next (dCons (dVar 0) (dCons (dC (.int 9)) dNil)))) (dC (.int 4))))))) dNext)
    (dRetMv 5))))))
def d_p_law_ub_rows : DF := dBody 3 8 b_p_law_ub_rows
def l_p_law_bt_break_1 : DS := (dSeq (dSet 5 (dCall 2 d_p_law_plus (dCons (dBin ixD (dBin ixD (dVar 0) (dVar 1)) (dVar 3)) (dCons (dBin ixD (dBin ixD (dVar 0) (dVar 2)) (dVar 4)) dNil))))
    (dSeq (dSet 6 (dCall 2 d_p_law_plus (dCons (dBin ixD (dBin ixD (dVar 0) (dVar 1)) (dVar 4)) (dCons (dBin ixD (dBin ixD (dVar 0) (dVar 2)) (dVar 3)) dNil))))
    (dIfS (dTst (dCall 2 d_p_law_below (dCons (dVar 6) (dCons (dVar 5) dNil)))) (dRet (dApp lstD (dCons (dVar 1) (dCons (dVar 2) (dCons (dVar 3) (dCons (dVar 4) dNil)))))) dNext)))
def l_p_law_bt_break_2 : DS := (dFor (.nm 4) (dRng2 (dCons (dBin addD (dVar 3) (dC (.int 1))) (dCons (dApp lenD (dCons (dBin ixD (dVar 0) (dC (.int 0))) dNil)) dNil))) l_p_law_bt_break_1)
def l_p_law_bt_break_3 : DS := (dFor (.nm 3) (dRng1 (dCons (dApp lenD (dCons (dBin ixD (dVar 0) (dC (.int 0))) dNil)) dNil)) l_p_law_bt_break_2)
def l_p_law_bt_break_4 : DS := (dFor (.nm 2) (dRng2 (dCons (dBin addD (dVar 1) (dC (.int 1))) (dCons (dApp lenD (dCons (dVar 0) dNil)) dNil))) l_p_law_bt_break_3)
def b_p_law_bt_break : DS := (dSeq (dFor (.nm 1) (dRng1 (dCons (dApp lenD (dCons (dVar 0) dNil)) dNil)) l_p_law_bt_break_4)
    (dRet (dApp lstD dNil)))
def d_p_law_bt_break : DF := dBody 1 7 b_p_law_bt_break
def h_p_law_ub_refused_1 : DS := (dSet 3 (dExF 4 ["BadPaper"] "name"))
def y_p_law_ub_refused_1 : DS := (dDrop (dCallK 3 d_Unbent_init 3 0 (idS 3) [] (dCons (dVar 0) (dCons (dVar 1) (dCons (dVar 2) dNil))) dNil))
def b_p_law_ub_refused : DS := (dSeq (dSet 3 (dC (.str "none")))
    (dSeq (dTry y_p_law_ub_refused_1 [⟨(some 4), "BadPaper", ["BadPaper"], ["BadDeed", "BadRow"], h_p_law_ub_refused_1⟩])
    (dRetMv 3)))
def d_p_law_ub_refused : DF := dBody 3 5 b_p_law_ub_refused
def h_p_law_ub_refusals_1 : DS := (dSet 2 (dAnd (dExI 3 [("BadDeed", false), ("BadPaper", true), ("BadRow", false)]) (dExI 3 [("BadDeed", true), ("BadPaper", true), ("BadRow", true)])))
def y_p_law_ub_refusals_1 : DS := (dDrop (dCallK 3 d_Unbent_init 3 0 (idS 3) [] (dCons (dApp tupD (dCons (dC (.int 0)) dNil)) (dCons (dC (.bl false)) (dCons (dC (.int 1)) dNil))) dNil))
def b_p_law_ub_refusals : DS := (dSeq (dSet 1 (dBin ixD (dApp lstD (dCons (dC .non) (dCons (dC (.bl true)) (dCons (dC (.str "1")) (dCons (dApp tupD (dCons (dC (.int 1)) dNil)) dNil))))) (dCall 2 d_p_law_next (dCons (dVar 0) (dCons (dC (.int 4)) dNil)))))
    (dSeq (dIfS (dTOr (dTst (dBin neD (dCall 3 d_p_law_ub_refused (dCons (dC (.str "12")) (dCons (dVar 1) (dCons (dVar 1) dNil)))) (dC (.str "numbers")))) (dTst (dBin neD (dCall 3 d_p_law_ub_refused (dCons (dC .non) (dCons (dC (.int 0)) (dCons (dC (.int 1)) dNil)))) (dC (.str "numbers"))))) (dRet (dC (.bl false))) dNext)
    (dSeq (dIfS (dTOr (dTst (dBin neD (dCall 3 d_p_law_ub_refused (dCons (dApp lstD (dCons (dC (.int 0)) (dCons (dVar 1) dNil))) (dCons (dVar 1) (dCons (dC (.int 1)) dNil)))) (dC (.str "numbers")))) (dTst (dBin neD (dCall 3 d_p_law_ub_refused (dCons (dApp tupD (dCons (dVar 1) (dCons (dC (.int 0)) dNil))) (dCons (dC (.int 0)) (dCons (dC (.int 1)) dNil)))) (dC (.str "numbers"))))) (dRet (dC (.bl false))) dNext)
    (dSeq (dIfS (dTOr (dTst (dBin neD (dCall 3 d_p_law_ub_refused (dCons (dApp lstD (dCons (dC (.int 0)) dNil)) (dCons (dVar 1) (dCons (dVar 1) dNil)))) (dC (.str "lower")))) (dTst (dBin neD (dCall 3 d_p_law_ub_refused (dCons (dApp tupD dNil) (dCons (dC (.int 0)) (dCons (dVar 1) dNil)))) (dC (.str "upper"))))) (dRet (dC (.bl false))) dNext)
    (dSeq (dIfS (dTst (dBin neD (dCall 3 d_p_law_ub_refused (dCons (dApp lstD (dCons (dC (.int 0)) (dCons (dC (.int 5)) dNil))) (dCons (dUn negD (dC (.int 3))) (dCons (dBin powD (dC (.int 10)) (dC (.int 12))) dNil)))) (dC (.str "none")))) (dRet (dC (.bl false))) dNext)
    (dSeq (dSet 2 (dC (.bl false)))
    (dSeq (dTry y_p_law_ub_refusals_1 [⟨(some 3), "SureError", ["BadDeed", "BadPaper", "BadRow"], [], h_p_law_ub_refusals_1⟩])
    (dRetMv 2))))))))
def d_p_law_ub_refusals : DF := dBody 1 4 b_p_law_ub_refusals
def b_p_law_ub_kept : DS := (dSeq (dSetO 1 (dApp lstD (dCons (dBin subD (dCall 2 d_p_law_next (dCons (dVar 0) (dCons (dC (.int 9)) dNil))) (dC (.int 4))) (dCons (dC (.int 3)) dNil))))
    (dSeq (dSet 2 (dApp tupleD (dCons (dVar 1) dNil)))
    (dSeq (dSet 3 (dCallK 3 d_Unbent_init 3 0 (idS 3) [] (dCons (dVar 1) (dCons (dC (.int 2)) (dCons (dUn negD (dC (.int 1))) dNil))) dNil))
    (dSeq (dSetIx 1 (dC (.int 0)) (dC (.int 99)))
    (dSeq (dAppend 1 (dC (.int 1)))
    (dRet (dAnd (dBin eqD (dUn (fldD ["Unbent", "Levels"] "numbers") (dVar 3)) (dVar 2)) (dAnd (dUn (isiT ["tuple"]) (dUn (fldD ["Unbent", "Levels"] "numbers") (dVar 3))) (dAnd (dBin eqD (dUn (fldD ["Unbent"] "lower") (dVar 3)) (dC (.int 2))) (dBin eqD (dUn (fldD ["Unbent"] "upper") (dVar 3)) (dUn negD (dC (.int 1)))))))))))))
def d_p_law_ub_kept : DF := dBody 1 4 b_p_law_ub_kept
end Pk

set_option Elab.async false
set_option linter.all false
set_option maxRecDepth 100000
set_option maxHeartbeats 4000000
namespace K52
open PySem PySem.Spec PyProof.Rows L2 Qd Pk
/-! ### the text -/
def topS (i : Nat) : Stmt := PySem.Challenge.pw_surefornow_k52_unbent_judged.main.body.getD i (.Pass ⟨0, 0, 0, 0⟩)
structure Tx (K : PySem.W.Frag) (mg : Str → Option Value) : Prop where
  z_ValueError : mg "ValueError" = none
  z_bool : mg "bool" = none
  z_enumerate : mg "enumerate" = none
  z_int : mg "int" = none
  z_isinstance : mg "isinstance" = none
  z_len : mg "len" = none
  z_list : mg "list" = none
  z_max : mg "max" = none
  z_min : mg "min" = none
  z_range : mg "range" = none
  z_tuple : mg "tuple" = none
  z_zip : mg "zip" = none
  a_lower : GotA K mg "lower" ["Unbent"]
  a_numbers : GotA K mg "numbers" ["Unbent", "Levels"]
  a_rows : GotA K mg "rows" ["HourTable", "Table"]
  a_states : GotA K mg "states" ["Body", "Round", "Table"]
  a_upper : GotA K mg "upper" ["Unbent"]
  i_Unbent : IsiG K mg pkClasses "Unbent"
  x_name : ∀ c ∈ (["BadPaper"] : List Str), ∀ C, mg c = some (.ref C) → XfC K C ∧ PySem.W.findIn K (.ref C) "name" = some none
  hd_BadPaper : ∃ Hc, mg "BadPaper" = some (.ref Hc) ∧ (∀ c ∈ (["BadPaper"] : List Str), ∀ C, mg c = some (.ref C) → PySem.W.exmOne K (.ref C) (.ref Hc) = some true ∧ PySem.W.findIn K (.ref C) "__getattribute__" = some (some (.builtin "BaseException.__getattribute__"))) ∧ ∀ c ∈ (["BadDeed", "BadRow"] : List Str), ∀ C, mg c = some (.ref C) → PySem.W.exmOne K (.ref C) (.ref Hc) = some false
  hd_SureError : ∃ Hc, mg "SureError" = some (.ref Hc) ∧ (∀ c ∈ (["BadDeed", "BadPaper", "BadRow"] : List Str), ∀ C, mg c = some (.ref C) → PySem.W.exmOne K (.ref C) (.ref Hc) = some true ∧ PySem.W.findIn K (.ref C) "__getattribute__" = some (some (.builtin "BaseException.__getattribute__"))) ∧ ∀ c ∈ ([] : List Str), ∀ C, mg c = some (.ref C) → PySem.W.exmOne K (.ref C) (.ref Hc) = some false
  xi_BadPaper : ∃ Hc, mg "BadPaper" = some (.ref Hc) ∧ ∀ c b, ([("BadDeed", false), ("BadPaper", true), ("BadRow", false)] : List (Str × Bool)).lookup c = some b → ∀ C, mg c = some (.ref C) → ErrI K C ∧ PySem.W.kitOne K (.ref C) (.ref Hc) = some b
  xi_ValueError : ∀ c b, ([("BadDeed", true), ("BadPaper", true), ("BadRow", true)] : List (Str × Bool)).lookup c = some b → ∀ C, mg c = some (.ref C) → ErrI K C ∧ PySem.W.kitOne K (.ref C) (.type "ValueError") = some b
abbrev s_BadPaper_init : Stmt := inClass (topS 5) 0
theorem nc_BadPaper_init : NdefX.NScope ["self", "name", "__class__"] ["self", "name"] ["__class__"] (defScope s_BadPaper_init) := NdefX.nscope_by (by decide +kernel)
theorem ew_BadPaper {P : Program} {w : World} {K : PySem.W.Frag} {mg : Str → Option Value} {base : Heap} {C fI cc cda : Addr} {fd : FuncData} (T : ErrC P K mg C fI cc cda "BadPaper.__init__" s_BadPaper_init fd) (h_name : PySem.W.findIn K (.ref C) "name" = some none) : FnOk P w K mg base (L2.CX P w) 1 fI fd ["self", "name"] (spErr C ["name"]) := by
  refine err_run (ar := ⟨"self", none, _⟩) T nc_BadPaper_init rfl rfl rfl rfl (fun vs H Q E h => h.1) (fun vs H Q E h => ?_) (fun X hX => ⟨?_, rfl, _, rfl⟩) (fun F A outer s H vs ws Q E hF hr h => err_rest1 h T.low h_name rfl rfl (.inl (by rw [hF]; rfl)) (.inl (by rw [hF]; rfl)) (by decide) (by decide) (fun X hX => rfl))
  · obtain ⟨_, a, us, e1, e2, _⟩ := h
    exact ⟨a, us, e1, e2⟩
  · exact int_fn (by rw [hX]; rfl)
abbrev s_BadRow_init : Stmt := inClass (topS 3) 0
theorem nc_BadRow_init : NdefX.NScope ["self", "place", "__class__"] ["self", "place"] ["__class__"] (defScope s_BadRow_init) := NdefX.nscope_by (by decide +kernel)
theorem ew_BadRow {P : Program} {w : World} {K : PySem.W.Frag} {mg : Str → Option Value} {base : Heap} {C fI cc cda : Addr} {fd : FuncData} (T : ErrC P K mg C fI cc cda "BadRow.__init__" s_BadRow_init fd) (h_place : PySem.W.findIn K (.ref C) "place" = some none) : FnOk P w K mg base (L2.CX P w) 1 fI fd ["self", "place"] (spErr C ["place"]) := by
  refine err_run (ar := ⟨"self", none, _⟩) T nc_BadRow_init rfl rfl rfl rfl (fun vs H Q E h => h.1) (fun vs H Q E h => ?_) (fun X hX => ⟨?_, rfl, _, rfl⟩) (fun F A outer s H vs ws Q E hF hr h => err_rest1 h T.low h_place rfl rfl (.inl (by rw [hF]; rfl)) (.inl (by rw [hF]; rfl)) (by decide) (by decide) (fun X hX => rfl))
  · obtain ⟨_, a, us, e1, e2, _⟩ := h
    exact ⟨a, us, e1, e2⟩
  · exact int_fn (by rw [hX]; rfl)
abbrev s_p_law_stream : Stmt := topS 31
abbrev N_p_law_stream : List Str := ["script", "stream", "at", "cell", "turn", "mixed"]
theorem sc_p_law_stream : FnScope N_p_law_stream ["script"] (defScope s_p_law_stream) := ⟨rfl, rfl, rfl, by decide +kernel, rfl, by decide +kernel, by decide +kernel⟩
theorem w_p_law_stream {P : Program} {w : World} {K : PySem.W.Frag} {mg : Str → Option Value} {base : Heap} {f : Addr} {fd : FuncData} (F : Fun K "_law_stream" "_law_stream" s_p_law_stream f fd) (T : Tx K mg) : FnOk P w K mg base (L2.CX P w) 1 f fd ["script"] (SpD K mg 1 d_p_law_stream) := by
  refine okD F sc_p_law_stream rfl rfl fun cdv A outer s H E hr tk => ?_
  unfold b_p_law_stream
  refine ss_cons ?_ ?_
  · exact sx_setO 1 sc_p_law_stream.nd (so_lst sa_nil)
  refine ss_cons ?_ ?_
  · refine sx_for (passes_of rfl) rfl (si_rng1 rfl T.z_range (sa_cons (so_callB (call_min2 rfl) cd_min2 rfl T.z_min (by decide +kernel) (sa_cons (so_callB cr_len cd_len rfl T.z_len (by decide +kernel) (sa_cons (so_var 0) sa_nil)) (sa_cons so_int sa_nil))) sa_nil)) (sg_nm 2 sc_p_law_stream.nd) ?_
    refine ss_cons ?_ ?_
    · exact sx_set 3 sc_p_law_stream.nd (so_callT call_int1 cd_int rfl T.z_int (by decide +kernel) (sa_cons (so_ix (so_var 0) (so_var 2)) sa_nil))
    refine ss_cons ?_ ?_
    · refine sx_if (st_cmp (op_ltA hr.units0) od_lt (so_var 3) so_int) ?_ ?_
      · refine ss_one ?_
        exact sx_set 3 sc_p_law_stream.nd (so_bin op_sub od_sub so_int (so_bin op_mulA od_mul so_int (so_var 3)))
      · exact ss_nil
    refine ss_one ?_
    refine sx_if (st_cmp op_ge od_cmp (so_var 3) (so_bin op_pow od_pow so_int so_int)) ?_ ?_
    · refine ss_one ?_
      refine sx_for (passes_of rfl) rfl (si_rng1 rfl T.z_range (sa_cons so_int sa_nil)) (sg_nm 4 sc_p_law_stream.nd) ?_
      refine ss_one ?_
      refine sx_if (st_cmp op_gt od_cmp (so_var 3) so_int) ?_ ?_
      · refine ss_cons ?_ ?_
        · exact sx_append 1 (so_bin op_modN od_mod (so_callT call_int1 cd_int rfl T.z_int (by decide +kernel) (sa_cons (so_var 3) sa_nil)) so_int)
        refine ss_one ?_
        exact sx_set 3 sc_p_law_stream.nd (so_bin op_fdivA od_fdiv (so_var 3) so_int)
      · exact ss_nil
    · refine ss_cons ?_ ?_
      · exact sx_set 5 sc_p_law_stream.nd (so_bin op_modN od_mod (so_callT call_int1 cd_int rfl T.z_int (by decide +kernel) (sa_cons (so_bin op_addA od_add (so_bin op_addA od_add (so_bin op_mulA od_mul (so_var 3) so_int) (so_bin op_mulA od_mul (so_var 2) so_int)) so_int) sa_nil)) so_int)
      refine ss_one ?_
      refine sx_for (passes_of rfl) rfl (si_rng1 rfl T.z_range (sa_cons so_int sa_nil)) (sg_nm 4 sc_p_law_stream.nd) ?_
      refine ss_cons ?_ ?_
      · exact sx_set 5 sc_p_law_stream.nd (so_bin op_modN od_mod (so_callT call_int1 cd_int rfl T.z_int (by decide +kernel) (sa_cons (so_bin op_addA od_add (so_bin op_addA od_add (so_bin op_addA od_add (so_bin op_mulA od_mul (so_var 5) (so_var 5)) (so_bin op_mulA od_mul (so_var 4) so_int)) (so_bin op_mulA od_mul (so_var 2) so_int)) so_int) sa_nil)) so_int)
      refine ss_one ?_
      exact sx_append 1 (so_bin op_fdivA od_fdiv (so_var 5) so_int)
  refine ss_cons ?_ ?_
  · exact sx_rev 1
  refine ss_one ?_
  exact sx_retMv 1
abbrev s_p_law_next : Stmt := topS 32
abbrev N_p_law_next : List Str := ["stream", "many"]
theorem sc_p_law_next : FnScope N_p_law_next ["stream", "many"] (defScope s_p_law_next) := ⟨rfl, rfl, rfl, by decide +kernel, rfl, by decide +kernel, by decide +kernel⟩
theorem w_p_law_next {P : Program} {w : World} {K : PySem.W.Frag} {mg : Str → Option Value} {base : Heap} {f : Addr} {fd : FuncData} (F : Fun K "_law_next" "_law_next" s_p_law_next f fd) (T : Tx K mg) : FnOk P w K mg base (L2.CX P w) 1 f fd ["stream", "many"] (SpD K mg 2 d_p_law_next) := by
  refine okD F sc_p_law_next rfl rfl fun cdv A outer s H E hr tk => ?_
  unfold b_p_law_next
  refine ss_cons ?_ ?_
  · refine sx_if (st_cmp (op_eqD hr.units) od_eq (so_callB cr_len cd_len rfl T.z_len (by decide +kernel) (sa_cons (so_var 0) sa_nil)) so_int) ?_ ?_
    · refine ss_one ?_
      exact sx_ret so_int
    · exact ss_nil
  refine ss_one ?_
  exact sx_ret (so_bin op_modN od_mod (so_callT call_int1 cd_int rfl T.z_int (by decide +kernel) (sa_cons (so_pop 0) sa_nil)) (so_var 1))
abbrev s_p_law_bt_great : Stmt := topS 51
abbrev N_p_law_bt_great : List Str := ["stream", "deeds", "states", "own", "cols", "rows", "d", "s"]
theorem sc_p_law_bt_great : FnScope N_p_law_bt_great ["stream"] (defScope s_p_law_bt_great) := ⟨rfl, rfl, rfl, by decide +kernel, rfl, by decide +kernel, by decide +kernel⟩
theorem w_p_law_bt_great {P : Program} {w : World} {K : PySem.W.Frag} {mg : Str → Option Value} {base : Heap} {f : Addr} {fd : FuncData} (F : Fun K "_law_bt_great" "_law_bt_great" s_p_law_bt_great f fd) (T : Tx K mg) (G_p_law_next : GotF P w K mg base 1 "_law_next" 2 d_p_law_next) : FnOk P w K mg base (L2.CX P w) 2 f fd ["stream"] (SpD K mg 1 d_p_law_bt_great) := by
  refine okD F sc_p_law_bt_great rfl rfl fun cdv A outer s H E hr tk => ?_
  unfold b_p_law_bt_great
  refine ss_cons ?_ ?_
  · exact sx_set 1 sc_p_law_bt_great.nd (so_bin op_sub od_sub so_int (so_callG G_p_law_next hr tk rfl (sa_cons (so_var 0) (sa_cons so_int sa_nil))))
  refine ss_cons ?_ ?_
  · exact sx_set 2 sc_p_law_bt_great.nd (so_bin op_sub od_sub so_int (so_callG G_p_law_next hr tk rfl (sa_cons (so_var 0) (sa_cons so_int sa_nil))))
  refine ss_cons ?_ ?_
  · exact sx_set 3 sc_p_law_bt_great.nd (so_lc [("d", 6)] rfl sc_p_law_bt_great.nd (si_rng1 rfl T.z_range (sa_cons (so_var 1) sa_nil)) (blkOk_by (N := N_p_law_bt_great) (sc := defScope s_p_law_bt_great) (by decide +kernel)) (fun _ _ _ _ _ => (sg_nm 6 sc_p_law_bt_great.nd)) (fun _ _ _ _ _ => (so_callG G_p_law_next hr tk0 rfl (sa_cons (so_var 0) (sa_cons so_int sa_nil)))))
  refine ss_cons ?_ ?_
  · exact sx_set 4 sc_p_law_bt_great.nd (so_lc [("s", 7)] rfl sc_p_law_bt_great.nd (si_rng1 rfl T.z_range (sa_cons (so_var 2) sa_nil)) (blkOk_by (N := N_p_law_bt_great) (sc := defScope s_p_law_bt_great) (by decide +kernel)) (fun _ _ _ _ _ => (sg_nm 7 sc_p_law_bt_great.nd)) (fun _ _ _ _ _ => (so_callG G_p_law_next hr tk0 rfl (sa_cons (so_var 0) (sa_cons so_int sa_nil)))))
  refine ss_cons ?_ ?_
  · exact sx_setO 5 sc_p_law_bt_great.nd (so_lst sa_nil)
  refine ss_cons ?_ ?_
  · refine sx_for (passes_of rfl) rfl (si_rng1 rfl T.z_range (sa_cons (so_var 1) sa_nil)) (sg_nm 6 sc_p_law_bt_great.nd) ?_
    refine ss_one ?_
    exact sx_appendO 5 (so_lc [("s", 7)] rfl sc_p_law_bt_great.nd (si_rng1 rfl T.z_range (sa_cons (so_var 2) sa_nil)) (blkOk_by (N := N_p_law_bt_great) (sc := defScope s_p_law_bt_great) (by decide +kernel)) (fun _ _ _ _ _ => (sg_nm 7 sc_p_law_bt_great.nd)) (fun _ _ _ _ _ => (so_bin op_sub od_sub (so_bin op_addA od_add (so_ix (so_var 3) (so_var 6)) (so_ix (so_var 4) (so_var 7))) (so_bin op_mulA od_mul (so_bin op_mulA od_mul so_int (so_var 6)) (so_var 7)))))
  refine ss_one ?_
  exact sx_retMv 5
abbrev s_is_whole : Stmt := topS 7
abbrev N_is_whole : List Str := ["thing"]
theorem sc_is_whole : FnScope N_is_whole ["thing"] (defScope s_is_whole) := ⟨rfl, rfl, rfl, by decide +kernel, rfl, by decide +kernel, by decide +kernel⟩
theorem w_is_whole {P : Program} {w : World} {K : PySem.W.Frag} {mg : Str → Option Value} {base : Heap} {f : Addr} {fd : FuncData} (F : Fun K "is_whole" "is_whole" s_is_whole f fd) (T : Tx K mg) : FnOk P w K mg base (L2.CX P w) 1 f fd ["thing"] (SpD K mg 1 d_is_whole) := by
  refine okD F sc_is_whole rfl rfl fun cdv A outer s H E hr tk => ?_
  unfold b_is_whole
  refine ss_one ?_
  exact sx_ret (so_and (so_isi1 rfl T.z_isinstance (so_var 0) rfl T.z_int (by decide +kernel)) (so_one (so_not (so_isi1 rfl T.z_isinstance (so_var 0) rfl T.z_bool (by decide +kernel)))))
abbrev s_is_amount : Stmt := topS 8
abbrev N_is_amount : List Str := ["thing"]
theorem sc_is_amount : FnScope N_is_amount ["thing"] (defScope s_is_amount) := ⟨rfl, rfl, rfl, by decide +kernel, rfl, by decide +kernel, by decide +kernel⟩
theorem w_is_amount {P : Program} {w : World} {K : PySem.W.Frag} {mg : Str → Option Value} {base : Heap} {f : Addr} {fd : FuncData} (F : Fun K "is_amount" "is_amount" s_is_amount f fd) (T : Tx K mg) (G_is_whole : GotF P w K mg base 1 "is_whole" 1 d_is_whole) : FnOk P w K mg base (L2.CX P w) 2 f fd ["thing"] (SpD K mg 1 d_is_amount) := by
  refine okD F sc_is_amount rfl rfl fun cdv A outer s H E hr tk => ?_
  unfold b_is_amount
  refine ss_one ?_
  exact sx_ret (so_or (so_cmp op_isA od_is (so_var 0) so_non) (so_one (so_callG G_is_whole hr tk rfl (sa_cons (so_var 0) sa_nil))))
abbrev s_p_tables_rows : Stmt := topS 26
abbrev N_p_tables_rows : List Str := ["rows", "row", "place", "part"]
theorem sc_p_tables_rows : FnScope N_p_tables_rows ["rows"] (defScope s_p_tables_rows) := ⟨rfl, rfl, rfl, by decide +kernel, rfl, by decide +kernel, by decide +kernel⟩
theorem w_p_tables_rows {P : Program} {w : World} {K : PySem.W.Frag} {mg : Str → Option Value} {base : Heap} {f : Addr} {fd : FuncData} (F : Fun K "_tables_rows" "_tables_rows" s_p_tables_rows f fd) (T : Tx K mg) (G_is_amount : GotF P w K mg base 2 "is_amount" 1 d_is_amount) (E_BadRow : GotE P w K mg base 1 "BadRow" ["place"]) : FnOk P w K mg base (L2.CX P w) 3 f fd ["rows"] (SpD K mg 1 d_p_tables_rows) := by
  refine okD F sc_p_tables_rows rfl rfl fun cdv A outer s H E hr tk => ?_
  unfold b_p_tables_rows
  refine ss_cons ?_ ?_
  · refine sx_if (st_w (sw_or (st_not (st_val (so_isiN rfl T.z_isinstance (so_var 0) (.cons rfl T.z_list (by decide +kernel) (r := (.cons rfl T.z_tuple (by decide +kernel) (r := .nil))))))) (sw_or1 (st_cmp (op_eqD hr.units) od_eq (so_callB cr_len cd_len rfl T.z_len (by decide +kernel) (sa_cons (so_var 0) sa_nil)) so_int)))) ?_ ?_
    · refine ss_one ?_
      exact sx_raise E_BadRow rfl tk hr (by decide) rfl (sa_cons (so_un un_neg ud_neg so_int) sa_nil)
    · exact ss_nil
  refine ss_cons ?_ ?_
  · refine sx_for (passes_of rfl) rfl (si_seq (so_var 0)) (sg_nm 1 sc_p_tables_rows.nd) ?_
    refine ss_one ?_
    refine sx_if (st_w (sw_or (st_not (st_val (so_isiN rfl T.z_isinstance (so_var 1) (.cons rfl T.z_list (by decide +kernel) (r := (.cons rfl T.z_tuple (by decide +kernel) (r := .nil))))))) (sw_or (st_cmp (op_eqD hr.units) od_eq (so_callB cr_len cd_len rfl T.z_len (by decide +kernel) (sa_cons (so_var 1) sa_nil)) so_int) (sw_or1 (st_cmp (op_neD hr.units) od_ne (so_callB cr_len cd_len rfl T.z_len (by decide +kernel) (sa_cons (so_var 1) sa_nil)) (so_callB cr_len cd_len rfl T.z_len (by decide +kernel) (sa_cons (so_ix (so_var 0) so_int) sa_nil))))))) ?_ ?_
    · refine ss_one ?_
      exact sx_raise E_BadRow rfl tk hr (by decide) rfl (sa_cons (so_un un_neg ud_neg so_int) sa_nil)
    · exact ss_nil
  refine ss_cons ?_ ?_
  · exact sx_set 2 sc_p_tables_rows.nd so_int
  refine ss_cons ?_ ?_
  · refine sx_for (passes_of rfl) rfl (si_seq (so_var 0)) (sg_nm 1 sc_p_tables_rows.nd) ?_
    refine ss_one ?_
    refine sx_for (passes_of rfl) rfl (si_seq (so_var 1)) (sg_nm 3 sc_p_tables_rows.nd) ?_
    refine ss_cons ?_ ?_
    · refine sx_if (st_not (st_val (so_callG G_is_amount hr tk rfl (sa_cons (so_var 3) sa_nil)))) ?_ ?_
      · refine ss_one ?_
        exact sx_raise E_BadRow rfl tk hr (by decide) rfl (sa_cons (so_var 2) sa_nil)
      · exact ss_nil
    refine ss_one ?_
    exact sx_set 2 sc_p_tables_rows.nd (so_bin op_addA od_add (so_var 2) so_int)
  refine ss_one ?_
  exact sx_ret (so_callT call_tuple_of cd_tuple rfl T.z_tuple (by decide +kernel) (sa_cons (so_lc [("row", 1)] rfl sc_p_tables_rows.nd (si_seq (so_var 0)) (blkOk_by (N := N_p_tables_rows) (sc := defScope s_p_tables_rows) (by decide +kernel)) (fun _ _ _ _ _ => (sg_nm 1 sc_p_tables_rows.nd)) (fun _ _ _ _ _ => (so_callT call_tuple_of cd_tuple rfl T.z_tuple (by decide +kernel) (sa_cons (so_var 1) sa_nil)))) sa_nil))
abbrev s_Table_init : Stmt := inClass (topS 29) 0
abbrev N_Table_init : List Str := ["self", "rows"]
theorem sc_Table_init : FnScope N_Table_init ["self", "rows"] (defScope s_Table_init) := ⟨rfl, rfl, rfl, by decide +kernel, rfl, by decide +kernel, by decide +kernel⟩
theorem w_Table_init {P : Program} {w : World} {K : PySem.W.Frag} {mg : Str → Option Value} {base : Heap} {f : Addr} {fd : FuncData} (F : Fun K "__init__" "Table.__init__" s_Table_init f fd) (T : Tx K mg) (G_p_tables_rows : GotF P w K mg base 3 "_tables_rows" 1 d_p_tables_rows) : FnOk P w K mg base (L2.CX P w) 4 f fd ["self", "rows"] (SpI K mg "Table" 1 d_Table_init) := by
  refine okI F sc_Table_init rfl rfl fun cdv A outer s H E hr tk => ?_
  unfold b_Table_init
  refine ss_cons ?_ ?_
  · exact sx_setF 0 T.a_rows (so_callG G_p_tables_rows hr tk rfl (sa_cons (so_var 1) sa_nil))
  refine ss_one ?_
  exact sx_setF 0 T.a_states (so_callB cr_len cd_len rfl T.z_len (by decide +kernel) (sa_cons (so_ix (so_fld T.a_rows (so_var 0)) so_int) sa_nil))
abbrev s_below : Stmt := topS 11
abbrev N_below : List Str := ["one", "other"]
theorem sc_below : FnScope N_below ["one", "other"] (defScope s_below) := ⟨rfl, rfl, rfl, by decide +kernel, rfl, by decide +kernel, by decide +kernel⟩
theorem w_below {P : Program} {w : World} {K : PySem.W.Frag} {mg : Str → Option Value} {base : Heap} {f : Addr} {fd : FuncData} (F : Fun K "below" "below" s_below f fd) (T : Tx K mg) : FnOk P w K mg base (L2.CX P w) 1 f fd ["one", "other"] (SpD K mg 2 d_below) := by
  refine okD F sc_below rfl rfl fun cdv A outer s H E hr tk => ?_
  unfold b_below
  refine ss_cons ?_ ?_
  · refine sx_if (st_cmp op_isA od_is (so_var 0) so_non) ?_ ?_
    · refine ss_one ?_
      exact sx_ret so_bl
    · exact ss_nil
  refine ss_one ?_
  exact sx_ret (so_or (so_cmp op_isA od_is (so_var 1) so_non) (so_one (so_cmp (op_ltA hr.units0) od_lt (so_var 0) (so_var 1))))
abbrev s_plus : Stmt := topS 9
abbrev N_plus : List Str := ["one", "other"]
theorem sc_plus : FnScope N_plus ["one", "other"] (defScope s_plus) := ⟨rfl, rfl, rfl, by decide +kernel, rfl, by decide +kernel, by decide +kernel⟩
theorem w_plus {P : Program} {w : World} {K : PySem.W.Frag} {mg : Str → Option Value} {base : Heap} {f : Addr} {fd : FuncData} (F : Fun K "plus" "plus" s_plus f fd) (T : Tx K mg) : FnOk P w K mg base (L2.CX P w) 1 f fd ["one", "other"] (SpD K mg 2 d_plus) := by
  refine okD F sc_plus rfl rfl fun cdv A outer s H E hr tk => ?_
  unfold b_plus
  refine ss_cons ?_ ?_
  · refine sx_if (st_w (sw_or (st_cmp op_isA od_is (so_var 0) so_non) (sw_or1 (st_cmp op_isA od_is (so_var 1) so_non)))) ?_ ?_
    · refine ss_one ?_
      exact sx_ret so_non
    · exact ss_nil
  refine ss_one ?_
  exact sx_ret (so_bin op_addA od_add (so_var 0) (so_var 1))
abbrev s_p_bent_states : Stmt := topS 15
abbrev N_p_bent_states : List Str := ["row", "later", "s", "t"]
theorem sc_p_bent_states : FnScope N_p_bent_states ["row", "later"] (defScope s_p_bent_states) := ⟨rfl, rfl, rfl, by decide +kernel, rfl, by decide +kernel, by decide +kernel⟩
theorem w_p_bent_states {P : Program} {w : World} {K : PySem.W.Frag} {mg : Str → Option Value} {base : Heap} {f : Addr} {fd : FuncData} (F : Fun K "_bent_states" "_bent_states" s_p_bent_states f fd) (T : Tx K mg) (G_below : GotF P w K mg base 1 "below" 2 d_below) (G_plus : GotF P w K mg base 1 "plus" 2 d_plus) : FnOk P w K mg base (L2.CX P w) 2 f fd ["row", "later"] (SpD K mg 2 d_p_bent_states) := by
  refine okD F sc_p_bent_states rfl rfl fun cdv A outer s H E hr tk => ?_
  unfold b_p_bent_states
  refine ss_cons ?_ ?_
  · refine sx_for (passes_of rfl) rfl (si_rng1 rfl T.z_range (sa_cons (so_callB cr_len cd_len rfl T.z_len (by decide +kernel) (sa_cons (so_var 0) sa_nil)) sa_nil)) (sg_nm 2 sc_p_bent_states.nd) ?_
    refine ss_one ?_
    refine sx_for (passes_of rfl) rfl (si_rng2 rfl T.z_range (sa_cons (so_bin op_addA od_add (so_var 2) so_int) (sa_cons (so_callB cr_len cd_len rfl T.z_len (by decide +kernel) (sa_cons (so_var 0) sa_nil)) sa_nil))) (sg_nm 3 sc_p_bent_states.nd) ?_
    refine ss_one ?_
    refine sx_if (st_val (so_callG G_below hr tk rfl (sa_cons (so_callG G_plus hr tk rfl (sa_cons (so_ix (so_var 0) (so_var 3)) (sa_cons (so_ix (so_var 1) (so_var 2)) sa_nil))) (sa_cons (so_callG G_plus hr tk rfl (sa_cons (so_ix (so_var 0) (so_var 2)) (sa_cons (so_ix (so_var 1) (so_var 3)) sa_nil))) sa_nil)))) ?_ ?_
    · refine ss_one ?_
      exact sx_ret (so_tup (sa_cons (so_var 2) (sa_cons (so_var 3) sa_nil)))
    · exact ss_nil
  refine ss_one ?_
  exact sx_ret (so_tup sa_nil)
abbrev s_bent_break : Stmt := topS 16
abbrev N_bent_break : List Str := ["table", "deed", "later", "states"]
theorem sc_bent_break : FnScope N_bent_break ["table"] (defScope s_bent_break) := ⟨rfl, rfl, rfl, by decide +kernel, rfl, by decide +kernel, by decide +kernel⟩
theorem w_bent_break {P : Program} {w : World} {K : PySem.W.Frag} {mg : Str → Option Value} {base : Heap} {f : Addr} {fd : FuncData} (F : Fun K "bent_break" "bent_break" s_bent_break f fd) (T : Tx K mg) (G_p_bent_states : GotF P w K mg base 2 "_bent_states" 2 d_p_bent_states) : FnOk P w K mg base (L2.CX P w) 3 f fd ["table"] (SpD K mg 1 d_bent_break) := by
  refine okD F sc_bent_break rfl rfl fun cdv A outer s H E hr tk => ?_
  unfold b_bent_break
  refine ss_cons ?_ ?_
  · refine sx_for (passes_of rfl) rfl (si_rng1 rfl T.z_range (sa_cons (so_callB cr_len cd_len rfl T.z_len (by decide +kernel) (sa_cons (so_fld T.a_rows (so_var 0)) sa_nil)) sa_nil)) (sg_nm 1 sc_bent_break.nd) ?_
    refine ss_one ?_
    refine sx_for (passes_of rfl) rfl (si_rng2 rfl T.z_range (sa_cons (so_bin op_addA od_add (so_var 1) so_int) (sa_cons (so_callB cr_len cd_len rfl T.z_len (by decide +kernel) (sa_cons (so_fld T.a_rows (so_var 0)) sa_nil)) sa_nil))) (sg_nm 2 sc_bent_break.nd) ?_
    refine ss_cons ?_ ?_
    · exact sx_set 3 sc_bent_break.nd (so_callG G_p_bent_states hr tk rfl (sa_cons (so_ix (so_fld T.a_rows (so_var 0)) (so_var 1)) (sa_cons (so_ix (so_fld T.a_rows (so_var 0)) (so_var 2)) sa_nil)))
    refine ss_one ?_
    refine sx_if (st_cmp op_gt od_cmp (so_callB cr_len cd_len rfl T.z_len (by decide +kernel) (sa_cons (so_var 3) sa_nil)) so_int) ?_ ?_
    · refine ss_one ?_
      exact sx_ret (so_bin op_addA od_add (so_tup (sa_cons (so_var 1) (sa_cons (so_var 2) sa_nil))) (so_var 3))
    · exact ss_nil
  refine ss_one ?_
  exact sx_ret (so_tup sa_nil)
abbrev s_p_bent_out : Stmt := topS 18
abbrev N_p_bent_out : List Str := ["row", "prices", "states", "number", "price", "state"]
theorem sc_p_bent_out : FnScope N_p_bent_out ["row", "prices", "states"] (defScope s_p_bent_out) := ⟨rfl, rfl, rfl, by decide +kernel, rfl, by decide +kernel, by decide +kernel⟩
theorem w_p_bent_out {P : Program} {w : World} {K : PySem.W.Frag} {mg : Str → Option Value} {base : Heap} {f : Addr} {fd : FuncData} (F : Fun K "_bent_out" "_bent_out" s_p_bent_out f fd) (T : Tx K mg) : FnOk P w K mg base (L2.CX P w) 1 f fd ["row", "prices", "states"] (SpD K mg 3 d_p_bent_out) := by
  refine okD F sc_p_bent_out rfl rfl fun cdv A outer s H E hr tk => ?_
  unfold b_p_bent_out
  refine ss_cons ?_ ?_
  · exact sx_set 3 sc_p_bent_out.nd so_int
  refine ss_cons ?_ ?_
  · refine sx_for (passes_of rfl) rfl (si_zip rfl T.z_zip (sa_cons (so_var 1) (sa_cons (so_var 2) sa_nil))) (sg_tp rfl (sgs_cons 4 sc_p_bent_out.nd (sgs_cons 5 sc_p_bent_out.nd sgs_nil))) ?_
    refine ss_one ?_
    refine sx_if (st_cmp op_isNotA od_isNot (so_ix (so_var 0) (so_var 5)) so_non) ?_ ?_
    · refine ss_one ?_
      exact sx_set 3 sc_p_bent_out.nd (so_callB (call_max2 rfl) cd_max2 rfl T.z_max (by decide +kernel) (sa_cons (so_var 3) (sa_cons (so_bin op_sub od_sub (so_bin op_addA od_add (so_var 4) so_int) (so_ix (so_var 0) (so_var 5))) sa_nil)))
    · exact ss_nil
  refine ss_one ?_
  exact sx_retMv 3
abbrev s_Unbent_init : Stmt := inClass (topS 17) 0
abbrev N_Unbent_init : List Str := ["self", "numbers", "lower", "upper", "number"]
theorem sc_Unbent_init : FnScope N_Unbent_init ["self", "numbers", "lower", "upper"] (defScope s_Unbent_init) := ⟨rfl, rfl, rfl, by decide +kernel, rfl, by decide +kernel, by decide +kernel⟩
theorem w_Unbent_init {P : Program} {w : World} {K : PySem.W.Frag} {mg : Str → Option Value} {base : Heap} {f : Addr} {fd : FuncData} (F : Fun K "__init__" "Unbent.__init__" s_Unbent_init f fd) (T : Tx K mg) (G_is_whole : GotF P w K mg base 1 "is_whole" 1 d_is_whole) (E_BadPaper : GotE P w K mg base 1 "BadPaper" ["name"]) : FnOk P w K mg base (L2.CX P w) 3 f fd ["self", "numbers", "lower", "upper"] (SpI K mg "Unbent" 3 d_Unbent_init) := by
  refine okI F sc_Unbent_init rfl rfl fun cdv A outer s H E hr tk => ?_
  unfold b_Unbent_init
  refine ss_cons ?_ ?_
  · refine sx_if (st_not (st_val (so_isiN rfl T.z_isinstance (so_var 1) (.cons rfl T.z_list (by decide +kernel) (r := (.cons rfl T.z_tuple (by decide +kernel) (r := .nil))))))) ?_ ?_
    · refine ss_one ?_
      exact sx_raise E_BadPaper rfl tk hr (by decide) rfl (sa_cons so_str sa_nil)
    · exact ss_nil
  refine ss_cons ?_ ?_
  · refine sx_for (passes_of rfl) rfl (si_seq (so_var 1)) (sg_nm 4 sc_Unbent_init.nd) ?_
    refine ss_one ?_
    refine sx_if (st_not (st_val (so_callG G_is_whole hr tk rfl (sa_cons (so_var 4) sa_nil)))) ?_ ?_
    · refine ss_one ?_
      exact sx_raise E_BadPaper rfl tk hr (by decide) rfl (sa_cons so_str sa_nil)
    · exact ss_nil
  refine ss_cons ?_ ?_
  · refine sx_if (st_not (st_val (so_callG G_is_whole hr tk rfl (sa_cons (so_var 2) sa_nil)))) ?_ ?_
    · refine ss_one ?_
      exact sx_raise E_BadPaper rfl tk hr (by decide) rfl (sa_cons so_str sa_nil)
    · exact ss_nil
  refine ss_cons ?_ ?_
  · refine sx_if (st_not (st_val (so_callG G_is_whole hr tk rfl (sa_cons (so_var 3) sa_nil)))) ?_ ?_
    · refine ss_one ?_
      exact sx_raise E_BadPaper rfl tk hr (by decide) rfl (sa_cons so_str sa_nil)
    · exact ss_nil
  refine ss_cons ?_ ?_
  · exact sx_setF 0 T.a_numbers (so_callT call_tuple_of cd_tuple rfl T.z_tuple (by decide +kernel) (sa_cons (so_var 1) sa_nil))
  refine ss_cons ?_ ?_
  · exact sx_setF 0 T.a_lower (so_var 2)
  refine ss_one ?_
  exact sx_setF 0 T.a_upper (so_var 3)
abbrev s_unbent : Stmt := topS 19
abbrev N_unbent : List Str := ["table", "found", "deed", "later", "s", "t", "row", "other", "gap", "numbers", "line"]
theorem sc_unbent : FnScope N_unbent ["table"] (defScope s_unbent) := ⟨rfl, rfl, rfl, by decide +kernel, rfl, by decide +kernel, by decide +kernel⟩
theorem w_unbent {P : Program} {w : World} {K : PySem.W.Frag} {mg : Str → Option Value} {base : Heap} {f : Addr} {fd : FuncData} (F : Fun K "unbent" "unbent" s_unbent f fd) (T : Tx K mg) (G_bent_break : GotF P w K mg base 3 "bent_break" 1 d_bent_break) (G_p_bent_out : GotF P w K mg base 1 "_bent_out" 3 d_p_bent_out) (G_Unbent_init : GotIN P w K mg base 3 "Unbent" 3 d_Unbent_init 3 [] (idS 3) []) : FnOk P w K mg base (L2.CX P w) 5 f fd ["table"] (SpD K mg 1 d_unbent) := by
  refine okD F sc_unbent rfl rfl fun cdv A outer s H E hr tk => ?_
  unfold b_unbent
  refine ss_cons ?_ ?_
  · exact sx_set 1 sc_unbent.nd (so_callG G_bent_break hr tk rfl (sa_cons (so_var 0) sa_nil))
  refine ss_cons ?_ ?_
  · refine sx_if (st_cmp (op_eqD hr.units) od_eq (so_callB cr_len cd_len rfl T.z_len (by decide +kernel) (sa_cons (so_var 1) sa_nil)) so_int) ?_ ?_
    · refine ss_one ?_
      exact sx_ret so_non
    · exact ss_nil
  refine ss_cons ?_ ?_
  · exact sx_asgT (so_var 1) (sg_tp rfl (sgs_cons 2 sc_unbent.nd (sgs_cons 3 sc_unbent.nd (sgs_cons 4 sc_unbent.nd (sgs_cons 5 sc_unbent.nd sgs_nil)))))
  refine ss_cons ?_ ?_
  · exact sx_asgT (so_tup (sa_cons (so_ix (so_fld T.a_rows (so_var 0)) (so_var 2)) (sa_cons (so_ix (so_fld T.a_rows (so_var 0)) (so_var 3)) sa_nil))) (sg_tp rfl (sgs_cons 6 sc_unbent.nd (sgs_cons 7 sc_unbent.nd sgs_nil)))
  refine ss_cons ?_ ?_
  · exact sx_set 8 sc_unbent.nd so_int
  refine ss_cons ?_ ?_
  · refine sx_if (st_cmp op_isNotA od_isNot (so_ix (so_var 6) (so_var 4)) so_non) ?_ ?_
    · refine ss_one ?_
      exact sx_set 8 sc_unbent.nd (so_bin op_sub od_sub (so_ix (so_var 6) (so_var 4)) (so_ix (so_var 7) (so_var 4)))
    · refine ss_one ?_
      refine sx_if (st_cmp op_isNotA od_isNot (so_ix (so_var 7) (so_var 5)) so_non) ?_ ?_
      · refine ss_one ?_
        exact sx_set 8 sc_unbent.nd (so_bin op_sub od_sub (so_ix (so_var 6) (so_var 5)) (so_ix (so_var 7) (so_var 5)))
      · exact ss_nil
  refine ss_cons ?_ ?_
  · exact sx_setLc 9 [("line", 10)] rfl sc_unbent.nd (si_seq (so_fld T.a_rows (so_var 0))) (blkOk_by (N := N_unbent) (sc := defScope s_unbent) (by decide +kernel)) (fun _ _ _ _ _ => (sg_nm 10 sc_unbent.nd)) (fun _ _ _ _ _ => (so_callG G_p_bent_out hr tk0 rfl (sa_cons (so_var 10) (sa_cons (so_tup (sa_cons (so_bin op_addA od_add (so_ix (so_var 7) (so_var 4)) (so_var 8)) (sa_cons (so_ix (so_var 6) (so_var 5)) sa_nil))) (sa_cons (so_tup (sa_cons (so_var 4) (sa_cons (so_var 5) sa_nil))) sa_nil))))) (hsw := sw_true rfl rfl rfl (by decide +kernel))
  refine ss_cons ?_ ?_
  · exact sx_setTwo 9 rfl (sa_cons so_int (sa_cons (so_var 8) sa_nil)) (so_var 2) (so_var 3)
  refine ss_one ?_
  exact sx_ret (so_makeN G_Unbent_init hr tk rfl (sa_cons (so_var 9) (sa_cons (so_var 4) (sa_cons (so_var 5) sa_nil))) sk_nil)
abbrev s_p_law_whole : Stmt := topS 36
abbrev N_p_law_whole : List Str := ["thing"]
theorem sc_p_law_whole : FnScope N_p_law_whole ["thing"] (defScope s_p_law_whole) := ⟨rfl, rfl, rfl, by decide +kernel, rfl, by decide +kernel, by decide +kernel⟩
theorem w_p_law_whole {P : Program} {w : World} {K : PySem.W.Frag} {mg : Str → Option Value} {base : Heap} {f : Addr} {fd : FuncData} (F : Fun K "_law_whole" "_law_whole" s_p_law_whole f fd) (T : Tx K mg) : FnOk P w K mg base (L2.CX P w) 1 f fd ["thing"] (SpD K mg 1 d_p_law_whole) := by
  refine okD F sc_p_law_whole rfl rfl fun cdv A outer s H E hr tk => ?_
  unfold b_p_law_whole
  refine ss_one ?_
  exact sx_ret (so_and (so_isi1 rfl T.z_isinstance (so_var 0) rfl T.z_int (by decide +kernel)) (so_one (so_not (so_isi1 rfl T.z_isinstance (so_var 0) rfl T.z_bool (by decide +kernel)))))
abbrev s_p_law_below : Stmt := topS 34
abbrev N_p_law_below : List Str := ["one", "other"]
theorem sc_p_law_below : FnScope N_p_law_below ["one", "other"] (defScope s_p_law_below) := ⟨rfl, rfl, rfl, by decide +kernel, rfl, by decide +kernel, by decide +kernel⟩
theorem w_p_law_below {P : Program} {w : World} {K : PySem.W.Frag} {mg : Str → Option Value} {base : Heap} {f : Addr} {fd : FuncData} (F : Fun K "_law_below" "_law_below" s_p_law_below f fd) (T : Tx K mg) : FnOk P w K mg base (L2.CX P w) 1 f fd ["one", "other"] (SpD K mg 2 d_p_law_below) := by
  refine okD F sc_p_law_below rfl rfl fun cdv A outer s H E hr tk => ?_
  unfold b_p_law_below
  refine ss_cons ?_ ?_
  · refine sx_if (st_cmp op_isA od_is (so_var 0) so_non) ?_ ?_
    · refine ss_one ?_
      exact sx_ret so_bl
    · exact ss_nil
  refine ss_one ?_
  exact sx_ret (so_or (so_cmp op_isA od_is (so_var 1) so_non) (so_one (so_cmp (op_ltA hr.units0) od_lt (so_var 0) (so_var 1))))
abbrev s_p_law_lesser : Stmt := topS 35
abbrev N_p_law_lesser : List Str := ["one", "other"]
theorem sc_p_law_lesser : FnScope N_p_law_lesser ["one", "other"] (defScope s_p_law_lesser) := ⟨rfl, rfl, rfl, by decide +kernel, rfl, by decide +kernel, by decide +kernel⟩
theorem w_p_law_lesser {P : Program} {w : World} {K : PySem.W.Frag} {mg : Str → Option Value} {base : Heap} {f : Addr} {fd : FuncData} (F : Fun K "_law_lesser" "_law_lesser" s_p_law_lesser f fd) (T : Tx K mg) (G_p_law_below : GotF P w K mg base 1 "_law_below" 2 d_p_law_below) : FnOk P w K mg base (L2.CX P w) 2 f fd ["one", "other"] (SpD K mg 2 d_p_law_lesser) := by
  refine okD F sc_p_law_lesser rfl rfl fun cdv A outer s H E hr tk => ?_
  unfold b_p_law_lesser
  refine ss_cons ?_ ?_
  · refine sx_if (st_val (so_callG G_p_law_below hr tk rfl (sa_cons (so_var 1) (sa_cons (so_var 0) sa_nil)))) ?_ ?_
    · refine ss_one ?_
      exact sx_retMv 1
    · exact ss_nil
  refine ss_one ?_
  exact sx_retMv 0
abbrev s_p_law_plus : Stmt := topS 33
abbrev N_p_law_plus : List Str := ["one", "other"]
theorem sc_p_law_plus : FnScope N_p_law_plus ["one", "other"] (defScope s_p_law_plus) := ⟨rfl, rfl, rfl, by decide +kernel, rfl, by decide +kernel, by decide +kernel⟩
theorem w_p_law_plus {P : Program} {w : World} {K : PySem.W.Frag} {mg : Str → Option Value} {base : Heap} {f : Addr} {fd : FuncData} (F : Fun K "_law_plus" "_law_plus" s_p_law_plus f fd) (T : Tx K mg) : FnOk P w K mg base (L2.CX P w) 1 f fd ["one", "other"] (SpD K mg 2 d_p_law_plus) := by
  refine okD F sc_p_law_plus rfl rfl fun cdv A outer s H E hr tk => ?_
  unfold b_p_law_plus
  refine ss_cons ?_ ?_
  · refine sx_if (st_w (sw_or (st_cmp op_isA od_is (so_var 0) so_non) (sw_or1 (st_cmp op_isA od_is (so_var 1) so_non)))) ?_ ?_
    · refine ss_one ?_
      exact sx_ret so_non
    · exact ss_nil
  refine ss_one ?_
  exact sx_ret (so_bin op_addA od_add (so_var 0) (so_var 1))
abbrev s_p_law_ub_bests : Stmt := topS 42
abbrev N_p_law_ub_bests : List Str := ["rows", "numbers", "state", "best", "d"]
theorem sc_p_law_ub_bests : FnScope N_p_law_ub_bests ["rows", "numbers", "state"] (defScope s_p_law_ub_bests) := ⟨rfl, rfl, rfl, by decide +kernel, rfl, by decide +kernel, by decide +kernel⟩
theorem w_p_law_ub_bests {P : Program} {w : World} {K : PySem.W.Frag} {mg : Str → Option Value} {base : Heap} {f : Addr} {fd : FuncData} (F : Fun K "_law_ub_bests" "_law_ub_bests" s_p_law_ub_bests f fd) (T : Tx K mg) (G_p_law_lesser : GotF P w K mg base 2 "_law_lesser" 2 d_p_law_lesser) (G_p_law_plus : GotF P w K mg base 1 "_law_plus" 2 d_p_law_plus) : FnOk P w K mg base (L2.CX P w) 3 f fd ["rows", "numbers", "state"] (SpD K mg 3 d_p_law_ub_bests) := by
  refine okD F sc_p_law_ub_bests rfl rfl fun cdv A outer s H E hr tk => ?_
  unfold b_p_law_ub_bests
  refine ss_cons ?_ ?_
  · exact sx_set 3 sc_p_law_ub_bests.nd so_non
  refine ss_cons ?_ ?_
  · refine sx_for (passes_of rfl) rfl (si_rng1 rfl T.z_range (sa_cons (so_callB cr_len cd_len rfl T.z_len (by decide +kernel) (sa_cons (so_var 0) sa_nil)) sa_nil)) (sg_nm 4 sc_p_law_ub_bests.nd) ?_
    refine ss_one ?_
    exact sx_set 3 sc_p_law_ub_bests.nd (so_callG G_p_law_lesser hr tk rfl (sa_cons (so_var 3) (sa_cons (so_callG G_p_law_plus hr tk rfl (sa_cons (so_ix (so_ix (so_var 0) (so_var 4)) (so_var 2)) (sa_cons (so_ix (so_var 1) (so_var 4)) sa_nil))) sa_nil)))
  refine ss_cons ?_ ?_
  · refine sx_if (st_cmp op_isA od_is (so_var 3) so_non) ?_ ?_
    · refine ss_one ?_
      exact sx_ret (so_lst sa_nil)
    · exact ss_nil
  refine ss_one ?_
  exact sx_ret (so_lc1 [("d", 4)] rfl sc_p_law_ub_bests.nd (si_rng1 rfl T.z_range (sa_cons (so_callB cr_len cd_len rfl T.z_len (by decide +kernel) (sa_cons (so_var 0) sa_nil)) sa_nil)) (blkOk_by (N := N_p_law_ub_bests) (sc := defScope s_p_law_ub_bests) (by decide +kernel)) (fun _ _ _ _ _ => (sg_nm 4 sc_p_law_ub_bests.nd)) (fun _ _ _ _ _ => (st_cmp (op_eqD hr.units) od_eq (so_callG G_p_law_plus hr tk0 rfl (sa_cons (so_ix (so_ix (so_var 0) (so_var 4)) (so_var 2)) (sa_cons (so_ix (so_var 1) (so_var 4)) sa_nil))) (so_var 3))) (fun _ _ _ _ _ => (so_var 4)))
abbrev s_p_law_ub_shows : Stmt := topS 43
abbrev N_p_law_ub_shows : List Str := ["rows", "numbers", "lower", "upper", "first", "second", "one", "other"]
theorem sc_p_law_ub_shows : FnScope N_p_law_ub_shows ["rows", "numbers", "lower", "upper"] (defScope s_p_law_ub_shows) := ⟨rfl, rfl, rfl, by decide +kernel, rfl, by decide +kernel, by decide +kernel⟩
theorem w_p_law_ub_shows {P : Program} {w : World} {K : PySem.W.Frag} {mg : Str → Option Value} {base : Heap} {f : Addr} {fd : FuncData} (F : Fun K "_law_ub_shows" "_law_ub_shows" s_p_law_ub_shows f fd) (T : Tx K mg) (G_p_law_ub_bests : GotF P w K mg base 3 "_law_ub_bests" 3 d_p_law_ub_bests) : FnOk P w K mg base (L2.CX P w) 4 f fd ["rows", "numbers", "lower", "upper"] (SpD K mg 4 d_p_law_ub_shows) := by
  refine okD F sc_p_law_ub_shows rfl rfl fun cdv A outer s H E hr tk => ?_
  unfold b_p_law_ub_shows
  refine ss_cons ?_ ?_
  · refine sx_if (st_w (sw_or (st_cmp (op_neD hr.units) od_ne (so_callB cr_len cd_len rfl T.z_len (by decide +kernel) (sa_cons (so_var 1) sa_nil)) (so_callB cr_len cd_len rfl T.z_len (by decide +kernel) (sa_cons (so_var 0) sa_nil))) (sw_or (st_cmp (op_ltA hr.units0) od_lt (so_var 2) so_int) (sw_or (st_cmp (op_leA hr.units0) od_le (so_var 3) (so_var 2)) (sw_or1 (st_cmp op_ge od_cmp (so_var 3) (so_callB cr_len cd_len rfl T.z_len (by decide +kernel) (sa_cons (so_ix (so_var 0) so_int) sa_nil)))))))) ?_ ?_
    · refine ss_one ?_
      exact sx_ret so_bl
    · exact ss_nil
  refine ss_cons ?_ ?_
  · exact sx_set 4 sc_p_law_ub_shows.nd (so_callG G_p_law_ub_bests hr tk rfl (sa_cons (so_var 0) (sa_cons (so_var 1) (sa_cons (so_var 2) sa_nil))))
  refine ss_cons ?_ ?_
  · exact sx_set 5 sc_p_law_ub_shows.nd (so_callG G_p_law_ub_bests hr tk rfl (sa_cons (so_var 0) (sa_cons (so_var 1) (sa_cons (so_var 3) sa_nil))))
  refine ss_cons ?_ ?_
  · refine sx_for (passes_of rfl) rfl (si_seq (so_var 4)) (sg_nm 6 sc_p_law_ub_shows.nd) ?_
    refine ss_one ?_
    refine sx_for (passes_of rfl) rfl (si_seq (so_var 5)) (sg_nm 7 sc_p_law_ub_shows.nd) ?_
    refine ss_one ?_
    refine sx_if (st_w (sw_and (st_cmp op_gt od_cmp (so_var 6) (so_var 7)) (sw_and1 (st_w (sw_or (st_cmp op_notIn_seq (od_in true) (so_var 7) (so_var 4)) (sw_or1 (st_cmp op_notIn_seq (od_in true) (so_var 6) (so_var 5)))))))) ?_ ?_
    · refine ss_one ?_
      exact sx_ret so_bl
    · exact ss_nil
  refine ss_one ?_
  exact sx_ret so_bl
abbrev s_at_most : Stmt := topS 10
abbrev N_at_most : List Str := ["one", "other"]
theorem sc_at_most : FnScope N_at_most ["one", "other"] (defScope s_at_most) := ⟨rfl, rfl, rfl, by decide +kernel, rfl, by decide +kernel, by decide +kernel⟩
theorem w_at_most {P : Program} {w : World} {K : PySem.W.Frag} {mg : Str → Option Value} {base : Heap} {f : Addr} {fd : FuncData} (F : Fun K "at_most" "at_most" s_at_most f fd) (T : Tx K mg) : FnOk P w K mg base (L2.CX P w) 1 f fd ["one", "other"] (SpD K mg 2 d_at_most) := by
  refine okD F sc_at_most rfl rfl fun cdv A outer s H E hr tk => ?_
  unfold b_at_most
  refine ss_cons ?_ ?_
  · refine sx_if (st_cmp op_isA od_is (so_var 1) so_non) ?_ ?_
    · refine ss_one ?_
      exact sx_ret so_bl
    · exact ss_nil
  refine ss_one ?_
  exact sx_ret (so_and (so_cmp op_isNotA od_isNot (so_var 0) so_non) (so_one (so_cmp (op_leA hr.units0) od_le (so_var 0) (so_var 1))))
abbrev s_lesser : Stmt := topS 12
abbrev N_lesser : List Str := ["one", "other"]
theorem sc_lesser : FnScope N_lesser ["one", "other"] (defScope s_lesser) := ⟨rfl, rfl, rfl, by decide +kernel, rfl, by decide +kernel, by decide +kernel⟩
theorem w_lesser {P : Program} {w : World} {K : PySem.W.Frag} {mg : Str → Option Value} {base : Heap} {f : Addr} {fd : FuncData} (F : Fun K "lesser" "lesser" s_lesser f fd) (T : Tx K mg) (G_at_most : GotF P w K mg base 1 "at_most" 2 d_at_most) : FnOk P w K mg base (L2.CX P w) 2 f fd ["one", "other"] (SpD K mg 2 d_lesser) := by
  refine okD F sc_lesser rfl rfl fun cdv A outer s H E hr tk => ?_
  unfold b_lesser
  refine ss_one ?_
  exact sx_ret (so_if (st_val (so_callG G_at_most hr tk rfl (sa_cons (so_var 0) (sa_cons (so_var 1) sa_nil)))) (so_var 0) (so_var 1))
abbrev s_least_of : Stmt := topS 13
abbrev N_least_of : List Str := ["row", "best", "amount"]
theorem sc_least_of : FnScope N_least_of ["row"] (defScope s_least_of) := ⟨rfl, rfl, rfl, by decide +kernel, rfl, by decide +kernel, by decide +kernel⟩
theorem w_least_of {P : Program} {w : World} {K : PySem.W.Frag} {mg : Str → Option Value} {base : Heap} {f : Addr} {fd : FuncData} (F : Fun K "least_of" "least_of" s_least_of f fd) (T : Tx K mg) (G_lesser : GotF P w K mg base 2 "lesser" 2 d_lesser) : FnOk P w K mg base (L2.CX P w) 3 f fd ["row"] (SpD K mg 1 d_least_of) := by
  refine okD F sc_least_of rfl rfl fun cdv A outer s H E hr tk => ?_
  unfold b_least_of
  refine ss_cons ?_ ?_
  · exact sx_set 1 sc_least_of.nd so_non
  refine ss_cons ?_ ?_
  · refine sx_for (passes_of rfl) rfl (si_seq (so_var 0)) (sg_nm 2 sc_least_of.nd) ?_
    refine ss_one ?_
    exact sx_set 1 sc_least_of.nd (so_callG G_lesser hr tk rfl (sa_cons (so_var 1) (sa_cons (so_var 2) sa_nil)))
  refine ss_one ?_
  exact sx_retMv 1
abbrev s_p_bent_bests : Stmt := topS 20
abbrev N_p_bent_bests : List Str := ["table", "numbers", "state", "prices", "least", "row", "number", "deed", "price"]
theorem sc_p_bent_bests : FnScope N_p_bent_bests ["table", "numbers", "state"] (defScope s_p_bent_bests) := ⟨rfl, rfl, rfl, by decide +kernel, rfl, by decide +kernel, by decide +kernel⟩
theorem w_p_bent_bests {P : Program} {w : World} {K : PySem.W.Frag} {mg : Str → Option Value} {base : Heap} {f : Addr} {fd : FuncData} (F : Fun K "_bent_bests" "_bent_bests" s_p_bent_bests f fd) (T : Tx K mg) (G_plus : GotF P w K mg base 1 "plus" 2 d_plus) (G_least_of : GotF P w K mg base 3 "least_of" 1 d_least_of) : FnOk P w K mg base (L2.CX P w) 4 f fd ["table", "numbers", "state"] (SpD K mg 3 d_p_bent_bests) := by
  refine okD F sc_p_bent_bests rfl rfl fun cdv A outer s H E hr tk => ?_
  unfold b_p_bent_bests
  refine ss_cons ?_ ?_
  · exact sx_setLc 3 [("row", 5), ("number", 6)] rfl sc_p_bent_bests.nd (si_zip rfl T.z_zip (sa_cons (so_fld T.a_rows (so_var 0)) (sa_cons (so_var 1) sa_nil))) (blkOk_by (N := N_p_bent_bests) (sc := defScope s_p_bent_bests) (by decide +kernel)) (fun _ _ _ _ _ => (sg_tp rfl (sgs_cons 5 sc_p_bent_bests.nd (sgs_cons 6 sc_p_bent_bests.nd sgs_nil)))) (fun _ _ _ _ _ => (so_callG G_plus hr tk0 rfl (sa_cons (so_ix (so_var 5) (so_var 2)) (sa_cons (so_var 6) sa_nil)))) (hsw := sw_true rfl rfl rfl (by decide +kernel))
  refine ss_cons ?_ ?_
  · exact sx_set 4 sc_p_bent_bests.nd (so_callG G_least_of hr tk rfl (sa_cons (so_var 3) sa_nil))
  refine ss_cons ?_ ?_
  · refine sx_if (st_cmp op_isA od_is (so_var 4) so_non) ?_ ?_
    · refine ss_one ?_
      exact sx_ret (so_tup sa_nil)
    · exact ss_nil
  refine ss_one ?_
  refine sx_frz 3 ?_
  exact sx_ret (so_callT call_tuple_of cd_tuple rfl T.z_tuple (by decide +kernel) (sa_cons (so_lc1 [("deed", 7), ("price", 8)] rfl sc_p_bent_bests.nd (si_enum rfl T.z_enumerate (sa_cons (so_var 3) sa_nil)) (blkOk_by (N := N_p_bent_bests) (sc := defScope s_p_bent_bests) (by decide +kernel)) (fun _ _ _ _ _ => (sg_tp rfl (sgs_cons 7 sc_p_bent_bests.nd (sgs_cons 8 sc_p_bent_bests.nd sgs_nil)))) (fun _ _ _ _ _ => (st_cmp (op_eqD hr.units) od_eq (so_var 8) (so_var 4))) (fun _ _ _ _ _ => (so_var 7))) sa_nil))
abbrev s_shows_unbent : Stmt := topS 21
abbrev N_shows_unbent : List Str := ["table", "paper", "lower", "upper", "one", "other"]
theorem sc_shows_unbent : FnScope N_shows_unbent ["table", "paper"] (defScope s_shows_unbent) := ⟨rfl, rfl, rfl, by decide +kernel, rfl, by decide +kernel, by decide +kernel⟩
theorem w_shows_unbent {P : Program} {w : World} {K : PySem.W.Frag} {mg : Str → Option Value} {base : Heap} {f : Addr} {fd : FuncData} (F : Fun K "shows_unbent" "shows_unbent" s_shows_unbent f fd) (T : Tx K mg) (G_p_bent_bests : GotF P w K mg base 4 "_bent_bests" 3 d_p_bent_bests) : FnOk P w K mg base (L2.CX P w) 5 f fd ["table", "paper"] (SpD K mg 2 d_shows_unbent) := by
  refine okD F sc_shows_unbent rfl rfl fun cdv A outer s H E hr tk => ?_
  unfold b_shows_unbent
  refine ss_cons ?_ ?_
  · refine sx_if (st_w (sw_or (st_not (st_val (so_isiG rfl T.z_isinstance T.i_Unbent (so_var 1) rfl))) (sw_or1 (st_cmp (op_neD hr.units) od_ne (so_callB cr_len cd_len rfl T.z_len (by decide +kernel) (sa_cons (so_fld T.a_numbers (so_var 1)) sa_nil)) (so_callB cr_len cd_len rfl T.z_len (by decide +kernel) (sa_cons (so_fld T.a_rows (so_var 0)) sa_nil)))))) ?_ ?_
    · refine ss_one ?_
      exact sx_ret so_bl
    · exact ss_nil
  refine ss_cons ?_ ?_
  · refine sx_if (st_not (st_chain so_int (ch_cons (op_leA hr.units0) od_le (so_fld T.a_lower (so_var 1)) (ch_cons (op_ltA hr.units0) od_lt (so_fld T.a_upper (so_var 1)) (ch_last (op_ltA hr.units0) od_lt (so_fld T.a_states (so_var 0))))))) ?_ ?_
    · refine ss_one ?_
      exact sx_ret so_bl
    · exact ss_nil
  refine ss_cons ?_ ?_
  · exact sx_set 2 sc_shows_unbent.nd (so_callG G_p_bent_bests hr tk rfl (sa_cons (so_var 0) (sa_cons (so_fld T.a_numbers (so_var 1)) (sa_cons (so_fld T.a_lower (so_var 1)) sa_nil))))
  refine ss_cons ?_ ?_
  · exact sx_set 3 sc_shows_unbent.nd (so_callG G_p_bent_bests hr tk rfl (sa_cons (so_var 0) (sa_cons (so_fld T.a_numbers (so_var 1)) (sa_cons (so_fld T.a_upper (so_var 1)) sa_nil))))
  refine ss_cons ?_ ?_
  · refine sx_for (passes_of rfl) rfl (si_seq (so_var 2)) (sg_nm 4 sc_shows_unbent.nd) ?_
    refine ss_one ?_
    refine sx_for (passes_of rfl) rfl (si_seq (so_var 3)) (sg_nm 5 sc_shows_unbent.nd) ?_
    refine ss_one ?_
    refine sx_if (st_w (sw_and (st_cmp op_gt od_cmp (so_var 4) (so_var 5)) (sw_and1 (st_w (sw_or (st_cmp op_notIn_seq (od_in true) (so_var 5) (so_var 2)) (sw_or1 (st_cmp op_notIn_seq (od_in true) (so_var 4) (so_var 3)))))))) ?_ ?_
    · refine ss_one ?_
      exact sx_ret so_bl
    · exact ss_nil
  refine ss_one ?_
  exact sx_ret so_bl
abbrev s_p_law_ub_made : Stmt := topS 45
abbrev N_p_law_ub_made : List Str := ["table", "rows", "due", "paper", "part"]
theorem sc_p_law_ub_made : FnScope N_p_law_ub_made ["table", "rows", "due"] (defScope s_p_law_ub_made) := ⟨rfl, rfl, rfl, by decide +kernel, rfl, by decide +kernel, by decide +kernel⟩
theorem w_p_law_ub_made {P : Program} {w : World} {K : PySem.W.Frag} {mg : Str → Option Value} {base : Heap} {f : Addr} {fd : FuncData} (F : Fun K "_law_ub_made" "_law_ub_made" s_p_law_ub_made f fd) (T : Tx K mg) (G_unbent : GotF P w K mg base 5 "unbent" 1 d_unbent) (G_p_law_whole : GotF P w K mg base 1 "_law_whole" 1 d_p_law_whole) (G_p_law_ub_shows : GotF P w K mg base 4 "_law_ub_shows" 4 d_p_law_ub_shows) (G_shows_unbent : GotF P w K mg base 5 "shows_unbent" 2 d_shows_unbent) : FnOk P w K mg base (L2.CX P w) 6 f fd ["table", "rows", "due"] (SpD K mg 3 d_p_law_ub_made) := by
  refine okD F sc_p_law_ub_made rfl rfl fun cdv A outer s H E hr tk => ?_
  unfold b_p_law_ub_made
  refine ss_cons ?_ ?_
  · exact sx_set 3 sc_p_law_ub_made.nd (so_callG G_unbent hr tk rfl (sa_cons (so_var 0) sa_nil))
  refine ss_cons ?_ ?_
  · refine sx_if (st_cmp (op_eqD hr.units) od_eq (so_callB cr_len cd_len rfl T.z_len (by decide +kernel) (sa_cons (so_var 2) sa_nil)) so_int) ?_ ?_
    · refine ss_one ?_
      exact sx_ret (so_cmp op_isA od_is (so_var 3) so_non)
    · exact ss_nil
  refine ss_cons ?_ ?_
  · refine sx_if (st_w (sw_or (st_not (st_val (so_isiG rfl T.z_isinstance T.i_Unbent (so_var 3) rfl))) (sw_or1 (st_not (st_val (so_isi1 rfl T.z_isinstance (so_fld T.a_numbers (so_var 3)) rfl T.z_tuple (by decide +kernel))))))) ?_ ?_
    · refine ss_one ?_
      exact sx_ret so_bl
    · exact ss_nil
  refine ss_cons ?_ ?_
  · refine sx_for (passes_of rfl) rfl (si_seq (so_bin op_addA od_add (so_callT call_list_of cd_list rfl T.z_list (by decide +kernel) (sa_cons (so_fld T.a_numbers (so_var 3)) sa_nil)) (so_lst (sa_cons (so_fld T.a_lower (so_var 3)) (sa_cons (so_fld T.a_upper (so_var 3)) sa_nil))))) (sg_nm 4 sc_p_law_ub_made.nd) ?_
    refine ss_one ?_
    refine sx_if (st_not (st_val (so_callG G_p_law_whole hr tk rfl (sa_cons (so_var 4) sa_nil)))) ?_ ?_
    · refine ss_one ?_
      exact sx_ret so_bl
    · exact ss_nil
  refine ss_cons ?_ ?_
  · refine sx_if (st_not (st_val (so_callG G_p_law_ub_shows hr tk rfl (sa_cons (so_var 1) (sa_cons (so_callT call_list_of cd_list rfl T.z_list (by decide +kernel) (sa_cons (so_fld T.a_numbers (so_var 3)) sa_nil)) (sa_cons (so_fld T.a_lower (so_var 3)) (sa_cons (so_fld T.a_upper (so_var 3)) sa_nil))))))) ?_ ?_
    · refine ss_one ?_
      exact sx_ret so_bl
    · exact ss_nil
  refine ss_one ?_
  exact sx_ret (so_cmp op_isA od_is (so_callG G_shows_unbent hr tk rfl (sa_cons (so_var 0) (sa_cons (so_var 3) sa_nil))) so_bl)
abbrev s_p_law_ub_own : Stmt := topS 46
abbrev N_p_law_ub_own : List Str := ["rows", "due", "d", "e", "s", "t", "gap", "numbers", "row"]
theorem sc_p_law_ub_own : FnScope N_p_law_ub_own ["rows", "due"] (defScope s_p_law_ub_own) := ⟨rfl, rfl, rfl, by decide +kernel, rfl, by decide +kernel, by decide +kernel⟩
theorem w_p_law_ub_own {P : Program} {w : World} {K : PySem.W.Frag} {mg : Str → Option Value} {base : Heap} {f : Addr} {fd : FuncData} (F : Fun K "_law_ub_own" "_law_ub_own" s_p_law_ub_own f fd) (T : Tx K mg) : FnOk P w K mg base (L2.CX P w) 1 f fd ["rows", "due"] (SpD K mg 2 d_p_law_ub_own) := by
  refine okD F sc_p_law_ub_own rfl rfl fun cdv A outer s H E hr tk => ?_
  unfold b_p_law_ub_own
  refine ss_cons ?_ ?_
  · exact sx_set 2 sc_p_law_ub_own.nd (so_ix (so_var 1) so_int)
  refine ss_cons ?_ ?_
  · exact sx_set 3 sc_p_law_ub_own.nd (so_ix (so_var 1) so_int)
  refine ss_cons ?_ ?_
  · exact sx_set 4 sc_p_law_ub_own.nd (so_ix (so_var 1) so_int)
  refine ss_cons ?_ ?_
  · exact sx_set 5 sc_p_law_ub_own.nd (so_ix (so_var 1) so_int)
  refine ss_cons ?_ ?_
  · exact sx_set 6 sc_p_law_ub_own.nd so_int
  refine ss_cons ?_ ?_
  · refine sx_if (st_cmp op_isNotA od_isNot (so_ix (so_ix (so_var 0) (so_var 2)) (so_var 4)) so_non) ?_ ?_
    · refine ss_one ?_
      exact sx_set 6 sc_p_law_ub_own.nd (so_bin op_sub od_sub (so_ix (so_ix (so_var 0) (so_var 2)) (so_var 4)) (so_ix (so_ix (so_var 0) (so_var 3)) (so_var 4)))
    · refine ss_one ?_
      refine sx_if (st_cmp op_isNotA od_isNot (so_ix (so_ix (so_var 0) (so_var 3)) (so_var 5)) so_non) ?_ ?_
      · refine ss_one ?_
        exact sx_set 6 sc_p_law_ub_own.nd (so_bin op_sub od_sub (so_ix (so_ix (so_var 0) (so_var 2)) (so_var 5)) (so_ix (so_ix (so_var 0) (so_var 3)) (so_var 5)))
      · exact ss_nil
  refine ss_cons ?_ ?_
  · exact sx_setLc 7 [("row", 8)] rfl sc_p_law_ub_own.nd (si_seq (so_var 0)) (blkOk_by (N := N_p_law_ub_own) (sc := defScope s_p_law_ub_own) (by decide +kernel)) (fun _ _ _ _ _ => (sg_nm 8 sc_p_law_ub_own.nd)) (fun _ _ _ _ _ => (so_bin op_pow od_pow so_int so_int)) (hsw := sw_true rfl rfl rfl (by decide +kernel))
  refine ss_cons ?_ ?_
  · exact sx_setIx 7 so_int (so_var 2)
  refine ss_cons ?_ ?_
  · exact sx_setIx 7 (so_bin op_addA od_add (so_var 6) so_int) (so_var 3)
  refine ss_one ?_
  refine sx_frz 7 ?_
  exact sx_ret (so_lst (sa_cons (so_var 7) (sa_cons (so_var 4) (sa_cons (so_var 5) sa_nil))))
abbrev s_p_law_ub_judged : Stmt := topS 44
abbrev N_p_law_ub_judged : List Str := ["table", "rows", "numbers", "lower", "upper", "due", "paper"]
theorem sc_p_law_ub_judged : FnScope N_p_law_ub_judged ["table", "rows", "numbers", "lower", "upper"] (defScope s_p_law_ub_judged) := ⟨rfl, rfl, rfl, by decide +kernel, rfl, by decide +kernel, by decide +kernel⟩
theorem w_p_law_ub_judged {P : Program} {w : World} {K : PySem.W.Frag} {mg : Str → Option Value} {base : Heap} {f : Addr} {fd : FuncData} (F : Fun K "_law_ub_judged" "_law_ub_judged" s_p_law_ub_judged f fd) (T : Tx K mg) (G_p_law_ub_shows : GotF P w K mg base 4 "_law_ub_shows" 4 d_p_law_ub_shows) (G_Unbent_init : GotIN P w K mg base 3 "Unbent" 3 d_Unbent_init 3 [] (idS 3) []) (G_shows_unbent : GotF P w K mg base 5 "shows_unbent" 2 d_shows_unbent) : FnOk P w K mg base (L2.CX P w) 6 f fd ["table", "rows", "numbers", "lower", "upper"] (SpD K mg 5 d_p_law_ub_judged) := by
  refine okD F sc_p_law_ub_judged rfl rfl fun cdv A outer s H E hr tk => ?_
  unfold b_p_law_ub_judged
  refine ss_cons ?_ ?_
  · exact sx_set 5 sc_p_law_ub_judged.nd (so_callG G_p_law_ub_shows hr tk rfl (sa_cons (so_var 1) (sa_cons (so_var 2) (sa_cons (so_var 3) (sa_cons (so_var 4) sa_nil)))))
  refine ss_cons ?_ ?_
  · exact sx_set 6 sc_p_law_ub_judged.nd (so_makeN G_Unbent_init hr tk rfl (sa_cons (so_callT call_list_of cd_list rfl T.z_list (by decide +kernel) (sa_cons (so_var 2) sa_nil)) (sa_cons (so_var 3) (sa_cons (so_var 4) sa_nil))) sk_nil)
  refine ss_cons ?_ ?_
  · refine sx_if (st_val (so_var 5)) ?_ ?_
    · refine ss_one ?_
      exact sx_ret (so_cmp op_isA od_is (so_callG G_shows_unbent hr tk rfl (sa_cons (so_var 0) (sa_cons (so_var 6) sa_nil))) so_bl)
    · exact ss_nil
  refine ss_one ?_
  exact sx_ret (so_cmp op_isA od_is (so_callG G_shows_unbent hr tk rfl (sa_cons (so_var 0) (sa_cons (so_var 6) sa_nil))) so_bl)
abbrev s_p_law_ub_spoilt : Stmt := topS 47
abbrev N_p_law_ub_spoilt : List Str := ["table", "rows", "own", "stream", "numbers", "lower", "upper", "place", "changed", "tried", "one", "thing"]
theorem sc_p_law_ub_spoilt : FnScope N_p_law_ub_spoilt ["table", "rows", "own", "stream"] (defScope s_p_law_ub_spoilt) := ⟨rfl, rfl, rfl, by decide +kernel, rfl, by decide +kernel, by decide +kernel⟩
theorem w_p_law_ub_spoilt {P : Program} {w : World} {K : PySem.W.Frag} {mg : Str → Option Value} {base : Heap} {f : Addr} {fd : FuncData} (F : Fun K "_law_ub_spoilt" "_law_ub_spoilt" s_p_law_ub_spoilt f fd) (T : Tx K mg) (G_p_law_next : GotF P w K mg base 1 "_law_next" 2 d_p_law_next) (G_p_law_ub_judged : GotF P w K mg base 6 "_law_ub_judged" 5 d_p_law_ub_judged) (G_shows_unbent : GotF P w K mg base 5 "shows_unbent" 2 d_shows_unbent) : FnOk P w K mg base (L2.CX P w) 7 f fd ["table", "rows", "own", "stream"] (SpD K mg 4 d_p_law_ub_spoilt) := by
  refine okD F sc_p_law_ub_spoilt rfl rfl fun cdv A outer s H E hr tk => ?_
  unfold b_p_law_ub_spoilt
  refine ss_cons ?_ ?_
  · exact sx_set 4 sc_p_law_ub_spoilt.nd (so_ix (so_var 2) so_int)
  refine ss_cons ?_ ?_
  · exact sx_set 5 sc_p_law_ub_spoilt.nd (so_ix (so_var 2) so_int)
  refine ss_cons ?_ ?_
  · exact sx_set 6 sc_p_law_ub_spoilt.nd (so_ix (so_var 2) so_int)
  refine ss_cons ?_ ?_
  · exact sx_set 7 sc_p_law_ub_spoilt.nd (so_callG G_p_law_next hr tk rfl (sa_cons (so_var 3) (sa_cons (so_callB cr_len cd_len rfl T.z_len (by decide +kernel) (sa_cons (so_var 1) sa_nil)) sa_nil)))
  refine ss_cons ?_ ?_
  · exact sx_setO 8 sc_p_law_ub_spoilt.nd (so_callT call_list_of cd_list rfl T.z_list (by decide +kernel) (sa_cons (so_var 4) sa_nil))
  refine ss_cons ?_ ?_
  · exact sx_setIx 8 (so_bin op_addA od_add (so_ix (so_var 8) (so_var 7)) (so_ix (so_lst (sa_cons so_int (sa_cons (so_un un_neg ud_neg so_int) (sa_cons (so_bin op_pow od_pow so_int so_int) (sa_cons (so_un un_neg ud_neg (so_bin op_pow od_pow so_int so_int)) sa_nil))))) (so_callG G_p_law_next hr tk rfl (sa_cons (so_var 3) (sa_cons so_int sa_nil))))) (so_var 7)
  refine ss_cons ?_ ?_
  · exact sx_setO 9 sc_p_law_ub_spoilt.nd (so_lst (sa_cons (so_lst (sa_cons (so_var 4) (sa_cons (so_var 6) (sa_cons (so_var 5) sa_nil)))) (sa_cons (so_lst (sa_cons (so_var 4) (sa_cons (so_var 5) (sa_cons (so_var 5) sa_nil)))) (sa_cons (so_lst (sa_cons (so_var 4) (sa_cons (so_un un_neg ud_neg so_int) (sa_cons (so_var 6) sa_nil)))) (sa_cons (so_lst (sa_cons (so_var 4) (sa_cons (so_var 5) (sa_cons (so_callB cr_len cd_len rfl T.z_len (by decide +kernel) (sa_cons (so_ix (so_var 1) so_int) sa_nil)) sa_nil)))) sa_nil)))))
  refine ss_cons ?_ ?_
  · exact sx_append 9 (so_lst (sa_cons (so_bin op_addA od_add (so_var 4) (so_lst (sa_cons so_int sa_nil))) (sa_cons (so_var 5) (sa_cons (so_var 6) sa_nil))))
  refine ss_cons ?_ ?_
  · exact sx_append 9 (so_lst (sa_cons (so_slice (so_var 4) sp_none (sp_some (so_bin op_sub od_sub (so_callB cr_len cd_len rfl T.z_len (by decide +kernel) (sa_cons (so_var 4) sa_nil)) so_int))) (sa_cons (so_var 5) (sa_cons (so_var 6) sa_nil))))
  refine ss_cons ?_ ?_
  · exact sx_append 9 (so_lst (sa_cons (so_lst sa_nil) (sa_cons (so_var 5) (sa_cons (so_var 6) sa_nil))))
  refine ss_cons ?_ ?_
  · refine sx_frz 8 ?_
    exact sx_append 9 (so_lst (sa_cons (so_var 8) (sa_cons (so_var 5) (sa_cons (so_var 6) sa_nil))))
  refine ss_cons ?_ ?_
  · refine sx_frz 9 ?_
    refine sx_for (passes_of rfl) rfl (si_seq (so_var 9)) (sg_nm 10 sc_p_law_ub_spoilt.nd) ?_
    refine ss_one ?_
    refine sx_if (st_not (st_val (so_callG G_p_law_ub_judged hr tk rfl (sa_cons (so_var 0) (sa_cons (so_var 1) (sa_cons (so_ix (so_var 10) so_int) (sa_cons (so_ix (so_var 10) so_int) (sa_cons (so_ix (so_var 10) so_int) sa_nil)))))))) ?_ ?_
    · refine ss_one ?_
      exact sx_ret so_bl
    · exact ss_nil
  refine ss_cons ?_ ?_
  · refine sx_for (passes_of rfl) rfl (si_seq (so_lst (sa_cons so_non (sa_cons so_bl (sa_cons (so_tup (sa_cons (so_callT call_tuple_of cd_tuple rfl T.z_tuple (by decide +kernel) (sa_cons (so_var 4) sa_nil)) (sa_cons (so_var 5) (sa_cons (so_var 6) sa_nil)))) (sa_cons (so_lst (sa_cons (so_callT call_list_of cd_list rfl T.z_list (by decide +kernel) (sa_cons (so_var 4) sa_nil)) (sa_cons (so_var 5) (sa_cons (so_var 6) sa_nil)))) (sa_cons (so_var 0) sa_nil))))))) (sg_nm 11 sc_p_law_ub_spoilt.nd) ?_
    refine ss_one ?_
    refine sx_if (st_cmp op_isNotA od_isNot (so_callG G_shows_unbent hr tk rfl (sa_cons (so_var 0) (sa_cons (so_var 11) sa_nil))) so_bl) ?_ ?_
    · refine ss_one ?_
      exact sx_ret so_bl
    · exact ss_nil
  refine ss_one ?_
  exact sx_ret so_bl
abbrev s_p_law_ub_great : Stmt := topS 52
abbrev N_p_law_ub_great : List Str := ["stream", "rows", "d", "s", "due", "table", "own", "row"]
theorem sc_p_law_ub_great : FnScope N_p_law_ub_great ["stream"] (defScope s_p_law_ub_great) := ⟨rfl, rfl, rfl, by decide +kernel, rfl, by decide +kernel, by decide +kernel⟩
theorem w_p_law_ub_great {P : Program} {w : World} {K : PySem.W.Frag} {mg : Str → Option Value} {base : Heap} {f : Addr} {fd : FuncData} (F : Fun K "_law_ub_great" "_law_ub_great" s_p_law_ub_great f fd) (T : Tx K mg) (G_p_law_bt_great : GotF P w K mg base 2 "_law_bt_great" 1 d_p_law_bt_great) (G_p_law_next : GotF P w K mg base 1 "_law_next" 2 d_p_law_next) (G_Table_init : GotIN P w K mg base 4 "Table" 1 d_Table_init 1 [] (idS 1) []) (G_p_law_ub_made : GotF P w K mg base 6 "_law_ub_made" 3 d_p_law_ub_made) (G_p_law_ub_own : GotF P w K mg base 1 "_law_ub_own" 2 d_p_law_ub_own) (G_p_law_ub_judged : GotF P w K mg base 6 "_law_ub_judged" 5 d_p_law_ub_judged) (G_p_law_ub_spoilt : GotF P w K mg base 7 "_law_ub_spoilt" 4 d_p_law_ub_spoilt) : FnOk P w K mg base (L2.CX P w) 8 f fd ["stream"] (SpD K mg 1 d_p_law_ub_great) := by
  refine okD F sc_p_law_ub_great rfl rfl fun cdv A outer s H E hr tk => ?_
  unfold b_p_law_ub_great
  refine ss_cons ?_ ?_
  · exact sx_setO 1 sc_p_law_ub_great.nd (so_callG G_p_law_bt_great hr tk rfl (sa_cons (so_var 0) sa_nil))
  refine ss_cons ?_ ?_
  · exact sx_set 2 sc_p_law_ub_great.nd (so_callG G_p_law_next hr tk rfl (sa_cons (so_var 0) (sa_cons so_int sa_nil)))
  refine ss_cons ?_ ?_
  · exact sx_set 3 sc_p_law_ub_great.nd (so_callG G_p_law_next hr tk rfl (sa_cons (so_var 0) (sa_cons (so_bin op_sub od_sub (so_callB cr_len cd_len rfl T.z_len (by decide +kernel) (sa_cons (so_ix (so_var 1) so_int) sa_nil)) so_int) sa_nil)))
  refine ss_cons ?_ ?_
  · exact sx_setIx2 1 (so_bin op_addA od_add (so_ix (so_ix (so_var 1) (so_var 2)) (so_var 3)) so_int) (so_var 2) (so_var 3)
  refine ss_cons ?_ ?_
  · exact sx_set 4 sc_p_law_ub_great.nd (so_lst (sa_cons (so_var 2) (sa_cons (so_bin op_addA od_add (so_var 2) so_int) (sa_cons (so_var 3) (sa_cons (so_bin op_addA od_add (so_var 3) so_int) sa_nil)))))
  refine ss_cons ?_ ?_
  · refine sx_if (st_w (sw_and (st_cmp op_gt od_cmp (so_var 2) so_int) (sw_and1 (st_cmp op_gt od_cmp (so_var 3) so_int)))) ?_ ?_
    · refine ss_one ?_
      exact sx_set 4 sc_p_law_ub_great.nd (so_lst (sa_cons (so_bin op_sub od_sub (so_var 2) so_int) (sa_cons (so_var 2) (sa_cons (so_bin op_sub od_sub (so_var 3) so_int) (sa_cons (so_var 3) sa_nil)))))
    · exact ss_nil
  refine ss_cons ?_ ?_
  · refine sx_frz 1 ?_
    exact sx_set 5 sc_p_law_ub_great.nd (so_makeN G_Table_init hr tk rfl (sa_cons (so_lc [("row", 7)] rfl sc_p_law_ub_great.nd (si_seq (so_var 1)) (blkOk_by (N := N_p_law_ub_great) (sc := defScope s_p_law_ub_great) (by decide +kernel)) (fun _ _ _ _ _ => (sg_nm 7 sc_p_law_ub_great.nd)) (fun _ _ _ _ _ => (so_callT call_list_of cd_list rfl T.z_list (by decide +kernel) (sa_cons (so_var 7) sa_nil)))) sa_nil) sk_nil)
  refine ss_cons ?_ ?_
  · refine sx_if (st_not (st_val (so_callG G_p_law_ub_made hr tk rfl (sa_cons (so_var 5) (sa_cons (so_var 1) (sa_cons (so_var 4) sa_nil)))))) ?_ ?_
    · refine ss_one ?_
      exact sx_ret so_bl
    · exact ss_nil
  refine ss_cons ?_ ?_
  · exact sx_set 6 sc_p_law_ub_great.nd (so_callG G_p_law_ub_own hr tk rfl (sa_cons (so_var 1) (sa_cons (so_var 4) sa_nil)))
  refine ss_one ?_
  exact sx_ret (so_and (so_callG G_p_law_ub_judged hr tk rfl (sa_cons (so_var 5) (sa_cons (so_var 1) (sa_cons (so_ix (so_var 6) so_int) (sa_cons (so_ix (so_var 6) so_int) (sa_cons (so_ix (so_var 6) so_int) sa_nil)))))) (so_one (so_callG G_p_law_ub_spoilt hr tk rfl (sa_cons (so_var 5) (sa_cons (so_var 1) (sa_cons (so_var 6) (sa_cons (so_var 0) sa_nil)))))))
abbrev s_p_law_bt_free : Stmt := topS 39
abbrev N_p_law_bt_free : List Str := ["stream", "deeds", "states", "scale", "rows", "d", "line", "s", "word", "cost"]
theorem sc_p_law_bt_free : FnScope N_p_law_bt_free ["stream", "deeds", "states", "scale"] (defScope s_p_law_bt_free) := ⟨rfl, rfl, rfl, by decide +kernel, rfl, by decide +kernel, by decide +kernel⟩
theorem w_p_law_bt_free {P : Program} {w : World} {K : PySem.W.Frag} {mg : Str → Option Value} {base : Heap} {f : Addr} {fd : FuncData} (F : Fun K "_law_bt_free" "_law_bt_free" s_p_law_bt_free f fd) (T : Tx K mg) (G_p_law_next : GotF P w K mg base 1 "_law_next" 2 d_p_law_next) : FnOk P w K mg base (L2.CX P w) 2 f fd ["stream", "deeds", "states", "scale"] (SpD K mg 4 d_p_law_bt_free) := by
  refine okD F sc_p_law_bt_free rfl rfl fun cdv A outer s H E hr tk => ?_
  unfold b_p_law_bt_free
  refine ss_cons ?_ ?_
  · exact sx_setO 4 sc_p_law_bt_free.nd (so_lst sa_nil)
  refine ss_cons ?_ ?_
  · refine sx_for (passes_of rfl) rfl (si_rng1 rfl T.z_range (sa_cons (so_var 1) sa_nil)) (sg_nm 5 sc_p_law_bt_free.nd) ?_
    refine ss_cons ?_ ?_
    · exact sx_setO 6 sc_p_law_bt_free.nd (so_lst sa_nil)
    refine ss_cons ?_ ?_
    · refine sx_for (passes_of rfl) rfl (si_rng1 rfl T.z_range (sa_cons (so_var 2) sa_nil)) (sg_nm 7 sc_p_law_bt_free.nd) ?_
      refine ss_cons ?_ ?_
      · exact sx_set 8 sc_p_law_bt_free.nd (so_callG G_p_law_next hr tk rfl (sa_cons (so_var 0) (sa_cons so_int sa_nil)))
      refine ss_cons ?_ ?_
      · exact sx_set 9 sc_p_law_bt_free.nd (so_callG G_p_law_next hr tk rfl (sa_cons (so_var 0) (sa_cons so_int sa_nil)))
      refine ss_one ?_
      refine sx_if (st_cmp (op_eqD hr.units) od_eq (so_var 8) so_int) ?_ ?_
      · refine ss_one ?_
        exact sx_append 6 so_non
      · refine ss_one ?_
        exact sx_append 6 (so_bin op_mulA od_mul (so_var 9) (so_var 3))
    refine ss_one ?_
    exact sx_appendMv 4 6
  refine ss_one ?_
  exact sx_retMv 4
abbrev s_p_law_bt_cut : Stmt := topS 38
abbrev N_p_law_bt_cut : List Str := ["stream", "rows", "word", "low", "high", "chosen", "lost", "cut", "d", "line", "s", "cost"]
theorem sc_p_law_bt_cut : FnScope N_p_law_bt_cut ["stream", "rows"] (defScope s_p_law_bt_cut) := ⟨rfl, rfl, rfl, by decide +kernel, rfl, by decide +kernel, by decide +kernel⟩
theorem w_p_law_bt_cut {P : Program} {w : World} {K : PySem.W.Frag} {mg : Str → Option Value} {base : Heap} {f : Addr} {fd : FuncData} (F : Fun K "_law_bt_cut" "_law_bt_cut" s_p_law_bt_cut f fd) (T : Tx K mg) (G_p_law_next : GotF P w K mg base 1 "_law_next" 2 d_p_law_next) : FnOk P w K mg base (L2.CX P w) 2 f fd ["stream", "rows"] (SpD K mg 2 d_p_law_bt_cut) := by
  refine okD F sc_p_law_bt_cut rfl rfl fun cdv A outer s H E hr tk => ?_
  unfold b_p_law_bt_cut
  refine ss_cons ?_ ?_
  · exact sx_set 2 sc_p_law_bt_cut.nd (so_callG G_p_law_next hr tk rfl (sa_cons (so_var 0) (sa_cons so_int sa_nil)))
  refine ss_cons ?_ ?_
  · exact sx_set 3 sc_p_law_bt_cut.nd (so_bin op_sub od_sub so_int (so_callG G_p_law_next hr tk rfl (sa_cons (so_var 0) (sa_cons so_int sa_nil))))
  refine ss_cons ?_ ?_
  · exact sx_set 4 sc_p_law_bt_cut.nd (so_callG G_p_law_next hr tk rfl (sa_cons (so_var 0) (sa_cons so_int sa_nil)))
  refine ss_cons ?_ ?_
  · exact sx_set 5 sc_p_law_bt_cut.nd (so_callG G_p_law_next hr tk rfl (sa_cons (so_var 0) (sa_cons (so_callB cr_len cd_len rfl T.z_len (by decide +kernel) (sa_cons (so_ix (so_var 1) so_int) sa_nil)) sa_nil)))
  refine ss_cons ?_ ?_
  · exact sx_set 6 sc_p_law_bt_cut.nd (so_callG G_p_law_next hr tk rfl (sa_cons (so_var 0) (sa_cons (so_callB cr_len cd_len rfl T.z_len (by decide +kernel) (sa_cons (so_var 1) sa_nil)) sa_nil)))
  refine ss_cons ?_ ?_
  · exact sx_setO 7 sc_p_law_bt_cut.nd (so_lst sa_nil)
  refine ss_cons ?_ ?_
  · refine sx_for (passes_of rfl) rfl (si_rng1 rfl T.z_range (sa_cons (so_callB cr_len cd_len rfl T.z_len (by decide +kernel) (sa_cons (so_var 1) sa_nil)) sa_nil)) (sg_nm 8 sc_p_law_bt_cut.nd) ?_
    refine ss_cons ?_ ?_
    · exact sx_setO 9 sc_p_law_bt_cut.nd (so_lst sa_nil)
    refine ss_cons ?_ ?_
    · refine sx_for (passes_of rfl) rfl (si_rng1 rfl T.z_range (sa_cons (so_callB cr_len cd_len rfl T.z_len (by decide +kernel) (sa_cons (so_ix (so_var 1) so_int) sa_nil)) sa_nil)) (sg_nm 10 sc_p_law_bt_cut.nd) ?_
      refine ss_cons ?_ ?_
      · exact sx_set 11 sc_p_law_bt_cut.nd (so_ix (so_ix (so_var 1) (so_var 8)) (so_var 10))
      refine ss_cons ?_ ?_
      · refine sx_if (st_w (sw_and (st_cmp (op_eqD hr.units) od_eq (so_var 2) so_int) (sw_and1 (st_w (sw_or (st_cmp (op_ltA hr.units0) od_lt (so_bin op_sub od_sub (so_var 10) (so_var 8)) (so_var 3)) (sw_or1 (st_cmp op_gt od_cmp (so_bin op_sub od_sub (so_var 10) (so_var 8)) (so_var 4)))))))) ?_ ?_
        · refine ss_one ?_
          exact sx_set 11 sc_p_law_bt_cut.nd so_non
        · exact ss_nil
      refine ss_cons ?_ ?_
      · refine sx_if (st_w (sw_and (st_cmp (op_eqD hr.units) od_eq (so_var 2) so_int) (sw_and1 (st_cmp (op_eqD hr.units) od_eq (so_var 10) (so_var 5))))) ?_ ?_
        · refine ss_one ?_
          exact sx_set 11 sc_p_law_bt_cut.nd so_non
        · exact ss_nil
      refine ss_cons ?_ ?_
      · refine sx_if (st_w (sw_and (st_cmp (op_eqD hr.units) od_eq (so_var 2) so_int) (sw_and1 (st_cmp (op_eqD hr.units) od_eq (so_var 8) (so_var 6))))) ?_ ?_
        · refine ss_one ?_
          exact sx_set 11 sc_p_law_bt_cut.nd so_non
        · exact ss_nil
      refine ss_one ?_
      exact sx_append 9 (so_var 11)
    refine ss_one ?_
    exact sx_appendMv 7 9
  refine ss_one ?_
  exact sx_retMv 7
abbrev s_p_law_bt_sums : Stmt := topS 37
abbrev N_p_law_bt_sums : List Str := ["stream", "deeds", "states", "scale", "rows", "above", "cols", "d", "own", "drop", "line", "s"]
theorem sc_p_law_bt_sums : FnScope N_p_law_bt_sums ["stream", "deeds", "states", "scale"] (defScope s_p_law_bt_sums) := ⟨rfl, rfl, rfl, by decide +kernel, rfl, by decide +kernel, by decide +kernel⟩
theorem w_p_law_bt_sums {P : Program} {w : World} {K : PySem.W.Frag} {mg : Str → Option Value} {base : Heap} {f : Addr} {fd : FuncData} (F : Fun K "_law_bt_sums" "_law_bt_sums" s_p_law_bt_sums f fd) (T : Tx K mg) (G_p_law_next : GotF P w K mg base 1 "_law_next" 2 d_p_law_next) : FnOk P w K mg base (L2.CX P w) 2 f fd ["stream", "deeds", "states", "scale"] (SpD K mg 4 d_p_law_bt_sums) := by
  refine okD F sc_p_law_bt_sums rfl rfl fun cdv A outer s H E hr tk => ?_
  unfold b_p_law_bt_sums
  refine ss_cons ?_ ?_
  · exact sx_setO 4 sc_p_law_bt_sums.nd (so_lst sa_nil)
  refine ss_cons ?_ ?_
  · exact sx_setLc 5 [("s", 11)] rfl sc_p_law_bt_sums.nd (si_rng1 rfl T.z_range (sa_cons (so_var 2) sa_nil)) (blkOk_by (N := N_p_law_bt_sums) (sc := defScope s_p_law_bt_sums) (by decide +kernel)) (fun _ _ _ _ _ => (sg_nm 11 sc_p_law_bt_sums.nd)) (fun _ _ _ _ _ => so_int) (hsw := sw_true rfl rfl rfl (by decide +kernel))
  refine ss_cons ?_ ?_
  · exact sx_setLc 6 [("s", 11)] rfl sc_p_law_bt_sums.nd (si_rng1 rfl T.z_range (sa_cons (so_var 2) sa_nil)) (blkOk_by (N := N_p_law_bt_sums) (sc := defScope s_p_law_bt_sums) (by decide +kernel)) (fun _ _ _ _ _ => (sg_nm 11 sc_p_law_bt_sums.nd)) (fun _ _ _ _ _ => (so_callG G_p_law_next hr tk0 rfl (sa_cons (so_var 0) (sa_cons so_int sa_nil)))) (hsw := sw_true rfl rfl rfl (by decide +kernel))
  refine ss_cons ?_ ?_
  · refine sx_for (passes_of rfl) rfl (si_rng1 rfl T.z_range (sa_cons (so_var 1) sa_nil)) (sg_nm 7 sc_p_law_bt_sums.nd) ?_
    refine ss_cons ?_ ?_
    · exact sx_set 8 sc_p_law_bt_sums.nd (so_callG G_p_law_next hr tk rfl (sa_cons (so_var 0) (sa_cons so_int sa_nil)))
    refine ss_cons ?_ ?_
    · exact sx_set 9 sc_p_law_bt_sums.nd so_int
    refine ss_cons ?_ ?_
    · exact sx_setO 10 sc_p_law_bt_sums.nd (so_lst sa_nil)
    refine ss_cons ?_ ?_
    · refine sx_for (passes_of rfl) rfl (si_rng1 rfl T.z_range (sa_cons (so_var 2) sa_nil)) (sg_nm 11 sc_p_law_bt_sums.nd) ?_
      refine ss_cons ?_ ?_
      · exact sx_aug 9 sc_p_law_bt_sums.nd (so_callG G_p_law_next hr tk rfl (sa_cons (so_var 0) (sa_cons so_int sa_nil))) ip_add
      refine ss_cons ?_ ?_
      · exact sx_setIx 5 (so_bin op_addA od_add (so_ix (so_var 5) (so_var 11)) (so_var 9)) (so_var 11)
      refine ss_one ?_
      exact sx_append 10 (so_bin op_mulA od_mul (so_bin op_sub od_sub (so_bin op_addA od_add (so_var 8) (so_ix (so_var 6) (so_var 11))) (so_ix (so_var 5) (so_var 11))) (so_var 3))
    refine ss_one ?_
    exact sx_appendMv 4 10
  refine ss_one ?_
  exact sx_retMv 4
abbrev s_p_law_ub_rows : Stmt := topS 41
abbrev N_p_law_ub_rows : List Str := ["stream", "deeds", "states", "word", "scale", "rows", "d", "s"]
theorem sc_p_law_ub_rows : FnScope N_p_law_ub_rows ["stream", "deeds", "states"] (defScope s_p_law_ub_rows) := ⟨rfl, rfl, rfl, by decide +kernel, rfl, by decide +kernel, by decide +kernel⟩
theorem w_p_law_ub_rows {P : Program} {w : World} {K : PySem.W.Frag} {mg : Str → Option Value} {base : Heap} {f : Addr} {fd : FuncData} (F : Fun K "_law_ub_rows" "_law_ub_rows" s_p_law_ub_rows f fd) (T : Tx K mg) (G_p_law_next : GotF P w K mg base 1 "_law_next" 2 d_p_law_next) (G_p_law_bt_free : GotF P w K mg base 2 "_law_bt_free" 4 d_p_law_bt_free) (G_p_law_bt_cut : GotF P w K mg base 2 "_law_bt_cut" 2 d_p_law_bt_cut) (G_p_law_bt_sums : GotF P w K mg base 2 "_law_bt_sums" 4 d_p_law_bt_sums) : FnOk P w K mg base (L2.CX P w) 3 f fd ["stream", "deeds", "states"] (SpD K mg 3 d_p_law_ub_rows) := by
  refine okD F sc_p_law_ub_rows rfl rfl fun cdv A outer s H E hr tk => ?_
  unfold b_p_law_ub_rows
  refine ss_cons ?_ ?_
  · exact sx_set 3 sc_p_law_ub_rows.nd (so_callG G_p_law_next hr tk rfl (sa_cons (so_var 0) (sa_cons so_int sa_nil)))
  refine ss_cons ?_ ?_
  · exact sx_set 4 sc_p_law_ub_rows.nd (so_ix (so_lst (sa_cons so_int (sa_cons so_int (sa_cons (so_bin op_pow od_pow so_int so_int) sa_nil)))) (so_callG G_p_law_next hr tk rfl (sa_cons (so_var 0) (sa_cons so_int sa_nil))))
  refine ss_cons ?_ ?_
  · refine sx_if (st_cmp (op_eqD hr.units) od_eq (so_var 3) so_int) ?_ ?_
    · refine ss_one ?_
      exact sx_ret (so_callG G_p_law_bt_free hr tk rfl (sa_cons (so_var 0) (sa_cons (so_var 1) (sa_cons (so_var 2) (sa_cons (so_var 4) sa_nil)))))
    · exact ss_nil
  refine ss_cons ?_ ?_
  · exact sx_setO 5 sc_p_law_ub_rows.nd (so_callG G_p_law_bt_cut hr tk rfl (sa_cons (so_var 0) (sa_cons (so_callG G_p_law_bt_sums hr tk rfl (sa_cons (so_var 0) (sa_cons (so_var 1) (sa_cons (so_var 2) (sa_cons (so_var 4) sa_nil))))) sa_nil)))
  refine ss_cons ?_ ?_
  · refine sx_if (st_cmp (op_eqD hr.units) od_eq (so_var 3) so_int) ?_ ?_
    · refine ss_cons ?_ ?_
      · exact sx_set 6 sc_p_law_ub_rows.nd (so_callG G_p_law_next hr tk rfl (sa_cons (so_var 0) (sa_cons (so_var 1) sa_nil)))
      refine ss_cons ?_ ?_
      · exact sx_set 7 sc_p_law_ub_rows.nd (so_callG G_p_law_next hr tk rfl (sa_cons (so_var 0) (sa_cons (so_var 2) sa_nil)))
      refine ss_one ?_
      refine sx_if (st_cmp op_isA od_is (so_ix (so_ix (so_var 5) (so_var 6)) (so_var 7)) so_non) ?_ ?_
      · refine ss_one ?_
        exact sx_setIx2 5 so_int (so_var 6) (so_var 7)
      · refine ss_one ?_
        exact sx_setIx2 5 (so_bin op_sub od_sub (so_bin op_addA od_add (so_ix (so_ix (so_var 5) (so_var 6)) (so_var 7)) (so_callG G_p_law_next hr tk rfl (sa_cons (so_var 0) (sa_cons so_int sa_nil)))) so_int) (so_var 6) (so_var 7)
    · exact ss_nil
  refine ss_one ?_
  exact sx_retMv 5
abbrev s_p_law_bt_break : Stmt := topS 40
abbrev N_p_law_bt_break : List Str := ["rows", "d", "e", "s", "t", "one", "two"]
theorem sc_p_law_bt_break : FnScope N_p_law_bt_break ["rows"] (defScope s_p_law_bt_break) := ⟨rfl, rfl, rfl, by decide +kernel, rfl, by decide +kernel, by decide +kernel⟩
theorem w_p_law_bt_break {P : Program} {w : World} {K : PySem.W.Frag} {mg : Str → Option Value} {base : Heap} {f : Addr} {fd : FuncData} (F : Fun K "_law_bt_break" "_law_bt_break" s_p_law_bt_break f fd) (T : Tx K mg) (G_p_law_plus : GotF P w K mg base 1 "_law_plus" 2 d_p_law_plus) (G_p_law_below : GotF P w K mg base 1 "_law_below" 2 d_p_law_below) : FnOk P w K mg base (L2.CX P w) 2 f fd ["rows"] (SpD K mg 1 d_p_law_bt_break) := by
  refine okD F sc_p_law_bt_break rfl rfl fun cdv A outer s H E hr tk => ?_
  unfold b_p_law_bt_break
  refine ss_cons ?_ ?_
  · refine sx_for (passes_of rfl) rfl (si_rng1 rfl T.z_range (sa_cons (so_callB cr_len cd_len rfl T.z_len (by decide +kernel) (sa_cons (so_var 0) sa_nil)) sa_nil)) (sg_nm 1 sc_p_law_bt_break.nd) ?_
    refine ss_one ?_
    refine sx_for (passes_of rfl) rfl (si_rng2 rfl T.z_range (sa_cons (so_bin op_addA od_add (so_var 1) so_int) (sa_cons (so_callB cr_len cd_len rfl T.z_len (by decide +kernel) (sa_cons (so_var 0) sa_nil)) sa_nil))) (sg_nm 2 sc_p_law_bt_break.nd) ?_
    refine ss_one ?_
    refine sx_for (passes_of rfl) rfl (si_rng1 rfl T.z_range (sa_cons (so_callB cr_len cd_len rfl T.z_len (by decide +kernel) (sa_cons (so_ix (so_var 0) so_int) sa_nil)) sa_nil)) (sg_nm 3 sc_p_law_bt_break.nd) ?_
    refine ss_one ?_
    refine sx_for (passes_of rfl) rfl (si_rng2 rfl T.z_range (sa_cons (so_bin op_addA od_add (so_var 3) so_int) (sa_cons (so_callB cr_len cd_len rfl T.z_len (by decide +kernel) (sa_cons (so_ix (so_var 0) so_int) sa_nil)) sa_nil))) (sg_nm 4 sc_p_law_bt_break.nd) ?_
    refine ss_cons ?_ ?_
    · exact sx_set 5 sc_p_law_bt_break.nd (so_callG G_p_law_plus hr tk rfl (sa_cons (so_ix (so_ix (so_var 0) (so_var 1)) (so_var 3)) (sa_cons (so_ix (so_ix (so_var 0) (so_var 2)) (so_var 4)) sa_nil)))
    refine ss_cons ?_ ?_
    · exact sx_set 6 sc_p_law_bt_break.nd (so_callG G_p_law_plus hr tk rfl (sa_cons (so_ix (so_ix (so_var 0) (so_var 1)) (so_var 4)) (sa_cons (so_ix (so_ix (so_var 0) (so_var 2)) (so_var 3)) sa_nil)))
    refine ss_one ?_
    refine sx_if (st_val (so_callG G_p_law_below hr tk rfl (sa_cons (so_var 6) (sa_cons (so_var 5) sa_nil)))) ?_ ?_
    · refine ss_one ?_
      exact sx_ret (so_lst (sa_cons (so_var 1) (sa_cons (so_var 2) (sa_cons (so_var 3) (sa_cons (so_var 4) sa_nil)))))
    · exact ss_nil
  refine ss_one ?_
  exact sx_ret (so_lst sa_nil)
abbrev s_p_law_ub_refused : Stmt := topS 48
abbrev N_p_law_ub_refused : List Str := ["numbers", "lower", "upper", "found", "caught"]
theorem sc_p_law_ub_refused : FnScope N_p_law_ub_refused ["numbers", "lower", "upper"] (defScope s_p_law_ub_refused) := ⟨rfl, rfl, rfl, by decide +kernel, rfl, by decide +kernel, by decide +kernel⟩
theorem w_p_law_ub_refused {P : Program} {w : World} {K : PySem.W.Frag} {mg : Str → Option Value} {base : Heap} {f : Addr} {fd : FuncData} (F : Fun K "_law_ub_refused" "_law_ub_refused" s_p_law_ub_refused f fd) (T : Tx K mg) (G_Unbent_init : GotIN P w K mg base 3 "Unbent" 3 d_Unbent_init 3 [] (idS 3) []) : FnOk P w K mg base (L2.CX P w) 5 f fd ["numbers", "lower", "upper"] (SpD K mg 3 d_p_law_ub_refused) := by
  refine okD F sc_p_law_ub_refused rfl rfl fun cdv A outer s H E hr tk => ?_
  unfold b_p_law_ub_refused
  refine ss_cons ?_ ?_
  · exact sx_set 3 sc_p_law_ub_refused.nd so_str
  refine ss_cons ?_ ?_
  · refine sx_try (l := [(⟨(some 4), "BadPaper", ["BadPaper"], ["BadDeed", "BadRow"], h_p_law_ub_refused_1⟩, T.hd_BadPaper.choose)]) rfl rfl rfl tk (fun W' pn xe tk po => ?_) ?_
    · show SSs _ _ _ y_p_law_ub_refused_1
      unfold y_p_law_ub_refused_1
      refine ss_one ?_
      exact sx_expr (so_makeN G_Unbent_init hr tk rfl (sa_cons (so_var 0) (sa_cons (so_var 1) (sa_cons (so_var 2) sa_nil))) sk_nil)
    · refine HdsD.named (h := ⟨(some 4), "BadPaper", ["BadPaper"], ["BadDeed", "BadRow"], h_p_law_ub_refused_1⟩) (Hc := T.hd_BadPaper.choose) (i := 4) ⟨rfl, by decide, .inl T.hd_BadPaper.choose_spec.1⟩ rfl sc_p_law_ub_refused.nd rfl rfl ⟨T.hd_BadPaper.choose_spec.2.1, T.hd_BadPaper.choose_spec.2.2⟩ (fun a oe pn hf => ?_) ?_
      · show SSs _ _ _ h_p_law_ub_refused_1
        unfold h_p_law_ub_refused_1
        refine ss_one ?_
        exact sx_set 3 sc_p_law_ub_refused.nd (so_exf 4 T.x_name hf)
      · exact .nil
  refine ss_one ?_
  exact sx_retMv 3
abbrev s_p_law_ub_refusals : Stmt := topS 49
abbrev N_p_law_ub_refusals : List Str := ["stream", "wrong", "caught_as_base", "caught"]
theorem sc_p_law_ub_refusals : FnScope N_p_law_ub_refusals ["stream"] (defScope s_p_law_ub_refusals) := ⟨rfl, rfl, rfl, by decide +kernel, rfl, by decide +kernel, by decide +kernel⟩
theorem w_p_law_ub_refusals {P : Program} {w : World} {K : PySem.W.Frag} {mg : Str → Option Value} {base : Heap} {f : Addr} {fd : FuncData} (F : Fun K "_law_ub_refusals" "_law_ub_refusals" s_p_law_ub_refusals f fd) (T : Tx K mg) (G_p_law_next : GotF P w K mg base 1 "_law_next" 2 d_p_law_next) (G_p_law_ub_refused : GotF P w K mg base 5 "_law_ub_refused" 3 d_p_law_ub_refused) (G_Unbent_init : GotIN P w K mg base 3 "Unbent" 3 d_Unbent_init 3 [] (idS 3) []) : FnOk P w K mg base (L2.CX P w) 6 f fd ["stream"] (SpD K mg 1 d_p_law_ub_refusals) := by
  refine okD F sc_p_law_ub_refusals rfl rfl fun cdv A outer s H E hr tk => ?_
  unfold b_p_law_ub_refusals
  refine ss_cons ?_ ?_
  · exact sx_set 1 sc_p_law_ub_refusals.nd (so_ix (so_lst (sa_cons so_non (sa_cons so_bl (sa_cons so_str (sa_cons (so_tup (sa_cons so_int sa_nil)) sa_nil))))) (so_callG G_p_law_next hr tk rfl (sa_cons (so_var 0) (sa_cons so_int sa_nil))))
  refine ss_cons ?_ ?_
  · refine sx_if (st_w (sw_or (st_cmp (op_neD hr.units) od_ne (so_callG G_p_law_ub_refused hr tk rfl (sa_cons so_str (sa_cons (so_var 1) (sa_cons (so_var 1) sa_nil)))) so_str) (sw_or1 (st_cmp (op_neD hr.units) od_ne (so_callG G_p_law_ub_refused hr tk rfl (sa_cons so_non (sa_cons so_int (sa_cons so_int sa_nil)))) so_str)))) ?_ ?_
    · refine ss_one ?_
      exact sx_ret so_bl
    · exact ss_nil
  refine ss_cons ?_ ?_
  · refine sx_if (st_w (sw_or (st_cmp (op_neD hr.units) od_ne (so_callG G_p_law_ub_refused hr tk rfl (sa_cons (so_lst (sa_cons so_int (sa_cons (so_var 1) sa_nil))) (sa_cons (so_var 1) (sa_cons so_int sa_nil)))) so_str) (sw_or1 (st_cmp (op_neD hr.units) od_ne (so_callG G_p_law_ub_refused hr tk rfl (sa_cons (so_tup (sa_cons (so_var 1) (sa_cons so_int sa_nil))) (sa_cons so_int (sa_cons so_int sa_nil)))) so_str)))) ?_ ?_
    · refine ss_one ?_
      exact sx_ret so_bl
    · exact ss_nil
  refine ss_cons ?_ ?_
  · refine sx_if (st_w (sw_or (st_cmp (op_neD hr.units) od_ne (so_callG G_p_law_ub_refused hr tk rfl (sa_cons (so_lst (sa_cons so_int sa_nil)) (sa_cons (so_var 1) (sa_cons (so_var 1) sa_nil)))) so_str) (sw_or1 (st_cmp (op_neD hr.units) od_ne (so_callG G_p_law_ub_refused hr tk rfl (sa_cons (so_tup sa_nil) (sa_cons so_int (sa_cons (so_var 1) sa_nil)))) so_str)))) ?_ ?_
    · refine ss_one ?_
      exact sx_ret so_bl
    · exact ss_nil
  refine ss_cons ?_ ?_
  · refine sx_if (st_cmp (op_neD hr.units) od_ne (so_callG G_p_law_ub_refused hr tk rfl (sa_cons (so_lst (sa_cons so_int (sa_cons so_int sa_nil))) (sa_cons (so_un un_neg ud_neg so_int) (sa_cons (so_bin op_pow od_pow so_int so_int) sa_nil)))) so_str) ?_ ?_
    · refine ss_one ?_
      exact sx_ret so_bl
    · exact ss_nil
  refine ss_cons ?_ ?_
  · exact sx_set 2 sc_p_law_ub_refusals.nd so_bl
  refine ss_cons ?_ ?_
  · refine sx_try (l := [(⟨(some 3), "SureError", ["BadDeed", "BadPaper", "BadRow"], [], h_p_law_ub_refusals_1⟩, T.hd_SureError.choose)]) rfl rfl rfl tk (fun W' pn xe tk po => ?_) ?_
    · show SSs _ _ _ y_p_law_ub_refusals_1
      unfold y_p_law_ub_refusals_1
      refine ss_one ?_
      exact sx_expr (so_makeN G_Unbent_init hr tk rfl (sa_cons (so_tup (sa_cons so_int sa_nil)) (sa_cons so_bl (sa_cons so_int sa_nil))) sk_nil)
    · refine HdsD.named (h := ⟨(some 3), "SureError", ["BadDeed", "BadPaper", "BadRow"], [], h_p_law_ub_refusals_1⟩) (Hc := T.hd_SureError.choose) (i := 3) ⟨rfl, by decide, .inl T.hd_SureError.choose_spec.1⟩ rfl sc_p_law_ub_refusals.nd rfl rfl ⟨T.hd_SureError.choose_spec.2.1, T.hd_SureError.choose_spec.2.2⟩ (fun a oe pn hf => ?_) ?_
      · show SSs _ _ _ h_p_law_ub_refusals_1
        unfold h_p_law_ub_refusals_1
        refine ss_one ?_
        exact sx_set 2 sc_p_law_ub_refusals.nd (so_and (so_exi 3 rfl T.z_isinstance hf (pe_glob (v := .ref _) rfl T.xi_BadPaper.choose_spec.1 rfl (by decide)) (fun _ h => h) T.xi_BadPaper.choose_spec.2) (so_one (so_exi 3 rfl T.z_isinstance hf (pe_bltn (v := .ty "ValueError") rfl T.z_ValueError (by decide +kernel) rfl (by decide) (by decide)) (fun _ h => h) T.xi_ValueError)))
      · exact .nil
  refine ss_one ?_
  exact sx_retMv 2
abbrev s_p_law_ub_kept : Stmt := topS 50
abbrev N_p_law_ub_kept : List Str := ["stream", "handed", "due", "paper"]
theorem sc_p_law_ub_kept : FnScope N_p_law_ub_kept ["stream"] (defScope s_p_law_ub_kept) := ⟨rfl, rfl, rfl, by decide +kernel, rfl, by decide +kernel, by decide +kernel⟩
theorem w_p_law_ub_kept {P : Program} {w : World} {K : PySem.W.Frag} {mg : Str → Option Value} {base : Heap} {f : Addr} {fd : FuncData} (F : Fun K "_law_ub_kept" "_law_ub_kept" s_p_law_ub_kept f fd) (T : Tx K mg) (G_p_law_next : GotF P w K mg base 1 "_law_next" 2 d_p_law_next) (G_Unbent_init : GotIN P w K mg base 3 "Unbent" 3 d_Unbent_init 3 [] (idS 3) []) : FnOk P w K mg base (L2.CX P w) 5 f fd ["stream"] (SpD K mg 1 d_p_law_ub_kept) := by
  refine okD F sc_p_law_ub_kept rfl rfl fun cdv A outer s H E hr tk => ?_
  unfold b_p_law_ub_kept
  refine ss_cons ?_ ?_
  · exact sx_setO 1 sc_p_law_ub_kept.nd (so_lst (sa_cons (so_bin op_sub od_sub (so_callG G_p_law_next hr tk rfl (sa_cons (so_var 0) (sa_cons so_int sa_nil))) so_int) (sa_cons so_int sa_nil)))
  refine ss_cons ?_ ?_
  · exact sx_set 2 sc_p_law_ub_kept.nd (so_callT call_tuple_of cd_tuple rfl T.z_tuple (by decide +kernel) (sa_cons (so_var 1) sa_nil))
  refine ss_cons ?_ ?_
  · exact sx_set 3 sc_p_law_ub_kept.nd (so_makeN G_Unbent_init hr tk rfl (sa_cons (so_var 1) (sa_cons so_int (sa_cons (so_un un_neg ud_neg so_int) sa_nil))) sk_nil)
  refine ss_cons ?_ ?_
  · exact sx_setIx 1 so_int so_int
  refine ss_cons ?_ ?_
  · exact sx_append 1 so_int
  refine ss_one ?_
  exact sx_ret (so_and (so_cmp (op_eqD hr.units) od_eq (so_fld T.a_numbers (so_var 3)) (so_var 2)) (so_and (so_isi1 rfl T.z_isinstance (so_fld T.a_numbers (so_var 3)) rfl T.z_tuple (by decide +kernel)) (so_and (so_cmp (op_eqD hr.units) od_eq (so_fld T.a_lower (so_var 3)) so_int) (so_one (so_cmp (op_eqD hr.units) od_eq (so_fld T.a_upper (so_var 3)) (so_un un_neg ud_neg so_int))))))
abbrev s_law : Stmt := topS 53
abbrev N_law : List Str := ["script", "stream", "deeds", "states", "rows", "table", "due", "turn", "numbers", "lower", "upper", "own", "row"]
theorem sc_law : FnScope N_law ["script"] (defScope s_law) := ⟨rfl, rfl, rfl, by decide +kernel, rfl, by decide +kernel, by decide +kernel⟩
def c_law_1 : DE := (dApp listD (dCons (dVar 12) dNil))
def c_law_2 : DE := (dBin subD (dCall 2 d_p_law_next (dCons (dVar 1) (dCons (dC (.int 7)) dNil))) (dC (.int 3)))
def l_law_1 : DS := (dSeq (dSetO 8 (dLc [12] (.nm 12) (dIt (dVar 4)) dYes c_law_2))
    (dSeq (dSet 9 (dCall 2 d_p_law_next (dCons (dVar 1) (dCons (dVar 3) dNil))))
    (dSeq (dSet 10 (dBin addD (dBin addD (dVar 9) (dC (.int 1))) (dCall 2 d_p_law_next (dCons (dVar 1) (dCons (dC (.int 2)) dNil)))))
    (dIfS (dTNot (dTst (dCall 5 d_p_law_ub_judged (dCons (dVar 5) (dCons (dVar 4) (dCons (dVar 8) (dCons (dVar 9) (dCons (dVar 10) dNil)))))))) (dRet (dC (.bl false))) dNext))))
def e_law : DE := (dCall 1 d_p_law_stream (dCons (dVar 0) dNil))
def b_law : DS := (dSeq (dIfS (dTst (dBin eqD (dCall 2 d_p_law_next (dCons (dVar 1) (dCons (dC (.int 16)) dNil))) (dC (.int 15)))) (dRet (dCall 1 d_p_law_ub_great (dCons (dVar 1) dNil))) dNext)
    (dSeq (dSet 2 (dBin ixD (dApp lstD (dCons (dC (.int 2)) (dCons (dC (.int 3)) (dCons (dC (.int 1)) (dCons (dC (.int 4)) (dCons (dC (.int 5)) dNil)))))) (dCall 2 d_p_law_next (dCons (dVar 1) (dCons (dC (.int 5)) dNil)))))
    (dSeq (dSet 3 (dBin ixD (dApp lstD (dCons (dC (.int 2)) (dCons (dC (.int 3)) (dCons (dC (.int 1)) (dCons (dC (.int 4)) (dCons (dC (.int 5)) dNil)))))) (dCall 2 d_p_law_next (dCons (dVar 1) (dCons (dC (.int 5)) dNil)))))
    (dSeq (dSet 4 (dCall 3 d_p_law_ub_rows (dCons (dVar 1) (dCons (dVar 2) (dCons (dVar 3) dNil)))))
    (dSeq (dSet 5 (dCallK 1 d_Table_init 1 0 (idS 1) [] (dCons (dLc [12] (.nm 12) (dIt (dVar 4)) dYes c_law_1) dNil) dNil))
    (dSeq (dSet 6 (dCall 1 d_p_law_bt_break (dCons (dVar 4) dNil)))
    (dSeq (dIfS (dTNot (dTst (dCall 3 d_p_law_ub_made (dCons (dVar 5) (dCons (dVar 4) (dCons (dVar 6) dNil)))))) (dRet (dC (.bl false))) dNext)
    (dSeq (dFor (.nm 7) (dRng1 (dCons (dC (.int 4)) dNil)) l_law_1)
    (dSeq (dIfS (dTst (dBin gtD (dApp lenD (dCons (dVar 6) dNil)) (dC (.int 0)))) (dSeq (dSet 11 (dCall 2 d_p_law_ub_own (dCons (dVar 4) (dCons (dVar 6) dNil))))
    (dSeq (dIfS (dTNot (dTst (dCall 4 d_p_law_ub_shows (dCons (dVar 4) (dCons (dBin ixD (dVar 11) (dC (.int 0))) (dCons (dBin ixD (dVar 11) (dC (.int 1))) (dCons (dBin ixD (dVar 11) (dC (.int 2))) dNil))))))) (dRet (dC (.bl false))) dNext)
    (dSeq (dIfS (dTNot (dTst (dCall 5 d_p_law_ub_judged (dCons (dVar 5) (dCons (dVar 4) (dCons (dBin ixD (dVar 11) (dC (.int 0))) (dCons (dBin ixD (dVar 11) (dC (.int 1))) (dCons (dBin ixD (dVar 11) (dC (.int 2))) dNil)))))))) (dRet (dC (.bl false))) dNext)
    (dIfS (dTNot (dTst (dCall 4 d_p_law_ub_spoilt (dCons (dVar 5) (dCons (dVar 4) (dCons (dVar 11) (dCons (dVar 1) dNil))))))) (dRet (dC (.bl false))) dNext)))) dNext)
    (dSeq (dIfS (dTOr (dTNot (dTst (dCall 1 d_p_law_ub_refusals (dCons (dVar 1) dNil)))) (dTNot (dTst (dCall 1 d_p_law_ub_kept (dCons (dVar 1) dNil))))) (dRet (dC (.bl false))) dNext)
    (dRet (dCall 3 d_p_law_ub_made (dCons (dVar 5) (dCons (dVar 4) (dCons (dVar 6) dNil)))))))))))))))
theorem w_law {P : Program} {w : World} {K : PySem.W.Frag} {mg : Str → Option Value} {base : Heap} {f : Addr} {fd : FuncData} (F : Fun K "law" "law" s_law f fd) (T : Tx K mg) (G_p_law_stream : GotF P w K mg base 1 "_law_stream" 1 d_p_law_stream) (G_p_law_next : GotF P w K mg base 1 "_law_next" 2 d_p_law_next) (G_p_law_ub_great : GotF P w K mg base 8 "_law_ub_great" 1 d_p_law_ub_great) (G_p_law_ub_rows : GotF P w K mg base 3 "_law_ub_rows" 3 d_p_law_ub_rows) (G_Table_init : GotIN P w K mg base 4 "Table" 1 d_Table_init 1 [] (idS 1) []) (G_p_law_bt_break : GotF P w K mg base 2 "_law_bt_break" 1 d_p_law_bt_break) (G_p_law_ub_made : GotF P w K mg base 6 "_law_ub_made" 3 d_p_law_ub_made) (G_p_law_ub_judged : GotF P w K mg base 6 "_law_ub_judged" 5 d_p_law_ub_judged) (G_p_law_ub_own : GotF P w K mg base 1 "_law_ub_own" 2 d_p_law_ub_own) (G_p_law_ub_shows : GotF P w K mg base 4 "_law_ub_shows" 4 d_p_law_ub_shows) (G_p_law_ub_spoilt : GotF P w K mg base 7 "_law_ub_spoilt" 4 d_p_law_ub_spoilt) (G_p_law_ub_refusals : GotF P w K mg base 6 "_law_ub_refusals" 1 d_p_law_ub_refusals) (G_p_law_ub_kept : GotF P w K mg base 5 "_law_ub_kept" 1 d_p_law_ub_kept) (hl : LawSays 12 1 e_law b_law) : FnOk P w K mg base CX0 9 f fd ["script"] (spL K) := by
  refine okL (nn := 12) (i := 1) F sc_law rfl (fun cdv A outer s H E hr => ?_) hl
  refine pss_cons (ps_set (i := 1) sc_law.nd rfl (by first | exact Or.inl rfl | exact Or.inr rfl) (show SE _ wNo _ e_law from by unfold e_law; exact (so_callG G_p_law_stream hr tk0 rfl (sa_cons (so_var 0) sa_nil)))) ?_
  show SSs _ wNo _ b_law
  unfold b_law
  refine ss_cons ?_ ?_
  · refine sx_if (st_cmp (op_eqD hr.units) od_eq (so_callG G_p_law_next hr tk0 rfl (sa_cons (so_var 1) (sa_cons so_int sa_nil))) so_int) ?_ ?_
    · refine ss_one ?_
      exact sx_ret (so_callG G_p_law_ub_great hr tk0 rfl (sa_cons (so_var 1) sa_nil))
    · exact ss_nil
  refine ss_cons ?_ ?_
  · exact sx_set 2 sc_law.nd (so_ix (so_lst (sa_cons so_int (sa_cons so_int (sa_cons so_int (sa_cons so_int (sa_cons so_int sa_nil)))))) (so_callG G_p_law_next hr tk0 rfl (sa_cons (so_var 1) (sa_cons so_int sa_nil))))
  refine ss_cons ?_ ?_
  · exact sx_set 3 sc_law.nd (so_ix (so_lst (sa_cons so_int (sa_cons so_int (sa_cons so_int (sa_cons so_int (sa_cons so_int sa_nil)))))) (so_callG G_p_law_next hr tk0 rfl (sa_cons (so_var 1) (sa_cons so_int sa_nil))))
  refine ss_cons ?_ ?_
  · exact sx_set 4 sc_law.nd (so_callG G_p_law_ub_rows hr tk0 rfl (sa_cons (so_var 1) (sa_cons (so_var 2) (sa_cons (so_var 3) sa_nil))))
  refine ss_cons ?_ ?_
  · exact sx_set 5 sc_law.nd (so_makeN G_Table_init hr tk0 rfl (sa_cons (so_lc [("row", 12)] rfl sc_law.nd (si_seq (so_var 4)) (blkOk_by (N := N_law) (sc := defScope s_law) (by decide +kernel)) (fun _ _ _ _ _ => (sg_nm 12 sc_law.nd)) (fun _ _ _ _ _ => (so_callT call_list_of cd_list rfl T.z_list (by decide +kernel) (sa_cons (so_var 12) sa_nil)))) sa_nil) sk_nil)
  refine ss_cons ?_ ?_
  · exact sx_set 6 sc_law.nd (so_callG G_p_law_bt_break hr tk0 rfl (sa_cons (so_var 4) sa_nil))
  refine ss_cons ?_ ?_
  · refine sx_if (st_not (st_val (so_callG G_p_law_ub_made hr tk0 rfl (sa_cons (so_var 5) (sa_cons (so_var 4) (sa_cons (so_var 6) sa_nil)))))) ?_ ?_
    · refine ss_one ?_
      exact sx_ret so_bl
    · exact ss_nil
  refine ss_cons ?_ ?_
  · refine sx_for PassesOwn.never rfl (si_rng1 rfl T.z_range (sa_cons so_int sa_nil)) (sg_nm 7 sc_law.nd) ?_
    refine ss_cons ?_ ?_
    · exact sx_setLc 8 [("row", 12)] rfl sc_law.nd (si_seq (so_var 4)) (blkOk_by (N := N_law) (sc := defScope s_law) (by decide +kernel)) (fun _ _ _ _ _ => (sg_nm 12 sc_law.nd)) (fun _ _ _ _ _ => (so_bin op_sub od_sub (so_callG G_p_law_next hr tk0 rfl (sa_cons (so_var 1) (sa_cons so_int sa_nil))) so_int)) (hsw := sw_true rfl rfl rfl (by decide +kernel))
    refine ss_cons ?_ ?_
    · exact sx_set 9 sc_law.nd (so_callG G_p_law_next hr tk0 rfl (sa_cons (so_var 1) (sa_cons (so_var 3) sa_nil)))
    refine ss_cons ?_ ?_
    · exact sx_set 10 sc_law.nd (so_bin op_addA od_add (so_bin op_addA od_add (so_var 9) so_int) (so_callG G_p_law_next hr tk0 rfl (sa_cons (so_var 1) (sa_cons so_int sa_nil))))
    refine ss_one ?_
    refine sx_if (st_not (st_val (so_callG G_p_law_ub_judged hr tk0 rfl (sa_cons (so_var 5) (sa_cons (so_var 4) (sa_cons (so_var 8) (sa_cons (so_var 9) (sa_cons (so_var 10) sa_nil)))))))) ?_ ?_
    · refine ss_one ?_
      exact sx_ret so_bl
    · exact ss_nil
  refine ss_cons ?_ ?_
  · refine sx_if (st_cmp op_gt od_cmp (so_callB cr_len cd_len rfl T.z_len (by decide +kernel) (sa_cons (so_var 6) sa_nil)) so_int) ?_ ?_
    · refine ss_cons ?_ ?_
      · exact sx_set 11 sc_law.nd (so_callG G_p_law_ub_own hr tk0 rfl (sa_cons (so_var 4) (sa_cons (so_var 6) sa_nil)))
      refine ss_cons ?_ ?_
      · refine sx_if (st_not (st_val (so_callG G_p_law_ub_shows hr tk0 rfl (sa_cons (so_var 4) (sa_cons (so_ix (so_var 11) so_int) (sa_cons (so_ix (so_var 11) so_int) (sa_cons (so_ix (so_var 11) so_int) sa_nil))))))) ?_ ?_
        · refine ss_one ?_
          exact sx_ret so_bl
        · exact ss_nil
      refine ss_cons ?_ ?_
      · refine sx_if (st_not (st_val (so_callG G_p_law_ub_judged hr tk0 rfl (sa_cons (so_var 5) (sa_cons (so_var 4) (sa_cons (so_ix (so_var 11) so_int) (sa_cons (so_ix (so_var 11) so_int) (sa_cons (so_ix (so_var 11) so_int) sa_nil)))))))) ?_ ?_
        · refine ss_one ?_
          exact sx_ret so_bl
        · exact ss_nil
      refine ss_one ?_
      refine sx_if (st_not (st_val (so_callG G_p_law_ub_spoilt hr tk0 rfl (sa_cons (so_var 5) (sa_cons (so_var 4) (sa_cons (so_var 11) (sa_cons (so_var 1) sa_nil))))))) ?_ ?_
      · refine ss_one ?_
        exact sx_ret so_bl
      · exact ss_nil
    · exact ss_nil
  refine ss_cons ?_ ?_
  · refine sx_if (st_w (sw_or (st_not (st_val (so_callG G_p_law_ub_refusals hr tk0 rfl (sa_cons (so_var 1) sa_nil)))) (sw_or1 (st_not (st_val (so_callG G_p_law_ub_kept hr tk0 rfl (sa_cons (so_var 1) sa_nil))))))) ?_ ?_
    · refine ss_one ?_
      exact sx_ret so_bl
    · exact ss_nil
  refine ss_one ?_
  exact sx_ret (so_callG G_p_law_ub_made hr tk0 rfl (sa_cons (so_var 5) (sa_cons (so_var 4) (sa_cons (so_var 6) sa_nil))))
end K52

set_option Elab.async false
set_option linter.all false
set_option maxRecDepth 100000
set_option maxHeartbeats 4000000
namespace Pk
open PySem PySem.Spec PyProof.Rows L2 Qd

/-! ### amounts -/
abbrev A := Option Int
def aD : A → D
  | none => .non
  | some i => .int i
def plusA : A → A → A
  | some a, some b => some (a + b)
  | _, _ => none
def ltA : A → A → Bool
  | none, _ => false
  | some _, none => true
  | some a, some b => decide (a < b)
@[simp] theorem aD_none : aD none = .non := rfl
@[simp] theorem aD_some {i : Int} : aD (some i) = .int i := rfl
@[simp] theorem okf_aD {p : Fl → Bool} {a : A} : okf p (aD a) = true := by cases a <;> rfl
@[simp] theorem lk_aD {a : A} : lk (aD a) = aD a := by cases a <;> rfl
@[simp] theorem fz_aD {a : A} : fz (aD a) = aD a := by cases a <;> rfl
@[simp] theorem bw_aD {a : A} : bw (aD a) = aD a := by cases a <;> rfl
variable {L : List Int}
theorem v_plus (a b : A) : d_plus [aD a, aD b] L = .ok (aD (plusA a b)) L := by
  cases a <;> cases b <;> simp [d_plus, dBody, b_plus, plusA]
theorem v_below (a b : A) : d_below [aD a, aD b] L = .ok (.bl (ltA a b)) L := by
  cases a <;> cases b <;> simp [d_below, dBody, b_below, ltA]
theorem v_lplus (a b : A) : d_p_law_plus [aD a, aD b] L = .ok (aD (plusA a b)) L := by
  cases a <;> cases b <;> simp [d_p_law_plus, dBody, b_p_law_plus, plusA]
theorem v_lbelow (a b : A) : d_p_law_below [aD a, aD b] L = .ok (.bl (ltA a b)) L := by
  cases a <;> cases b <;> simp [d_p_law_below, dBody, b_p_law_below, ltA]
theorem v_atmost (a b : A) : d_at_most [aD a, aD b] L = .ok (.bl (!ltA b a)) L := by
  cases a <;> cases b <;> simp [d_at_most, dBody, b_at_most, ltA]
  rw [Bool.eq_iff_iff]; simp
def minA (a b : A) : A := if ltA b a then b else a
theorem v_lesser (a b : A) : d_lesser [aD a, aD b] L = .ok (aD (minA a b)) L := by
  simp [d_lesser, dBody, b_lesser, v_atmost, minA]
  cases h : ltA b a <;> simp
theorem v_llesser (a b : A) : d_p_law_lesser [aD a, aD b] L = .ok (aD (minA a b)) L := by
  simp [d_p_law_lesser, dBody, b_p_law_lesser, v_lbelow, minA]
  cases h : ltA b a <;> simp
theorem v_iswhole (a : A) : d_is_whole [aD a] L = .ok (.bl a.isSome) L := by
  cases a <;> simp [d_is_whole, dBody, b_is_whole, isiT, tyName, isiB, tysB]
theorem v_isamount (a : A) : d_is_amount [aD a] L = .ok (.bl true) L := by
  have h := v_iswhole (L := L) a
  cases a <;> simp at h <;> simp [d_is_amount, dBody, b_is_amount, h]
theorem v_lwhole (a : A) : d_p_law_whole [aD a] L = .ok (.bl a.isSome) L := by
  cases a <;> simp [d_p_law_whole, dBody, b_p_law_whole, isiT, tyName, isiB, tysB]
/-! ### the stream -/
theorem v_next (m : Int) (hm : 0 < m) (L : List Int) : ∃ r L', d_p_law_next [.tok, .int m] L = .ok (.int r) L' ∧ 0 ≤ r ∧ r < m := by
  by_cases h : L = []
  · subst h
    exact ⟨0, [], by simp [d_p_law_next, dBody, b_p_law_next], by omega, hm⟩
  · have hl : L.length ≠ 0 := by simpa using h
    have hg : L[L.length - 1]? = some (L[L.length - 1]'(by omega)) := by simp [List.getElem?_eq_getElem (show L.length - 1 < L.length by omega)]
    have hm0 : m ≠ 0 := by omega
    refine ⟨(L[L.length - 1]'(by omega)).fmod m, L.dropLast, ?_, Int.fmod_nonneg_of_pos _ hm, Int.fmod_lt_of_pos _ hm⟩
    simp [d_p_law_next, dBody, b_p_law_next, hl, h, hm0, hg]

/-! ### rows -/
inductive Sk where | l (f : Fl) | t
def sq : Sk → List D → D
  | .l f, xs => .lst f xs
  | .t, xs => .tup xs
def Sk.arg : Sk → Bool
  | .l f => isArg f
  | .t => true
theorem sq_arg {k : Sk} {xs : List D} (h : k.arg = true) (hx : okfs isArg xs = true) : okf isArg (sq k xs) = true := by
  cases k with
  | l f => simp only [sq, okf_lst, Bool.and_eq_true]; exact ⟨h, hx⟩
  | t => simpa [sq] using hx
@[simp] theorem len_sq {k : Sk} {xs : List D} : lenD [sq k xs] L = .ok (.int (xs.length : Int)) L := by cases k <;> rfl
@[simp] theorem isi_sq {k : Sk} {xs : List D} : isiT ["list", "tuple"] (sq k xs) L = .ok (.bl true) L := by cases k <;> simp [sq, isiT, tyName, isiB, tysB]
theorem ix_sq {k : Sk} {xs : List D} {i : Nat} {y : D} (h : xs[i]? = some y) : ixD (sq k xs) (.int (i : Nat)) L = .ok y L := by
  have e : atI xs (i : Int) = some y := atI_nat h
  cases k <;> simp [sq, ixD, e]
theorem ix_sq0 {k : Sk} {xs : List D} {y : D} (h : xs[0]? = some y) : ixD (sq k xs) (.int 0) L = .ok y L := ix_sq (i := 0) h
theorem seq_sq {k : Sk} {xs : List D} (h : k.arg = true) (hx : okfs isArg xs = true) : seqOf (sq k xs) = some xs := by
  cases k with
  | l f =>
    have h' : isArg f = true := h
    simp [sq, seqOf, h', hx]
  | t => rfl
def row (k : Sk) (r : List A) : D := sq k (r.map aD)
def mat (k j : Sk) (R : List (List A)) : D := sq k (R.map (row j))
@[simp] theorem okfs_aDs {p : Fl → Bool} : ∀ {r : List A}, okfs p (r.map aD) = true
  | [] => rfl
  | a :: r => by simp only [List.map_cons, okfs_cons, okf_aD, okfs_aDs]; rfl
theorem row_arg {k : Sk} {r : List A} (h : k.arg = true) : okf isArg (row k r) = true := sq_arg h okfs_aDs
theorem rows_arg {j : Sk} (h : j.arg = true) : ∀ {R : List (List A)}, okfs isArg (R.map (row j)) = true
  | [] => rfl
  | r :: R => by simp only [List.map_cons, okfs_cons, row_arg h, rows_arg h]; rfl
theorem mat_arg {k j : Sk} {R : List (List A)} (h : k.arg = true) (hj : j.arg = true) : okf isArg (mat k j R) = true := sq_arg h (rows_arg hj)
section
variable {k j : Sk} {r : List A} {R : List (List A)}
@[simp] theorem lk_row (h : k.arg = true) : lk (row k r) = row k r := lk_arg (row_arg h)
@[simp] theorem fz_row (h : k.arg = true) : fz (row k r) = row k r := fz_arg' (row_arg h)
@[simp] theorem bw_row (h : k.arg = true) : bw (row k r) = row k r := bw_arg (row_arg h)
@[simp] theorem nlo_row (h : k.arg = true) : okf notLo (row k r) = true := nlo_arg (row_arg h)
@[simp] theorem lk_mat (h : k.arg = true) (hj : j.arg = true) : lk (mat k j R) = mat k j R := lk_arg (mat_arg h hj)
@[simp] theorem fz_mat (h : k.arg = true) (hj : j.arg = true) : fz (mat k j R) = mat k j R := fz_arg' (mat_arg h hj)
@[simp] theorem bw_mat (h : k.arg = true) (hj : j.arg = true) : bw (mat k j R) = mat k j R := bw_arg (mat_arg h hj)
@[simp] theorem nlo_mat (h : k.arg = true) (hj : j.arg = true) : okf notLo (mat k j R) = true := nlo_arg (mat_arg h hj)
@[simp] theorem len_row : lenD [row k r] L = .ok (.int (r.length : Int)) L := by simp [row]
@[simp] theorem len_mat : lenD [mat k j R] L = .ok (.int (R.length : Int)) L := by simp [mat]
@[simp] theorem isi_row : isiT ["list", "tuple"] (row k r) L = .ok (.bl true) L := by simp [row]
@[simp] theorem isi_mat : isiT ["list", "tuple"] (mat k j R) L = .ok (.bl true) L := by simp [mat]
@[simp] theorem seq_row (h : k.arg = true) : seqOf (row k r) = some (r.map aD) := seq_sq h okfs_aDs
@[simp] theorem seq_mat (h : k.arg = true) (hj : j.arg = true) : seqOf (mat k j R) = some (R.map (row j)) := seq_sq h (rows_arg hj)
theorem ix_row {i : Nat} (h : i < r.length) : ixD (row k r) (.int (i : Nat)) L = .ok (aD (r.getD i none)) L := ix_sq (by simp [h])
theorem ix_mat {i : Nat} (h : i < R.length) : ixD (mat k j R) (.int (i : Nat)) L = .ok (row j (R.getD i [])) L := ix_sq (by simp [h])
theorem ix_mat0 (h : 0 < R.length) : ixD (mat k j R) (.int 0) L = .ok (row j (R.getD 0 [])) L := ix_mat (i := 0) h
@[simp] theorem arg_t : Sk.t.arg = true := rfl
@[simp] theorem arg_fz : (Sk.l .fz).arg = true := rfl
@[simp] theorem arg_bo : (Sk.l .bo).arg = true := rfl
theorem tup_row : row .t r = .tup (r.map aD) := rfl
theorem lst_row {f : Fl} : row (.l f) r = .lst f (r.map aD) := rfl
@[simp] theorem tuple_row : tupleD [row k r] L = .ok (row .t r) L := by cases k <;> simp [row, sq, tupleD]
@[simp] theorem list_row : listD [row k r] L = .ok (row (.l .ow) r) L := by cases k <;> simp [row, sq, listD]
end
def ro (R : List (List A)) (i : Nat) : List A := R.getD i []
def ce (r : List A) (i : Nat) : A := r.getD i none
theorem at_ce {k : Sk} {r : List A} {i : Nat} (h : i < r.length) : ixD (row k r) (.int (i : Nat)) L = .ok (aD (ce r i)) L := ix_row h
theorem at_ro {k j : Sk} {R : List (List A)} {i : Nat} (h : i < R.length) : ixD (mat k j R) (.int (i : Nat)) L = .ok (row j (ro R i)) L := ix_mat h
theorem at_ro0 {k j : Sk} {R : List (List A)} (h : 0 < R.length) : ixD (mat k j R) (.int 0) L = .ok (row j (ro R 0)) L := ix_mat0 h
structure Rect (R : List (List A)) (m : Nat) : Prop where
  n0 : 0 < R.length
  n1 : R.length ≤ 1000
  m0 : 0 < m
  m1 : m ≤ 1000
  len : ∀ r ∈ R, r.length = m
theorem Rect.at {R : List (List A)} {m i : Nat} (h : Rect R m) (hi : i < R.length) : (ro R i).length = m := by
  unfold ro
  rw [List.getD_eq_getElem?_getD, List.getElem?_eq_getElem hi]
  exact h.len _ (List.getElem_mem hi)
theorem okLen_le {n : Nat} (h : n ≤ 1000000) : okLen n = true := decide_eq_true h
@[simp] theorem okLen0 : okLen 0 = true := okLen_le (by omega)
@[simp] theorem okLen1 : okLen 1 = true := okLen_le (by omega)
@[simp] theorem okLen2 : okLen 2 = true := okLen_le (by omega)
@[simp] theorem okLen4 : okLen 4 = true := okLen_le (by omega)
@[simp] theorem okLen6 : okLen 6 = true := okLen_le (by omega)
theorem small_nat {n : Nat} (h : n ≤ 1000000) : smallI (n : Int) = true := by
  unfold smallI
  simp only [Bool.and_eq_true, decide_eq_true_eq]
  omega
theorem mem_at {α : Type} {l : List α} {i : Nat} {x : α} (h : l[i]? = some x) : x ∈ l := List.mem_of_getElem? h
@[simp] theorem okf_row_t {p : Fl → Bool} {r : List A} : okf p (row .t r) = true := by simp [tup_row]
@[simp] theorem okfs_rows_t {p : Fl → Bool} : ∀ {R : List (List A)}, okfs p (R.map (row .t)) = true
  | [] => rfl
  | r :: R => by simp only [List.map_cons, okfs_cons, okf_row_t, okfs_rows_t]; rfl
theorem tup_mat {j : Sk} {R : List (List A)} : mat .t j R = .tup (R.map (row j)) := rfl
theorem lst_mat {f : Fl} {j : Sk} {R : List (List A)} : mat (.l f) j R = .lst f (R.map (row j)) := rfl
@[simp] theorem fzs_rows_t {R : List (List A)} : fzs (R.map (row .t)) = R.map (row .t) := fzs_id okfs_rows_t
@[simp] theorem lk_row_t {r : List A} : lk (row .t r) = row .t r := lk_row rfl
@[simp] theorem bw_row_t {r : List A} : bw (row .t r) = row .t r := bw_row rfl
@[simp] theorem fz_row_t {r : List A} : fz (row .t r) = row .t r := fz_row rfl
@[simp] theorem lk_mat_t {R : List (List A)} : lk (mat .t .t R) = mat .t .t R := lk_mat rfl rfl
@[simp] theorem bw_mat_t {R : List (List A)} : bw (mat .t .t R) = mat .t .t R := bw_mat rfl rfl
@[simp] theorem fz_mat_t {R : List (List A)} : fz (mat .t .t R) = mat .t .t R := fz_mat rfl rfl
theorem map_fz {f : D → D} (fs : List D → List D) (e0 : fs [] = []) (ec : ∀ d r, fs (d :: r) = f d :: fs r) {α : Type} (g h : α → D) (hg : ∀ a, f (g a) = h a) : ∀ l : List α, fs (l.map g) = l.map h
  | [] => e0
  | a :: l => by rw [List.map_cons, ec, hg, map_fz fs e0 ec g h hg l, List.map_cons]
@[simp] theorem fzs_aDs {r : List A} : fzs (r.map aD) = r.map aD := map_fz fzs rfl (fun _ _ => fzs_cons) aD aD (fun _ => fz_aD) r
@[simp] theorem lks_aDs {r : List A} : lks (r.map aD) = r.map aD := map_fz lks rfl (fun _ _ => lks_cons) aD aD (fun _ => lk_aD) r
@[simp] theorem bws_aDs {r : List A} : bws (r.map aD) = r.map aD := map_fz bws rfl (fun _ _ => bws_cons) aD aD (fun _ => bw_aD) r
@[simp] theorem fz_row_ow {r : List A} : fz (row (.l .ow) r) = row (.l .fz) r := by simp [lst_row]
@[simp] theorem lk_row_ow {r : List A} : lk (row (.l .ow) r) = row (.l .lo) r := by simp [lst_row]
@[simp] theorem fz_row_lo {r : List A} : fz (row (.l .lo) r) = row (.l .lo) r := by simp [lst_row]
@[simp] theorem bw_row_lo {r : List A} : bw (row (.l .lo) r) = row (.l .bo) r := by simp [lst_row]
@[simp] theorem fz_mat_ow {R : List (List A)} : fz (mat (.l .ow) (.l .ow) R) = mat (.l .fz) (.l .fz) R := by
  simp only [lst_mat, fz_ow]; rw [map_fz fzs rfl (fun _ _ => fzs_cons) (row (.l .ow)) (row (.l .fz)) (fun _ => fz_row_ow)]
@[simp] theorem fz_mat_owf {R : List (List A)} : fz (mat (.l .ow) (.l .fz) R) = mat (.l .fz) (.l .fz) R := by
  simp only [lst_mat, fz_ow]; rw [map_fz fzs rfl (fun _ _ => fzs_cons) (row (.l .fz)) (row (.l .fz)) (fun _ => fz_row rfl)]
@[simp] theorem lk_mat_ow {R : List (List A)} : lk (mat (.l .ow) (.l .ow) R) = mat (.l .lo) (.l .lo) R := by
  simp only [lst_mat, lk_ow]; rw [map_fz lks rfl (fun _ _ => lks_cons) (row (.l .ow)) (row (.l .lo)) (fun _ => lk_row_ow)]
@[simp] theorem fz_mat_lo {R : List (List A)} : fz (mat (.l .lo) (.l .lo) R) = mat (.l .lo) (.l .lo) R := by
  simp only [lst_mat, fz_lo]; rw [map_fz fzs rfl (fun _ _ => fzs_cons) (row (.l .lo)) (row (.l .lo)) (fun _ => fz_row_lo)]
@[simp] theorem bw_mat_lo {R : List (List A)} : bw (mat (.l .lo) (.l .lo) R) = mat (.l .bo) (.l .bo) R := by
  simp only [lst_mat, bw_lo]; rw [map_fz bws rfl (fun _ _ => bws_cons) (row (.l .lo)) (row (.l .bo)) (fun _ => bw_row_lo)]
@[simp] theorem okf_sto_row {f : Fl} {r : List A} (h : isSto f = true) : okf isSto (row (.l f) r) = true := by simp [lst_row, h]
@[simp] theorem okf_nlo_row {f : Fl} {r : List A} (h : notLo f = true) : okf notLo (row (.l f) r) = true := by simp [lst_row, h]
theorem okfs_rows {p : Fl → Bool} {f : Fl} (h : p f = true) : ∀ {R : List (List A)}, okfs p (R.map (row (.l f))) = true
  | [] => rfl
  | r :: R => by simp only [List.map_cons, okfs_cons, okfs_rows h, lst_row, okf_lst, h, okfs_aDs]; rfl
@[simp] theorem okf_mat {p : Fl → Bool} {f g : Fl} {R : List (List A)} (h : p f = true) (h' : p g = true) : okf p (mat (.l f) (.l g) R) = true := by simp [lst_mat, h, okfs_rows h']
@[simp] theorem okf_mat_t {p : Fl → Bool} {R : List (List A)} : okf p (mat .t .t R) = true := by simp [tup_mat]
theorem v_trows {R : List (List A)} {m : Nat} (h : Rect R m) {k j : Sk} (hk : k.arg = true) (hj : j.arg = true) (L : List Int) : d_p_tables_rows [mat k j R] L = .ok (mat .t .t R) L := by
  have h0 := h.at h.n0
  have n0 := h.n0
  have n1 := h.n1
  have m0 := h.m0
  obtain ⟨e1, L1, q1, x1, e1', e1''⟩ := loop_on (p := .nm 1) (body := l_p_tables_rows_1) (h := row j) (ys := R) (env := [some (mat k j R), none, none, none]) (L := L) (fun _ env L' => ∃ x, env = [some (mat k j R), x, none, none] ∧ L' = L) (by
    rintro i r e env L' ⟨y, rfl, rfl⟩
    have hr := h.len r (mem_at e)
    have : m ≠ 0 := by omega
    simp [turn, l_p_tables_rows_1, hk, hj, at_ro0 n0, h0, hr, this]) ⟨_, rfl, rfl⟩
  subst e1' e1''
  obtain ⟨e2, L2, q2, x2, i2, y2, e2', e2''⟩ := loop_on (p := .nm 1) (body := l_p_tables_rows_3) (h := row j) (ys := R) (env := [some (mat k j R), x1, some (.int 0), none]) (L := L1) (fun _ env L' => ∃ x i y, env = [some (mat k j R), x, some (.int i), y] ∧ L' = L1) (by
    rintro i r e env L' ⟨y, i0, z, rfl, rfl⟩
    obtain ⟨e3, L3, q3, i3, y3, e3', e3''⟩ := loop_on (p := .nm 3) (body := l_p_tables_rows_2) (h := aD) (ys := r) (env := [some (mat k j R), some (row j r), some (.int i0), z]) (L := L') (fun _ env L'' => ∃ i y, env = [some (mat k j R), some (row j r), some (.int i), y] ∧ L'' = L') (by
      rintro i a e env L' ⟨i1, y, rfl, rfl⟩
      simp [turn, l_p_tables_rows_2, v_isamount]) ⟨_, _, rfl, rfl⟩
    subst e3' e3''
    simp [turn, l_p_tables_rows_3, hj, q3]) ⟨_, _, _, rfl, rfl⟩
  subst e2' e2''
  have q3 := lc_on (own := [1]) (p := .nm 1) (de := c_p_tables_rows_1) (env := [some (mat k j R), x2, some (.int i2), y2]) (h := row j) (ys := R) (L := L2) (row .t) (by
    intro r hr
    simp [lcTurn, wipeE, c_p_tables_rows_1, hj])
  have o1 : okLen (R.length + 1) = true := okLen_le (by omega)
  have o2 : R.length ≠ 0 := by omega
  exact body_ret (env := [some (mat k j R), none, none, none]) (by simp [b_p_tables_rows, hk, hj, q1, q2, q3, o1, o2, tupleD, tup_mat]) (by simp [tup_mat])

def tabN : List Str := ["rows", "states"]
def tab (f : Fl) (R : List (List A)) (m : Nat) : D := .obj f "Table" tabN [mat .t .t R, .int m]
theorem v_init {R : List (List A)} {m : Nat} (h : Rect R m) {k j : Sk} (hk : k.arg = true) (hj : j.arg = true) (L : List Int) : d_Table_init [mat k j R] L = .ok (tab .ow R m) L := by
  have h0 := h.at h.n0
  have e1 : ("Table" : Str) ∈ (["HourTable", "Table"] : List Str) := by decide +kernel
  have e2 : ¬ (("rows" : Str) = "states") := by decide +kernel
  have e3 : ¬ (("states" : Str) = "rows") := by decide +kernel
  simp [d_Table_init, dInit, b_Table_init, dSetF, hk, hj, v_trows h hk hj, instD, putN, fldD, lkN, e1, e2, e3, at_ro0 h.n0, h0, tab, tabN, isFz, isSto, notLo, isArg]

theorem s_rs : ¬ (("rows" : Str) = "states") := by decide +kernel
theorem s_sr : ¬ (("states" : Str) = "rows") := by decide +kernel
theorem s_T : ("Table" : Str) ∈ (["HourTable", "Table"] : List Str) := by decide +kernel
@[simp] theorem fld_rows {f : Fl} {R : List (List A)} {m : Nat} : fldD ["HourTable", "Table"] "rows" (tab f R m) L = .ok (mat .t .t R) L := by simp [tab, tabN, fldD, lkN, s_T]
@[simp] theorem fld_states {f : Fl} {R : List (List A)} {m : Nat} : fldD ["Body", "Round", "Table"] "states" (tab f R m) L = .ok (.int m) L := by simp [tab, tabN, fldD, lkN, s_sr]
@[simp] theorem lk_tab {R : List (List A)} {m : Nat} : lk (tab .fz R m) = tab .fz R m := by simp [tab]
@[simp] theorem fz_tab {R : List (List A)} {m : Nat} : fz (tab .fz R m) = tab .fz R m := by simp [tab]
@[simp] theorem fz_tabo {R : List (List A)} {m : Nat} : fz (tab .ow R m) = tab .fz R m := by simp [tab]
@[simp] theorem bw_tab {R : List (List A)} {m : Nat} : bw (tab .fz R m) = tab .fz R m := by simp [tab]
@[simp] theorem okf_tab {R : List (List A)} {m : Nat} : okf notLo (tab .fz R m) = true := by simp [tab]

/-! ### the first break -/
def cnd (r q : List A) (s t : Nat) : Bool := ltA (plusA (ce r t) (ce q s)) (plusA (ce r s) (ce q t))
theorem cnd_def {r q : List A} {s t : Nat} : ltA (plusA (ce r t) (ce q s)) (plusA (ce r s) (ce q t)) = cnd r q s t := rfl
def sts (r q : List A) (m : Nat) : Option (Nat × Nat) := (List.range' 0 m).findSome? fun s => (List.range' (s + 1) (m - (s + 1))).findSome? fun t => if cnd r q s t then some (s, t) else none
def brk (R : List (List A)) (m : Nat) : Option (Nat × Nat × Nat × Nat) := (List.range' 0 R.length).findSome? fun d => (List.range' (d + 1) (R.length - (d + 1))).findSome? fun e => (sts (ro R d) (ro R e) m).map fun x => (d, e, x)
def stL : Option (Nat × Nat) → List D
  | some (s, t) => [.int s, .int t]
  | none => []
def brL : Option (Nat × Nat × Nat × Nat) → List D
  | some (d, e, s, t) => [.int d, .int e, .int s, .int t]
  | none => []
theorem findSome_map {α β γ : Type} (f : α → Option β) (g : β → γ) : ∀ l : List α, (l.findSome? f).map g = l.findSome? fun x => (f x).map g
  | [] => rfl
  | a :: l => by
    rw [List.findSome?_cons, List.findSome?_cons, ← findSome_map f g l]
    cases f a <;> rfl
theorem findSome_congr {α β : Type} {f g : α → Option β} : ∀ {l : List α}, (∀ x ∈ l, f x = g x) → l.findSome? f = l.findSome? g
  | [], _ => rfl
  | a :: l, h => by
    rw [List.findSome?_cons, List.findSome?_cons, h a (List.mem_cons_self ..), findSome_congr fun x m => h x (List.mem_cons_of_mem _ m)]
/-- a seeking loop's end, for simp -/
theorem Fd_use {o : Option D} {r : SRes} {I : Qd.Env → Prop} (h : Fd L o r I) : (∃ y, o = some y ∧ r = .ret y L) ∨ (o = none ∧ ∃ e, (r = .nx e L ∨ r = .cnt e L) ∧ I e) := by
  cases o with
  | some y => exact .inl ⟨y, rfl, h⟩
  | none =>
    obtain ⟨e, L', e1, rfl, i⟩ := Nx_of h
    exact .inr ⟨rfl, e, e1, i⟩
theorem sub1 {n d : Nat} : ((n : Int) - ((d : Int) + 1)).toNat = n - (d + 1) := by omega
theorem t_states1 {r q : List A} {m : Nat} (hr : r.length = m) (hq : q.length = m) {k j : Sk} (hk : k.arg = true) (hj : j.arg = true) {s t : Nat} (hs : s < m) (ht : t < m) (y : Option D) (L : List Int) :
    turn (.nm 3) l_p_bent_states_1 (.int (t : Nat)) [some (row k r), some (row j q), some (.int s), y] L = if cnd r q s t then .ret (.tup [.int s, .int t]) L else .nx [some (row k r), some (row j q), some (.int s), some (.int t)] L := by
  have a1 := at_ce (L := L) (k := k) (r := r) (i := s) (by omega)
  have a2 := at_ce (L := L) (k := k) (r := r) (i := t) (by omega)
  have a3 := at_ce (L := L) (k := j) (r := q) (i := s) (by omega)
  have a4 := at_ce (L := L) (k := j) (r := q) (i := t) (by omega)
  simp [turn, l_p_bent_states_1, hk, hj, a1, a2, a3, a4, v_plus, v_below, cnd_def]
theorem small_succ {s m : Nat} (h : s < m) (hm : m ≤ 1000) : smallI ((s : Int) + 1) = true := by
  rw [show ((s : Int) + 1) = ((s + 1 : Nat) : Int) by omega]; exact small_nat (by omega)
theorem small_le {m : Nat} (hm : m ≤ 1000) : smallI (m : Int) = true := small_nat (by omega)
theorem t_states2 {r q : List A} {m : Nat} (hr : r.length = m) {k j : Sk} (hk : k.arg = true) {s : Nat} (b1 : smallI ((s : Int) + 1) = true) (b2 : smallI (m : Int) = true) (x y : Option D) (L : List Int) :
    turn (.nm 2) l_p_bent_states_2 (.int (s : Nat)) [some (row k r), some (row j q), x, y] L = dLoop (.nm 3) l_p_bent_states_1 (rngD ((s : Int) + 1) (m - (s + 1))) [some (row k r), some (row j q), some (.int s), y] L := by
  simp only [turn, bindP_nm, okf_int, if_true, List.set_cons_succ, List.set_cons_zero, l_p_bent_states_2, dFor_ev, dRng2_ev, dCons_ev, dBin_ev, dVar_ev, List.getElem?_cons_succ, List.getElem?_cons_zero, lk_int, Res.bindF_ok, fz_int, dC_ev, addD_ev, dApp_ev, lk_row hk, fz_row hk, dNil_ev, Res.bind_ok, len_row, hr, b1, b2, Bool.and_self, Res.then_ok, sub1]

theorem nat0 : ((0 : Nat) : Int) = 0 := by omega
theorem natS {s : Nat} : ((s + 1 : Nat) : Int) = (s : Int) + 1 := by omega
/-- a seeking loop that begins at 0 -/
theorem find0 {p : Pat} {body : DS} {n : Nat} {L : List Int} (f : Nat → Option D) (I : Qd.Env → Prop) (step : ∀ k, k < n → ∀ env, I env → Fd L (f k) (turn p body (.int (k : Nat)) env L) I) {env : Qd.Env} (h0 : I env) :
    (∃ y, (List.range' 0 n).findSome? f = some y ∧ dLoop p body (rngD 0 n) env L = .ret y L) ∨ ((List.range' 0 n).findSome? f = none ∧ ∃ e, dLoop p body (rngD 0 n) env L = .nx e L ∧ I e) := by
  have F := find_to (p := p) (body := body) (lo := 0) (n := n) (L := L) f I (fun k _ h env i => step k (by omega) env i) h0
  rw [nat0] at F
  rcases Fd_use F with h | ⟨e1, e, e2, i⟩
  · exact .inl h
  · rcases e2 with e2 | e2
    · exact .inr ⟨e1, e, e2, i⟩
    · exact absurd e2 (dLoop_ncnt _ _ _ _ _ _ _)
theorem findS {p : Pat} {body : DS} {d n : Nat} {L : List Int} (f : Nat → Option D) (I : Qd.Env → Prop) (step : ∀ k, d < k → k < n → ∀ env, I env → Fd L (f k) (turn p body (.int (k : Nat)) env L) I) {env : Qd.Env} (h0 : I env) :
    Fd L ((List.range' (d + 1) (n - (d + 1))).findSome? f) (dLoop p body (rngD ((d : Int) + 1) (n - (d + 1))) env L) I := by
  have F := find_to (p := p) (body := body) (lo := d + 1) (n := n - (d + 1)) (L := L) f I (fun k h1 h env i => step k (by omega) (by omega) env i) h0
  rw [natS] at F
  exact F
theorem Fd_mono {L : List Int} {o : Option D} {r : SRes} {I J : Qd.Env → Prop} (h : Fd L o r I) (i : ∀ e, I e → J e) : Fd L o r J := by
  cases o with
  | some y => exact h
  | none =>
    have h' : Nx r fun e L' => L' = L ∧ I e := h
    show Nx r fun e L' => L' = L ∧ J e
    cases r with
    | nx e L' => exact ⟨h'.1, i _ h'.2⟩
    | cnt e L' => exact ⟨h'.1, i _ h'.2⟩
    | _ => exact h'.elim
theorem v_states {r q : List A} {m : Nat} (hr : r.length = m) (hq : q.length = m) (hm : m ≤ 1000) {k j : Sk} (hk : k.arg = true) (hj : j.arg = true) (L : List Int) : d_p_bent_states [row k r, row j q] L = .ok (.tup (stL (sts r q m))) L := by
  have F := find0 (p := .nm 2) (body := l_p_bent_states_2) (n := m) (L := L) (fun s => ((List.range' (s + 1) (m - (s + 1))).findSome? fun t => if cnd r q s t then some (s, t) else none).map fun x => D.tup (stL (some x)))
    (fun env => ∃ x y, env = [some (row k r), some (row j q), x, y]) (by
      rintro s h2 env ⟨x, y, rfl⟩
      rw [findSome_map, t_states2 hr hk (small_succ h2 hm) (small_le hm)]
      refine Fd_mono (findS (p := .nm 3) (body := l_p_bent_states_1) (d := s) (n := m) (L := L) (fun t => (if cnd r q s t then some (s, t) else none).map fun x => D.tup (stL (some x)))
        (fun env => ∃ y, env = [some (row k r), some (row j q), some (.int s), y]) (by
          rintro t h3 h4 env ⟨y, rfl⟩
          rw [t_states1 hr hq hk hj h2 h4]
          cases cnd r q s t <;> simp [stL]) ⟨_, rfl⟩) ?_
      rintro e ⟨y', rfl⟩
      exact ⟨_, _, rfl⟩) (env := [some (row k r), some (row j q), none, none]) ⟨_, _, rfl⟩
  rw [← findSome_map] at F
  have b2 : smallI (m : Int) = true := small_le hm
  have ee : (List.range' 0 m).findSome? (fun s => (List.range' (s + 1) (m - (s + 1))).findSome? fun t => if cnd r q s t then some (s, t) else none) = sts r q m := rfl
  rw [ee] at F
  rcases F with ⟨z, e1, e2⟩ | ⟨e1, e', e2, y', y2, rfl⟩
  · cases q0 : sts r q m with
    | none => rw [q0] at e1; cases e1
    | some x =>
      rw [q0] at e1
      obtain rfl : D.tup (stL (some x)) = z := by simpa using e1
      obtain ⟨s, t⟩ := x
      exact body_ret (env := [some (row k r), some (row j q), none, none]) (by simp [b_p_bent_states, hk, hr, b2, e2]) (by simp [stL])
  · have q0 : sts r q m = none := by simpa using e1
    exact body_ret (env := [some (row k r), some (row j q), none, none]) (by simp [b_p_bent_states, hk, hr, b2, e2, stL, q0]) (by simp [stL, q0])
theorem addD_tup {xs ys : List D} (h : okLen (xs.length + ys.length) = true) : addD (.tup xs) (.tup ys) L = .ok (.tup (xs ++ ys)) L := by
  show (if okLen (xs.length + ys.length) then _ else _) = _
  rw [if_pos h]
theorem t_break1' {R : List (List A)} {m : Nat} (h : Rect R m) {d e : Nat} (hd : d < R.length) (he : e < R.length) (x y : Option D) (L : List Int) :
    Fd L ((sts (ro R d) (ro R e) m).map fun x => D.tup (brL (some (d, e, x)))) (turn (.nm 2) l_bent_break_1 (.int (e : Nat)) [some (tab .fz R m), some (.int d), x, y] L) (fun env => ∃ x y, env = [some (tab .fz R m), some (.int d), x, y]) := by
  have a1 := at_ro (L := L) (k := .t) (j := .t) (R := R) hd
  have a2 := at_ro (L := L) (k := .t) (j := .t) (R := R) he
  have v := v_states (h.at hd) (h.at he) h.m1 (k := .t) (j := .t) rfl rfl L
  cases q0 : sts (ro R d) (ro R e) m with
  | none =>
    rw [q0] at v
    simp [turn, l_bent_break_1, a1, a2, v, stL]
  | some x =>
    obtain ⟨s, t⟩ := x
    rw [q0] at v
    simp [turn, l_bent_break_1, a1, a2, v, stL, addD_tup, brL]
end Pk

set_option Elab.async false
set_option linter.all false
set_option maxRecDepth 100000
set_option maxHeartbeats 4000000
namespace Pk
open PySem PySem.Spec PyProof.Rows L2 Qd
variable {L : List Int}
theorem v_break {R : List (List A)} {m : Nat} (h : Rect R m) (L : List Int) : d_bent_break [tab .fz R m] L = .ok (.tup (brL (brk R m))) L := by
  have b2 : smallI (R.length : Int) = true := small_le h.n1
  have F := find0 (p := .nm 1) (body := l_bent_break_2) (n := R.length) (L := L) (fun d => ((List.range' (d + 1) (R.length - (d + 1))).findSome? fun e => (sts (ro R d) (ro R e) m).map fun x => (d, e, x)).map fun x => D.tup (brL (some x)))
    (fun env => ∃ x y z, env = [some (tab .fz R m), x, y, z]) (by
      rintro d h2 env ⟨x, y, z, rfl⟩
      have b1 : smallI ((d : Int) + 1) = true := small_succ h2 h.n1
      have e : turn (.nm 1) l_bent_break_2 (.int (d : Nat)) [some (tab .fz R m), x, y, z] L = dLoop (.nm 2) l_bent_break_1 (rngD ((d : Int) + 1) (R.length - (d + 1))) [some (tab .fz R m), some (.int d), y, z] L := by
        simp [turn, l_bent_break_2, b1, b2, sub1]
      rw [findSome_map, e]
      refine Fd_mono (findS (p := .nm 2) (body := l_bent_break_1) (d := d) (n := R.length) (L := L) (fun e => ((sts (ro R d) (ro R e) m).map fun x => (d, e, x)).map fun x => D.tup (brL (some x)))
        (fun env => ∃ x y, env = [some (tab .fz R m), some (.int d), x, y]) (by
          rintro t h3 h4 env ⟨x, y, rfl⟩
          have z := t_break1' h h2 h4 x y L
          rw [Option.map_map]
          exact z) ⟨_, _, rfl⟩) ?_
      rintro e ⟨x', y', rfl⟩
      exact ⟨_, _, _, rfl⟩) (env := [some (tab .fz R m), none, none, none]) ⟨_, _, _, rfl⟩
  rw [← findSome_map] at F
  have ee : (List.range' 0 R.length).findSome? (fun d => (List.range' (d + 1) (R.length - (d + 1))).findSome? fun e => (sts (ro R d) (ro R e) m).map fun x => (d, e, x)) = brk R m := rfl
  rw [ee] at F
  rcases F with ⟨z, e1, e2⟩ | ⟨e1, e', e2, x, y, z, rfl⟩
  · cases q0 : brk R m with
    | none => rw [q0] at e1; cases e1
    | some x =>
      rw [q0] at e1
      obtain rfl : D.tup (brL (some x)) = z := by simpa using e1
      obtain ⟨d, e, s, t⟩ := x
      exact body_ret (env := [some (tab .fz R m), none, none, none]) (by simp [b_bent_break, b2, e2]) (by simp [brL])
  · have q0 : brk R m = none := by simpa using e1
    exact body_ret (env := [some (tab .fz R m), none, none, none]) (by simp [b_bent_break, b2, e2, brL, q0]) (by simp [brL, q0])
end Pk

set_option Elab.async false
set_option linter.all false
set_option maxRecDepth 100000
set_option maxHeartbeats 4000000
namespace Pk
open PySem PySem.Spec PyProof.Rows L2 Qd
variable {L : List Int}
section
variable {R : List (List A)} {m : Nat} {k j : Sk}
theorem t_lb1 (h : Rect R m) (hk : k.arg = true) (hj : j.arg = true) {d e s t : Nat} (hd : d < R.length) (he : e < R.length) (hs : s < m) (ht : t < m) (y a b : Option D) (L : List Int) :
    turn (.nm 4) l_p_law_bt_break_1 (.int (t : Nat)) [some (mat k j R), some (.int d), some (.int e), some (.int s), y, a, b] L =
      if cnd (ro R d) (ro R e) s t then .ret (.lst .ow [.int d, .int e, .int s, .int t]) L else .nx [some (mat k j R), some (.int d), some (.int e), some (.int s), some (.int t), some (aD (plusA (ce (ro R d) s) (ce (ro R e) t))), some (aD (plusA (ce (ro R d) t) (ce (ro R e) s)))] L := by
  have a1 := at_ro (L := L) (k := k) (j := j) hd
  have a2 := at_ro (L := L) (k := k) (j := j) he
  have hd' := h.at hd
  have he' := h.at he
  have a3 := at_ce (L := L) (k := j) (r := ro R d) (i := s) (by omega)
  have a4 := at_ce (L := L) (k := j) (r := ro R d) (i := t) (by omega)
  have a5 := at_ce (L := L) (k := j) (r := ro R e) (i := s) (by omega)
  have a6 := at_ce (L := L) (k := j) (r := ro R e) (i := t) (by omega)
  simp [turn, l_p_law_bt_break_1, hk, hj, a1, a2, a3, a4, a5, a6, v_lplus, v_lbelow, cnd_def]
theorem t_lb2 (h : Rect R m) (hk : k.arg = true) (hj : j.arg = true) {d e s : Nat} (hd : d < R.length) (he : e < R.length) (hs : s < m) (x y a b : Option D) (L : List Int) :
    Fd L (((List.range' (s + 1) (m - (s + 1))).findSome? fun t => if cnd (ro R d) (ro R e) s t then some (s, t) else none).map fun x => D.lst .ow (brL (some (d, e, x))))
      (turn (.nm 3) l_p_law_bt_break_2 (.int (s : Nat)) [some (mat k j R), some (.int d), some (.int e), x, y, a, b] L) (fun env => ∃ x y a b, env = [some (mat k j R), some (.int d), some (.int e), x, y, a, b]) := by
  have b1 : smallI ((s : Int) + 1) = true := small_succ hs h.m1
  have b2 : smallI (m : Int) = true := small_le h.m1
  have a1 := at_ro0 (L := L) (k := k) (j := j) h.n0
  have h0 := h.at h.n0
  have e1 : turn (.nm 3) l_p_law_bt_break_2 (.int (s : Nat)) [some (mat k j R), some (.int d), some (.int e), x, y, a, b] L = dLoop (.nm 4) l_p_law_bt_break_1 (rngD ((s : Int) + 1) (m - (s + 1))) [some (mat k j R), some (.int d), some (.int e), some (.int s), y, a, b] L := by
    simp [turn, l_p_law_bt_break_2, hk, hj, a1, h0, b1, b2, sub1]
  rw [findSome_map, e1]
  refine Fd_mono (findS (p := .nm 4) (body := l_p_law_bt_break_1) (d := s) (n := m) (L := L) (fun t => (if cnd (ro R d) (ro R e) s t then some (s, t) else none).map fun x => D.lst .ow (brL (some (d, e, x))))
    (fun env => ∃ y a b, env = [some (mat k j R), some (.int d), some (.int e), some (.int s), y, a, b]) (by
      rintro t h3 h4 env ⟨y, a, b, rfl⟩
      rw [t_lb1 h hk hj hd he hs h4]
      cases cnd (ro R d) (ro R e) s t <;> simp [brL]) ⟨_, _, _, rfl⟩) ?_
  rintro e ⟨y', a', b', rfl⟩
  exact ⟨_, _, _, _, rfl⟩
theorem t_lb3 (h : Rect R m) (hk : k.arg = true) (hj : j.arg = true) {d e : Nat} (hd : d < R.length) (he : e < R.length) (z x y a b : Option D) (L : List Int) :
    Fd L ((sts (ro R d) (ro R e) m).map fun x => D.lst .ow (brL (some (d, e, x))))
      (turn (.nm 2) l_p_law_bt_break_3 (.int (e : Nat)) [some (mat k j R), some (.int d), z, x, y, a, b] L) (fun env => ∃ z x y a b, env = [some (mat k j R), some (.int d), z, x, y, a, b]) := by
  have b2 : smallI (m : Int) = true := small_le h.m1
  have a1 := at_ro0 (L := L) (k := k) (j := j) h.n0
  have h0 := h.at h.n0
  have e1 : turn (.nm 2) l_p_law_bt_break_3 (.int (e : Nat)) [some (mat k j R), some (.int d), z, x, y, a, b] L = dLoop (.nm 3) l_p_law_bt_break_2 (rngD 0 m) [some (mat k j R), some (.int d), some (.int e), x, y, a, b] L := by
    simp [turn, l_p_law_bt_break_3, hk, hj, a1, h0, b2]
  unfold sts
  rw [findSome_map, e1, ← nat0]
  refine Fd_mono (find_to (p := .nm 3) (body := l_p_law_bt_break_2) (lo := 0) (n := m) (L := L) (fun s => ((List.range' (s + 1) (m - (s + 1))).findSome? fun t => if cnd (ro R d) (ro R e) s t then some (s, t) else none).map fun x => D.lst .ow (brL (some (d, e, x))))
    (fun env => ∃ x y a b, env = [some (mat k j R), some (.int d), some (.int e), x, y, a, b]) (by
      rintro s h3 h4 env ⟨x, y, a, b, rfl⟩
      exact t_lb2 h hk hj hd he (by omega) x y a b L) ⟨_, _, _, _, rfl⟩) ?_
  rintro e ⟨x', y', a', b', rfl⟩
  exact ⟨_, _, _, _, _, rfl⟩
theorem v_lbreak (h : Rect R m) (hk : k.arg = true) (hj : j.arg = true) (L : List Int) : d_p_law_bt_break [mat k j R] L = .ok (.lst .ow (brL (brk R m))) L := by
  have b2 : smallI (R.length : Int) = true := small_le h.n1
  have F := find0 (p := .nm 1) (body := l_p_law_bt_break_4) (n := R.length) (L := L) (fun d => ((List.range' (d + 1) (R.length - (d + 1))).findSome? fun e => (sts (ro R d) (ro R e) m).map fun x => (d, e, x)).map fun x => D.lst .ow (brL (some x)))
    (fun env => ∃ w z x y a b, env = [some (mat k j R), w, z, x, y, a, b]) (by
      rintro d h2 env ⟨w, z, x, y, a, b, rfl⟩
      have b1 : smallI ((d : Int) + 1) = true := small_succ h2 h.n1
      have e : turn (.nm 1) l_p_law_bt_break_4 (.int (d : Nat)) [some (mat k j R), w, z, x, y, a, b] L = dLoop (.nm 2) l_p_law_bt_break_3 (rngD ((d : Int) + 1) (R.length - (d + 1))) [some (mat k j R), some (.int d), z, x, y, a, b] L := by
        simp [turn, l_p_law_bt_break_4, hk, hj, b1, b2, sub1]
      rw [findSome_map, e]
      refine Fd_mono (findS (p := .nm 2) (body := l_p_law_bt_break_3) (d := d) (n := R.length) (L := L) (fun e => ((sts (ro R d) (ro R e) m).map fun x => (d, e, x)).map fun x => D.lst .ow (brL (some x)))
        (fun env => ∃ z x y a b, env = [some (mat k j R), some (.int d), z, x, y, a, b]) (by
          rintro t h3 h4 env ⟨z, x, y, a, b, rfl⟩
          have w := t_lb3 h hk hj h2 h4 z x y a b L
          rw [Option.map_map]
          exact w) ⟨_, _, _, _, _, rfl⟩) ?_
      rintro e ⟨z', x', y', a', b', rfl⟩
      exact ⟨_, _, _, _, _, _, rfl⟩) (env := [some (mat k j R), none, none, none, none, none, none]) ⟨_, _, _, _, _, _, rfl⟩
  rw [← findSome_map] at F
  have ee : (List.range' 0 R.length).findSome? (fun d => (List.range' (d + 1) (R.length - (d + 1))).findSome? fun e => (sts (ro R d) (ro R e) m).map fun x => (d, e, x)) = brk R m := rfl
  rw [ee] at F
  rcases F with ⟨z, e1, e2⟩ | ⟨e1, e', e2, w, z, x, y, a, b, rfl⟩
  · cases q0 : brk R m with
    | none => rw [q0] at e1; cases e1
    | some x =>
      rw [q0] at e1
      obtain rfl : D.lst .ow (brL (some x)) = z := by simpa using e1
      obtain ⟨d, e, s, t⟩ := x
      exact body_ret (env := [some (mat k j R), none, none, none, none, none, none]) (by simp [b_p_law_bt_break, hk, hj, b2, e2]) (by simp [brL])
  · have q0 : brk R m = none := by simpa using e1
    exact body_ret (env := [some (mat k j R), none, none, none, none, none, none]) (by simp [b_p_law_bt_break, hk, hj, b2, e2, brL, q0]) (by simp [brL, q0])
end
end Pk

set_option Elab.async false
set_option linter.all false
set_option maxRecDepth 100000
set_option maxHeartbeats 4000000
namespace Pk
open PySem PySem.Spec PyProof.Rows L2 Qd
theorem mul_l {i j : Int} (h1 : -(2 ^ 64) < i) (h2 : i < 2 ^ 64) : mulOk i j = true := by
  unfold mulOk
  rw [decide_eq_true (show -(2 ^ 64) < i ∧ i < 2 ^ 64 from ⟨h1, h2⟩)]
  rfl
theorem mul_r {i j : Int} (h1 : -(2 ^ 64) < j) (h2 : j < 2 ^ 64) : mulOk i j = true := by
  unfold mulOk
  rw [decide_eq_true (show -(2 ^ 64) < j ∧ j < 2 ^ 64 from ⟨h1, h2⟩), Bool.or_true]
  rfl
@[simp] theorem fdivOk30 : fdivOk 30 = true := by decide
@[simp] theorem fdivOk64 : fdivOk 64 = true := by decide
theorem iD_app (l : List Int) (x : Int) : l.map D.int ++ [D.int x] = (l ++ [x]).map D.int := by simp
@[simp] theorem okfs_ints' {p : Fl → Bool} (l : List Int) : okfs p (l.map D.int) = true := okfs_ints p l
@[simp] theorem lks_ints (l : List Int) : lks (l.map D.int) = l.map D.int := map_fz lks rfl (fun _ _ => lks_cons) D.int D.int (fun _ => lk_int) l
@[simp] theorem fzs_ints (l : List Int) : fzs (l.map D.int) = l.map D.int := map_fz fzs rfl (fun _ _ => fzs_cons) D.int D.int (fun _ => fz_int) l
@[simp] theorem bws_ints (l : List Int) : bws (l.map D.int) = l.map D.int := map_fz bws rfl (fun _ _ => bws_cons) D.int D.int (fun _ => bw_int) l
theorem ix_ints {f : Fl} {l : List Int} {i : Nat} {L : List Int} (h : i < l.length) : ixD (.lst f (l.map D.int)) (.int (i : Nat)) L = .ok (.int l[i]) L := by
  have e : (l.map D.int)[i]? = some (.int l[i]) := by simp [h]
  exact ix_sq (k := .l f) e
/-! ### the stream -/
theorem t_s1 (ns : List Int) (Lr : List Int) (a c t : Int) (x4 x5 : Option D) (h : Lr.length ≤ 100000) (L : List Int) :
    ∃ (Lr' : List Int) (c' : Int), Lr'.length ≤ Lr.length + 1 ∧ turn (.nm 4) l_p_law_stream_1 (.int t) [some (.lst .kz (ns.map D.int)), some (.lst .ow (Lr.map D.int)), some (.int a), some (.int c), x4, x5] L = .nx [some (.lst .kz (ns.map D.int)), some (.lst .ow (Lr'.map D.int)), some (.int a), some (.int c'), some (.int t), x5] L := by
  have o : okLen (Lr.length + 1) = true := okLen_le (by omega)
  by_cases hc : 0 < c
  · exact ⟨Lr ++ [c.fmod 30], c.fdiv 30, by simp, by simp [turn, l_p_law_stream_1, hc, o]⟩
  · exact ⟨Lr, c, by omega, by simp [turn, l_p_law_stream_1, hc]⟩
theorem t_s2 (ns : List Int) (Lr : List Int) (a t mx : Int) (x3 x4 : Option D) (h : Lr.length ≤ 100000) (h1 : 0 ≤ mx) (h2 : mx < 2147483629) (L : List Int) :
    ∃ (Lr' : List Int) (mx' : Int), Lr'.length ≤ Lr.length + 1 ∧ 0 ≤ mx' ∧ mx' < 2147483629 ∧ turn (.nm 4) l_p_law_stream_2 (.int t) [some (.lst .kz (ns.map D.int)), some (.lst .ow (Lr.map D.int)), some (.int a), x3, x4, some (.int mx)] L = .nx [some (.lst .kz (ns.map D.int)), some (.lst .ow (Lr'.map D.int)), some (.int a), x3, some (.int t), some (.int mx')] L := by
  have o : okLen (Lr.length + 1) = true := okLen_le (by omega)
  have m1 : mulOk mx mx = true := mul_l (by omega) (by omega)
  have m2 : mulOk t 104729 = true := mul_r (by omega) (by omega)
  have m3 : mulOk a 31 = true := mul_r (by omega) (by omega)
  refine ⟨Lr ++ [((mx * mx + t * 104729 + a * 31 + 11).fmod 2147483587).fdiv 64], (mx * mx + t * 104729 + a * 31 + 11).fmod 2147483587, by simp, Int.fmod_nonneg_of_pos _ (by omega), ?_, by simp [turn, l_p_law_stream_2, o, m1, m2, m3]⟩
  have := Int.fmod_lt_of_pos (mx * mx + t * 104729 + a * 31 + 11) (show (0 : Int) < 2147483587 by omega)
  omega
theorem t_s3 (ns : List Int) (Lr : List Int) (a : Nat) (ha : a < ns.length) (x2 x3 x4 x5 : Option D) (h : Lr.length ≤ 10000) (L : List Int) :
    ∃ (Lr' : List Int) (y3 y4 y5 : Option D), Lr'.length ≤ Lr.length + 48 ∧ turn (.nm 2) l_p_law_stream_3 (.int (a : Nat)) [some (.lst .kz (ns.map D.int)), some (.lst .ow (Lr.map D.int)), x2, x3, x4, x5] L = .nx [some (.lst .kz (ns.map D.int)), some (.lst .ow (Lr'.map D.int)), some (.int (a : Nat)), y3, y4, y5] L := by
  have i1 := ix_ints (f := .kz) (L := L) ha
  have m0 : ∀ c : Int, mulOk 3 c = true := fun c => mul_l (by omega) (by omega)
  have m1 : ∀ c : Int, mulOk c 16807 = true := fun c => mul_r (by omega) (by omega)
  have m2 : ∀ c : Int, mulOk c 7919 = true := fun c => mul_r (by omega) (by omega)
  have s48 : smallI 48 = true := small_nat (n := 48) (by omega)
  have s7 : smallI 7 = true := small_nat (n := 7) (by omega)
  -- the cell
  obtain ⟨c, hc⟩ : ∃ c : Int, ∀ k : DS, (dSeq (dSet 3 (dApp intD (dCons (dBin ixD (dVar 0) (dVar 2)) dNil))) (dSeq (dIfS (dTst (dBin ltD (dVar 3) (dC (.int 0)))) (dSet 3 (dBin subD (dC (.int 5)) (dBin mulD (dC (.int 3)) (dVar 3)))) dNext) k))
      [some (.lst .kz (ns.map D.int)), some (.lst .ow (Lr.map D.int)), some (.int (a : Nat)), x3, x4, x5] L = k [some (.lst .kz (ns.map D.int)), some (.lst .ow (Lr.map D.int)), some (.int (a : Nat)), some (.int c), x4, x5] L := by
    by_cases hn : ns[a] < 0
    · exact ⟨5 - 3 * ns[a], fun k => by simp [i1, hn, m0]⟩
    · exact ⟨ns[a], fun k => by simp [i1, hn]⟩
  have e1 : turn (.nm 2) l_p_law_stream_3 (.int (a : Nat)) [some (.lst .kz (ns.map D.int)), some (.lst .ow (Lr.map D.int)), x2, x3, x4, x5] L =
      (dIfS (dTst (dBin geD (dVar 3) (dBin powD (dC (.int 10)) (dC (.int 18))))) (dFor (.nm 4) (dRng1 (dCons (dC (.int 48)) dNil)) l_p_law_stream_1) (dSeq (dSet 5 (dBin modD (dApp intD (dCons (dBin addD (dBin addD (dBin mulD (dVar 3) (dC (.int 16807))) (dBin mulD (dVar 2) (dC (.int 7919)))) (dC (.int 3))) dNil)) (dC (.int 2147483629))))
    (dFor (.nm 4) (dRng1 (dCons (dC (.int 7)) dNil)) l_p_law_stream_2))) [some (.lst .kz (ns.map D.int)), some (.lst .ow (Lr.map D.int)), some (.int (a : Nat)), some (.int c), x4, x5] L := by
    refine Eq.trans ?_ (hc _)
    simp only [turn, bindP_nm, okf_int, if_true, List.set_cons_succ, List.set_cons_zero]
    rfl
  rw [e1]
  by_cases hg : (1000000000000000000 : Int) ≤ c
  · obtain ⟨e, L', q1, Lr', c', x4', hl, e1, e2⟩ := loop_to (p := .nm 4) (body := l_p_law_stream_1) (lo := 0) (n := 48) (env := [some (.lst .kz (ns.map D.int)), some (.lst .ow (Lr.map D.int)), some (.int (a : Nat)), some (.int c), x4, x5]) (L := L)
      (fun k env L' => ∃ Lr' c' x4', List.length Lr' ≤ Lr.length + k ∧ env = [some (.lst .kz (ns.map D.int)), some (.lst .ow (Lr'.map D.int)), some (.int (a : Nat)), some (.int c'), x4', x5] ∧ L' = L) (by
        rintro k hk env L' ⟨Lr', c', x4', hl, rfl, rfl⟩
        obtain ⟨Lr2, c2, hl2, e⟩ := t_s1 ns Lr' a c' ((0 : Int) + ((k : Nat) : Int)) x4' x5 (by omega) L'
        rw [e]
        exact ⟨Lr2, c2, _, by omega, rfl, rfl⟩) ⟨Lr, c, x4, by omega, rfl, rfl⟩
    subst e1 e2
    exact ⟨Lr', some (.int c'), x4', x5, by omega, by
      have hg' : ¬ (c < 1000000000000000000) := by omega
      simp [hg, hg', s48, q1]⟩
  · have hg' : c < 1000000000000000000 := by omega
    obtain ⟨mx, hm1, hm2, hmx⟩ : ∃ mx : Int, 0 ≤ mx ∧ mx < 2147483629 ∧ (c * 16807 + (a : Int) * 7919 + 3).fmod 2147483629 = mx := ⟨_, Int.fmod_nonneg_of_pos _ (by omega), Int.fmod_lt_of_pos _ (by omega), rfl⟩
    obtain ⟨e, L', q1, Lr', mx', x4', hl, h1, h2, e1, e2⟩ := loop_to (p := .nm 4) (body := l_p_law_stream_2) (lo := 0) (n := 7) (env := [some (.lst .kz (ns.map D.int)), some (.lst .ow (Lr.map D.int)), some (.int (a : Nat)), some (.int c), x4, some (.int mx)]) (L := L)
      (fun k env L' => ∃ Lr' mx' x4', List.length Lr' ≤ Lr.length + k ∧ 0 ≤ mx' ∧ mx' < 2147483629 ∧ env = [some (.lst .kz (ns.map D.int)), some (.lst .ow (Lr'.map D.int)), some (.int (a : Nat)), some (.int c), x4', some (.int mx')] ∧ L' = L) (by
        rintro k hk env L' ⟨Lr', mx', x4', hl, h1, h2, rfl, rfl⟩
        obtain ⟨Lr2, mx2, hl2, h3, h4, e⟩ := t_s2 ns Lr' a ((0 : Int) + ((k : Nat) : Int)) mx' (some (.int c)) x4' (by omega) h1 h2 L'
        rw [e]
        exact ⟨Lr2, mx2, _, by omega, h3, h4, rfl, rfl⟩) ⟨Lr, mx, x4, by omega, hm1, hm2, rfl, rfl⟩
    subst e1 e2
    exact ⟨Lr', some (.int c), x4', some (.int mx'), by omega, by simp [hg, hg', s7, m1, m2, hmx, q1]⟩
theorem v_stream (ns : List Int) (L : List Int) : ∃ Lr : List Int, d_p_law_stream [.lst .kz (ns.map D.int)] L = .ok (.lst .ow (Lr.map D.int)) L := by
  obtain ⟨n, hn1, hn2, hn⟩ : ∃ n : Nat, n ≤ 63 ∧ n ≤ ns.length ∧ (if (63 : Int) < (ns.length : Int) then (63 : Int) else (ns.length : Int)) = (n : Int) := by
    by_cases h : (63 : Int) < (ns.length : Int)
    · exact ⟨63, by omega, by omega, by rw [if_pos h]; rfl⟩
    · exact ⟨ns.length, by omega, by omega, by rw [if_neg h]⟩
  obtain ⟨e, L', q1, Lr', x2, x3, x4, x5, hl, e1, e2⟩ := loop_to (p := .nm 2) (body := l_p_law_stream_3) (lo := 0) (n := n) (env := [some (.lst .kz (ns.map D.int)), some (.lst .ow []), none, none, none, none]) (L := L)
    (fun k env L' => ∃ Lr' x2 x3 x4 x5, List.length Lr' ≤ 48 * k ∧ env = [some (.lst .kz (ns.map D.int)), some (.lst .ow (Lr'.map D.int)), x2, x3, x4, x5] ∧ L' = L) (by
      rintro k hk env L' ⟨Lr', x2, x3, x4, x5, hl, rfl, rfl⟩
      obtain ⟨Lr2, y3, y4, y5, hl2, e⟩ := t_s3 ns Lr' k (by omega) x2 x3 x4 x5 (by omega) L'
      rw [Int.zero_add, e]
      exact ⟨Lr2, _, _, _, _, by omega, rfl, rfl⟩) ⟨[], none, none, none, none, by simp, rfl, rfl⟩
  subst e1 e2
  refine ⟨Lr'.reverse, ?_⟩
  have b : smallI (n : Int) = true := small_nat (by omega)
  exact body_ret (env := [some (.lst .kz (ns.map D.int)), none, none, none, none, none]) (by simp [b_p_law_stream, hn, b, q1]) (by show (isSto .ow && okfs isSto (Lr'.reverse.map D.int)) = true; rw [okfs_ints']; rfl)
end Pk

set_option Elab.async false
set_option linter.all false
set_option maxRecDepth 100000
set_option maxHeartbeats 4000000
namespace Pk
open PySem PySem.Spec PyProof.Rows L2 Qd
abbrev rw : List A → D := row (.l .ow)
theorem okfs_rw {p : Fl → Bool} (h : p .ow = true) {R : List (List A)} : okfs p (R.map rw) = true := okfs_rows h
theorem okfs_sto_rw {R : List (List A)} : okfs isSto (R.map rw) = true := okfs_rows rfl
theorem okfs_nlo_rw {R : List (List A)} : okfs notLo (R.map rw) = true := okfs_rows rfl
theorem aD_app (r : List A) (a : A) : r.map aD ++ [aD a] = (r ++ [a]).map aD := by simp
theorem rw_app (R : List (List A)) (r : List A) : R.map rw ++ [.lst .ow (r.map aD)] = (R ++ [r]).map rw := by simp [rw, lst_row]
/-! ### free tables -/
theorem t_free1 (sc s : Int) (r : List A) (hr : r.length ≤ 1000) (x1 x2 x4 x5 x7 x8 x9 : Option D) (L : List Int) :
    ∃ (a : A) (y8 y9 : Option D) (L' : List Int), turn (.nm 7) l_p_law_bt_free_1 (.int s) [some .tok, x1, x2, some (.int sc), x4, x5, some (.lst .ow (r.map aD)), x7, x8, x9] L = .nx [some .tok, x1, x2, some (.int sc), x4, x5, some (.lst .ow ((r ++ [a]).map aD)), some (.int s), y8, y9] L' := by
  obtain ⟨w, L1, e1, w0, w1⟩ := v_next 8 (by omega) L
  obtain ⟨c, L2, e2, c0, c1⟩ := v_next 10 (by omega) L1
  have o : okLen (r.length + 1) = true := okLen_le (by omega)
  by_cases hw : w = 7
  · subst hw
    exact ⟨none, some (.int 7), some (.int c), L2, by simp [turn, l_p_law_bt_free_1, e1, e2, o]⟩
  · have hm : mulOk c sc = true := mul_l (by omega) (by omega)
    exact ⟨some (c * sc), some (.int w), some (.int c), L2, by simp [turn, l_p_law_bt_free_1, e1, e2, o, hw, hm]⟩
theorem t_free2 (sc d : Int) (m : Nat) (hm : m ≤ 1000) (acc : List (List A)) (ha : acc.length ≤ 1000) (x1 x5 x6 x7 x8 x9 : Option D) (L : List Int) :
    ∃ (r : List A) (y7 y8 y9 : Option D) (L' : List Int), r.length = m ∧ turn (.nm 5) l_p_law_bt_free_2 (.int d) [some .tok, x1, some (.int m), some (.int sc), some (.lst .ow (acc.map rw)), x5, x6, x7, x8, x9] L =
      .nx [some .tok, x1, some (.int m), some (.int sc), some (.lst .ow ((acc ++ [r]).map rw)), some (.int d), none, y7, y8, y9] L' := by
  obtain ⟨e, L', q1, r, y7, y8, y9, hr, e1⟩ := loop_to (p := .nm 7) (body := l_p_law_bt_free_1) (lo := 0) (n := m) (env := [some .tok, x1, some (.int m), some (.int sc), some (.lst .ow (acc.map rw)), some (.int d), some (.lst .ow []), x7, x8, x9]) (L := L)
    (fun k env _ => ∃ (r : List A) (y7 y8 y9 : Option D), r.length = k ∧ env = [some .tok, x1, some (.int m), some (.int sc), some (.lst .ow (acc.map rw)), some (.int d), some (.lst .ow (r.map aD)), y7, y8, y9]) (by
      rintro k hk env L' ⟨r, y7, y8, y9, hr, rfl⟩
      obtain ⟨a, z8, z9, L2, e⟩ := t_free1 sc ((0 : Int) + ((k : Nat) : Int)) r (by omega) x1 (some (.int m)) (some (.lst .ow (acc.map rw))) (some (.int d)) y7 y8 y9 L'
      rw [e]
      exact ⟨r ++ [a], _, _, _, by simp [hr], rfl⟩) ⟨[], _, _, _, rfl, rfl⟩
  subst e1
  have b : smallI (m : Int) = true := small_le hm
  have o : okLen (acc.length + 1) = true := okLen_le (by omega)
  refine ⟨r, y7, y8, y9, L', hr, ?_⟩
  rw [← rw_app]
  simp [turn, l_p_law_bt_free_2, b, q1, o]
theorem t_free2' (sc d : Int) (m : Nat) (hm : m ≤ 1000) (acc : List (List A)) (ha : acc.length ≤ 1000) (x1 x5 x6 x7 x8 x9 : Option D) (L : List Int) :
    ∃ (env' : Qd.Env) (L' : List Int), turn (.nm 5) l_p_law_bt_free_2 (.int d) [some .tok, x1, some (.int m), some (.int sc), some (.lst .ow (acc.map rw)), x5, x6, x7, x8, x9] L = .nx env' L' ∧
      ∃ (r : List A) (y7 y8 y9 : Option D), r.length = m ∧ env' = [some .tok, x1, some (.int m), some (.int sc), some (.lst .ow ((acc ++ [r]).map rw)), some (.int d), none, y7, y8, y9] := by
  obtain ⟨r, y7, y8, y9, L', h, e⟩ := t_free2 sc d m hm acc ha x1 x5 x6 x7 x8 x9 L
  exact ⟨_, _, e, r, y7, y8, y9, h, rfl⟩
theorem Nx_intro {r : SRes} {I : Qd.Env → List Int → Prop} (h : ∃ e L, r = .nx e L ∧ I e L) : Nx r I := by
  obtain ⟨e, L, rfl, i⟩ := h
  exact i
theorem t_free3 (sc : Int) (n m : Nat) (hn : n ≤ 1000) (hm : m ≤ 1000) (k : Nat) (hk : k < n) (d : Int) (env : Qd.Env) (L : List Int)
    (i : ∃ (R : List (List A)) (y5 y6 y7 y8 y9 : Option D), R.length = k ∧ (∀ r ∈ R, r.length = m) ∧ env = [some .tok, some (.int n), some (.int m), some (.int sc), some (.lst .ow (R.map rw)), y5, y6, y7, y8, y9]) :
    Nx (turn (.nm 5) l_p_law_bt_free_2 (.int d) env L) fun env _ => ∃ (R : List (List A)) (y5 y6 y7 y8 y9 : Option D), R.length = k + 1 ∧ (∀ r ∈ R, r.length = m) ∧ env = [some .tok, some (.int n), some (.int m), some (.int sc), some (.lst .ow (R.map rw)), y5, y6, y7, y8, y9] := by
  obtain ⟨R, y5, y6, y7, y8, y9, hR, hr, rfl⟩ := i
  have hR' : R.length ≤ 1000 := by omega
  refine Nx_intro ?_
  obtain ⟨r, z7, z8, z9, L2, h, e⟩ := t_free2 sc d m hm R hR' (some (.int n)) y5 y6 y7 y8 y9 L
  refine ⟨_, _, e, R ++ [r], _, _, _, _, _, by simp [hR], fun q hq => ?_, rfl⟩
  rcases List.mem_append.mp hq with hq | hq
  · exact hr q hq
  · rw [List.mem_singleton.mp hq]; exact h
theorem v_free (sc : Int) (n m : Nat) (hn : n ≤ 1000) (hm : m ≤ 1000) (L : List Int) : ∃ (R : List (List A)) (L' : List Int), R.length = n ∧ (∀ r ∈ R, r.length = m) ∧ d_p_law_bt_free [.tok, .int n, .int m, .int sc] L = .ok (.lst .ow (R.map rw)) L' := by
  obtain ⟨e, L', q1, R, y5, y6, y7, y8, y9, hR, hr, e1⟩ := loop_to (p := .nm 5) (body := l_p_law_bt_free_2) (lo := 0) (n := n) (env := [some .tok, some (.int n), some (.int m), some (.int sc), some (.lst .ow []), none, none, none, none, none]) (L := L)
    (fun k env _ => ∃ (R : List (List A)) (y5 y6 y7 y8 y9 : Option D), R.length = k ∧ (∀ r ∈ R, r.length = m) ∧ env = [some .tok, some (.int n), some (.int m), some (.int sc), some (.lst .ow (R.map rw)), y5, y6, y7, y8, y9])
    (fun k hk env L i => t_free3 sc n m hn hm k hk _ env L i) ⟨[], none, none, none, none, none, rfl, (fun _ m => nomatch m), rfl⟩
  subst e1
  have b : smallI (n : Int) = true := small_le hn
  exact ⟨R, L', hR, hr, body_ret (env := [some .tok, some (.int n), some (.int m), some (.int sc), none, none, none, none, none, none]) (by simp [b_p_law_bt_free, b, q1]) (by simp [okfs_sto_rw])⟩
/-! ### cut tables -/
@[simp] theorem ite_and {b c : Bool} {L : List Int} : (if b = true then Res.ok c L else Res.ok false L) = Res.ok (b && c) L := by cases b <;> rfl
@[simp] theorem ite_or {b c : Bool} {L : List Int} : (if b = true then Res.ok true L else Res.ok c L) = Res.ok (b || c) L := by cases b <;> rfl
theorem st_cut {x0 x1 x2 x3 x4 x5 x6 x7 x8 x9 x10 : Option D} {t : DT} {a : A} {b : Bool} {L : List Int} (h : t [x0, x1, x2, x3, x4, x5, x6, x7, x8, x9, x10, some (aD a)] L = .ok b L) :
    dIfS t (dSet 11 (dC .non)) dNext [x0, x1, x2, x3, x4, x5, x6, x7, x8, x9, x10, some (aD a)] L = .nx [x0, x1, x2, x3, x4, x5, x6, x7, x8, x9, x10, some (aD (if b then none else a))] L := by
  cases b <;> simp [h]
theorem seq_nx {s1 s2 : DS} {env env1 : Qd.Env} {L L1 : List Int} (h : s1 env L = .nx env1 L1) : dSeq s1 s2 env L = s2 env1 L1 := by rw [dSeq_ev, h]
theorem t_cut1 {R : List (List A)} {m : Nat} (h : Rect R m) {k j : Sk} (hk : k.arg = true) (hj : j.arg = true) (w lo hi ch lt : Int) {d s : Nat} (hd : d < R.length) (hs : s < m) (r : List A) (hr : r.length ≤ 1000) (x7 x10 x11 : Option D) (L : List Int) :
    ∃ (a b : A), turn (.nm 10) l_p_law_bt_cut_1 (.int (s : Nat)) [some .tok, some (mat k j R), some (.int w), some (.int lo), some (.int hi), some (.int ch), some (.int lt), x7, some (.int (d : Nat)), some (.lst .ow (r.map aD)), x10, x11] L =
      .nx [some .tok, some (mat k j R), some (.int w), some (.int lo), some (.int hi), some (.int ch), some (.int lt), x7, some (.int (d : Nat)), some (.lst .ow ((r ++ [a]).map aD)), some (.int (s : Nat)), some (aD b)] L := by
  have a1 := at_ro (L := L) (k := k) (j := j) hd
  have hd' := h.at hd
  have a2 := at_ce (L := L) (k := j) (r := ro R d) (i := s) (by omega)
  have o : okLen (r.length + 1) = true := okLen_le (by omega)
  have e0 : turn (.nm 10) l_p_law_bt_cut_1 (.int (s : Nat)) [some .tok, some (mat k j R), some (.int w), some (.int lo), some (.int hi), some (.int ch), some (.int lt), x7, some (.int (d : Nat)), some (.lst .ow (r.map aD)), x10, x11] L =
      l_p_law_bt_cut_1 [some .tok, some (mat k j R), some (.int w), some (.int lo), some (.int hi), some (.int ch), some (.int lt), x7, some (.int (d : Nat)), some (.lst .ow (r.map aD)), some (.int (s : Nat)), x11] L := by simp [turn]
  rw [e0]
  unfold l_p_law_bt_cut_1
  rw [seq_nx (L1 := L) (env1 := [some .tok, some (mat k j R), some (.int w), some (.int lo), some (.int hi), some (.int ch), some (.int lt), x7, some (.int (d : Nat)), some (.lst .ow (r.map aD)), some (.int (s : Nat)), some (aD (ce (ro R d) s))]) (by simp [hk, hj, a1, a2])]
  rw [seq_nx (st_cut (by simp; rfl))]
  rw [seq_nx (st_cut (by simp; rfl))]
  rw [seq_nx (st_cut (by simp; rfl))]
  have fin : ∀ b : A, dAppend 9 (dVar 11) [some .tok, some (mat k j R), some (.int w), some (.int lo), some (.int hi), some (.int ch), some (.int lt), x7, some (.int (d : Nat)), some (.lst .ow (r.map aD)), some (.int (s : Nat)), some (aD b)] L =
      .nx [some .tok, some (mat k j R), some (.int w), some (.int lo), some (.int hi), some (.int ch), some (.int lt), x7, some (.int (d : Nat)), some (.lst .ow ((r ++ [b]).map aD)), some (.int (s : Nat)), some (aD b)] L := fun b => by simp [o]
  exact ⟨_, _, fin _⟩
theorem t_cut2 {R : List (List A)} {m : Nat} (h : Rect R m) {k j : Sk} (hk : k.arg = true) (hj : j.arg = true) (w lo hi ch lt : Int) {d : Nat} (hd : d < R.length) (acc : List (List A)) (ha : acc.length ≤ 1000) (x8 x9 x10 x11 : Option D) (L : List Int) :
    ∃ (r : List A) (y10 y11 : Option D), r.length = m ∧ turn (.nm 8) l_p_law_bt_cut_2 (.int (d : Nat)) [some .tok, some (mat k j R), some (.int w), some (.int lo), some (.int hi), some (.int ch), some (.int lt), some (.lst .ow (acc.map rw)), x8, x9, x10, x11] L =
      .nx [some .tok, some (mat k j R), some (.int w), some (.int lo), some (.int hi), some (.int ch), some (.int lt), some (.lst .ow ((acc ++ [r]).map rw)), some (.int (d : Nat)), none, y10, y11] L := by
  obtain ⟨e, L', q1, r, y10, y11, hr, e1, e2⟩ := loop_to (p := .nm 10) (body := l_p_law_bt_cut_1) (lo := 0) (n := m) (env := [some .tok, some (mat k j R), some (.int w), some (.int lo), some (.int hi), some (.int ch), some (.int lt), some (.lst .ow (acc.map rw)), some (.int (d : Nat)), some (.lst .ow []), x10, x11]) (L := L)
    (fun i env L' => ∃ (r : List A) (y10 y11 : Option D), r.length = i ∧ env = [some .tok, some (mat k j R), some (.int w), some (.int lo), some (.int hi), some (.int ch), some (.int lt), some (.lst .ow (acc.map rw)), some (.int (d : Nat)), some (.lst .ow (r.map aD)), y10, y11] ∧ L' = L) (by
      rintro i hi' env L' ⟨r, y10, y11, hr, rfl, rfl⟩
      obtain ⟨a, b, e⟩ := t_cut1 h hk hj w lo hi ch lt hd hi' r (by have := h.m1; omega) (some (.lst .ow (acc.map rw))) y10 y11 L'
      rw [Int.zero_add, e]
      exact ⟨r ++ [a], _, _, by simp [hr], rfl, rfl⟩) ⟨[], x10, x11, rfl, rfl, rfl⟩
  subst e1 e2
  have b : smallI (m : Int) = true := small_le h.m1
  have o : okLen (acc.length + 1) = true := okLen_le (by omega)
  have a0 := at_ro0 (L := L') (k := k) (j := j) h.n0
  have h0 := h.at h.n0
  refine ⟨r, y10, y11, hr, ?_⟩
  rw [← rw_app]
  simp [turn, l_p_law_bt_cut_2, hk, hj, a0, h0, b, q1, o]
theorem v_cut {R : List (List A)} {m : Nat} (h : Rect R m) {k j : Sk} (hk : k.arg = true) (hj : j.arg = true) (L : List Int) : ∃ (R' : List (List A)) (L' : List Int), R'.length = R.length ∧ (∀ r ∈ R', r.length = m) ∧ d_p_law_bt_cut [.tok, mat k j R] L = .ok (.lst .ow (R'.map rw)) L' := by
  have n0 := h.n0
  have m0 := h.m0
  obtain ⟨w, L1, e1, _, _⟩ := v_next 6 (by omega) L
  obtain ⟨lo, L2, e2, _, _⟩ := v_next 4 (by omega) L1
  obtain ⟨hi, L3, e3, _, _⟩ := v_next 4 (by omega) L2
  obtain ⟨ch, L4, e4, _, _⟩ := v_next (m : Int) (by omega) L3
  obtain ⟨lt, L5, e5, _, _⟩ := v_next (R.length : Int) (by omega) L4
  obtain ⟨e, L', q1, R', y8, y9, y10, y11, hR, hr, e6, e7⟩ := loop_to (p := .nm 8) (body := l_p_law_bt_cut_2) (lo := 0) (n := R.length) (env := [some .tok, some (mat k j R), some (.int w), some (.int (0 - lo)), some (.int hi), some (.int ch), some (.int lt), some (.lst .ow []), none, none, none, none]) (L := L5)
    (fun i env L' => ∃ (R' : List (List A)) (y8 y9 y10 y11 : Option D), R'.length = i ∧ (∀ r ∈ R', r.length = m) ∧ env = [some .tok, some (mat k j R), some (.int w), some (.int (0 - lo)), some (.int hi), some (.int ch), some (.int lt), some (.lst .ow (R'.map rw)), y8, y9, y10, y11] ∧ L' = L5) (by
      rintro i hi' env L' ⟨R', y8, y9, y10, y11, hR, hr, rfl, rfl⟩
      obtain ⟨r, z10, z11, hr', e⟩ := t_cut2 h hk hj w (0 - lo) hi ch lt hi' R' (by have := h.n1; omega) y8 y9 y10 y11 L'
      rw [Int.zero_add, e]
      refine ⟨R' ++ [r], _, _, _, _, by simp [hR], fun q hq => ?_, rfl, rfl⟩
      rcases List.mem_append.mp hq with hq | hq
      · exact hr q hq
      · rw [List.mem_singleton.mp hq]; exact hr') ⟨[], none, none, none, none, rfl, (fun _ m => nomatch m), rfl, rfl⟩
  subst e6 e7
  have b : smallI (R.length : Int) = true := small_le h.n1
  have a3 := at_ro0 (L := L3) (k := k) (j := j) h.n0
  have h0 := h.at h.n0
  rw [Int.zero_sub] at q1
  exact ⟨R', L', hR, hr, body_ret (env := [some .tok, some (mat k j R), none, none, none, none, none, none, none, none, none, none]) (by simp [b_p_law_bt_cut, hk, hj, e1, e2, e3, e4, e5, a3, h0, b, q1]) (by simp [okfs_sto_rw])⟩
end Pk

set_option Elab.async false
set_option linter.all false
set_option maxRecDepth 100000
set_option maxHeartbeats 4000000
namespace Pk
open PySem PySem.Spec PyProof.Rows L2 Qd
theorem ix_ints' {f : Fl} {l : List Int} {i : Nat} {v : Int} {L : List Int} (h : l[i]? = some v) : ixD (.lst f (l.map D.int)) (.int (i : Nat)) L = .ok (.int v) L := by
  have e : (l.map D.int)[i]? = some (.int v) := by simp [h]
  exact ix_sq (k := .l f) e
theorem get_of {l : List Int} {i : Nat} (h : i < l.length) : ∃ v, l[i]? = some v := ⟨l[i], by simp [h]⟩
theorem ixN_nat {n s : Nat} (h : s < n) : ixN n (s : Int) = some s := by
  unfold ixN
  simp [h]
theorem setIx_ints {i : Nat} {a e : DE} {env : Qd.Env} {L : List Int} {l : List Int} {s : Nat} {v : Int} (he : env[i]? = some (some (.lst .ow (l.map D.int)))) (ee : e env L = .ok (.int v) L) (ea : a env L = .ok (.int s) L) (hs : s < l.length) :
    dSetIx i a e env L = .nx (env.set i (some (.lst .ow ((l.set s v).map D.int)))) L := by
  unfold dSetIx
  rw [he]
  simp [ee, ea, ixN_nat hs, List.map_set]
/-- the bounds of what was summed -/
structure Ab (ab : List Int) (m s : Nat) (B : Int) : Prop where
  len : ab.length = m
  lo : ∀ (i : Nat) (v : Int), ab[i]? = some v → 0 ≤ v
  hi : ∀ (i : Nat) (v : Int), ab[i]? = some v → v ≤ B + 2000
  un : ∀ (i : Nat) (v : Int), s ≤ i → ab[i]? = some v → v ≤ B
theorem t_sums1 (sc own : Int) (ho : 0 ≤ own ∧ own < 9) (cs : List Int) (m : Nat) (hm : m ≤ 1000) (hcs : cs.length = m) (hc : ∀ v ∈ cs, 0 ≤ v ∧ v < 8) (ab : List Int) (B : Int) (hB : B ≤ 4000000) (s : Nat) (hs : s < m) (hab : Ab ab m s B) (dr : Int) (hd : 0 ≤ dr ∧ dr ≤ 2 * s)
    (r : List A) (hr : r.length ≤ 1000) (x1 x2 x4 x7 x11 : Option D) (L : List Int) :
    ∃ (ab' : List Int) (dr' : Int) (a : A) (L' : List Int), Ab ab' m (s + 1) B ∧ (0 ≤ dr' ∧ dr' ≤ 2 * (s + 1 : Nat)) ∧
      turn (.nm 11) l_p_law_bt_sums_1 (.int (s : Nat)) [some .tok, x1, x2, some (.int sc), x4, some (.lst .ow (ab.map D.int)), some (.lst .ow (cs.map D.int)), x7, some (.int own), some (.int dr), some (.lst .ow (r.map aD)), x11] L =
        .nx [some .tok, x1, x2, some (.int sc), x4, some (.lst .ow (ab'.map D.int)), some (.lst .ow (cs.map D.int)), x7, some (.int own), some (.int dr'), some (.lst .ow ((r ++ [a]).map aD)), some (.int (s : Nat))] L' := by
  obtain ⟨w, L1, e1, w0, w1⟩ := v_next 3 (by omega) L
  have hl := hab.len
  obtain ⟨v, hv⟩ := get_of (l := ab) (i := s) (by omega)
  obtain ⟨c, hcv⟩ := get_of (l := cs) (i := s) (by omega)
  have hc' := hc c (mem_at hcv)
  have v0 := hab.lo s v hv
  have v1 := hab.un s v (Nat.le_refl _) hv
  have o : okLen (r.length + 1) = true := okLen_le (by omega)
  have hset : (ab.set s (v + (dr + w)))[s]? = some (v + (dr + w)) := by rw [List.getElem?_set_self (by omega)]
  have i1 := ix_ints' (f := .lo) (L := L1) hv
  have i2 := ix_ints' (f := .lo) (L := L1) hcv
  have i3 := ix_ints' (f := .lo) (L := L1) hset
  have mk : mulOk (own + c - (v + (dr + w))) sc = true := mul_l (by omega) (by omega)
  refine ⟨ab.set s (v + (dr + w)), dr + w, some ((own + c - (v + (dr + w))) * sc), L1, ⟨by rw [List.length_set]; exact hl, fun i z hz => ?_, fun i z hz => ?_, fun i z hi hz => ?_⟩, by omega, ?_⟩
  · by_cases q : s = i
    · subst q; rw [hset] at hz; cases hz; omega
    · rw [List.getElem?_set_ne q] at hz; exact hab.lo i z hz
  · by_cases q : s = i
    · subst q; rw [hset] at hz; cases hz; omega
    · rw [List.getElem?_set_ne q] at hz; exact hab.hi i z hz
  · rw [List.getElem?_set_ne (by omega)] at hz
    exact hab.un i z (by omega) hz
  · have e0 : turn (.nm 11) l_p_law_bt_sums_1 (.int (s : Nat)) [some .tok, x1, x2, some (.int sc), x4, some (.lst .ow (ab.map D.int)), some (.lst .ow (cs.map D.int)), x7, some (.int own), some (.int dr), some (.lst .ow (r.map aD)), x11] L =
      l_p_law_bt_sums_1 [some .tok, x1, x2, some (.int sc), x4, some (.lst .ow (ab.map D.int)), some (.lst .ow (cs.map D.int)), x7, some (.int own), some (.int dr), some (.lst .ow (r.map aD)), some (.int (s : Nat))] L := by simp [turn]
    rw [e0]
    unfold l_p_law_bt_sums_1
    rw [seq_nx (L1 := L1) (env1 := [some .tok, x1, x2, some (.int sc), x4, some (.lst .ow (ab.map D.int)), some (.lst .ow (cs.map D.int)), x7, some (.int own), some (.int (dr + w)), some (.lst .ow (r.map aD)), some (.int (s : Nat))]) (by simp [e1])]
    rw [seq_nx (setIx_ints (i := 5) (s := s) (v := v + (dr + w)) (l := ab) rfl (by simp [i1]) (by simp) (by omega))]
    simp only [List.set_cons_succ, List.set_cons_zero]
    generalize ab.set s (v + (dr + w)) = ab2 at i3 ⊢
    simp [i2, i3, mk, o]
theorem t_sums2 (sc : Int) (m : Nat) (hm : m ≤ 1000) (cs : List Int) (hcs : cs.length = m) (hc : ∀ v ∈ cs, 0 ≤ v ∧ v < 8) (d : Nat) (hd : d ≤ 1000) (acc : List (List A)) (ha : acc.length ≤ 1000) (ab : List Int) (hab : Ab ab m 0 (2000 * d)) (x1 x7 x8 x9 x10 x11 : Option D) (L : List Int) (dd : Int) :
    ∃ (ab' : List Int) (r : List A) (y8 y9 y11 : Option D) (L' : List Int), Ab ab' m 0 (2000 * (d + 1 : Nat)) ∧ r.length = m ∧ turn (.nm 7) l_p_law_bt_sums_2 (.int dd) [some .tok, x1, some (.int m), some (.int sc), some (.lst .ow (acc.map rw)), some (.lst .ow (ab.map D.int)), some (.lst .ow (cs.map D.int)), x7, x8, x9, x10, x11] L =
      .nx [some .tok, x1, some (.int m), some (.int sc), some (.lst .ow ((acc ++ [r]).map rw)), some (.lst .ow (ab'.map D.int)), some (.lst .ow (cs.map D.int)), some (.int dd), y8, y9, none, y11] L' := by
  obtain ⟨own, L1, e1, w0, w1⟩ := v_next 9 (by omega) L
  obtain ⟨e, L', q1, ab', dr, r, y11, h1, h2, h3, e2⟩ := loop_to (p := .nm 11) (body := l_p_law_bt_sums_1) (lo := 0) (n := m) (env := [some .tok, x1, some (.int m), some (.int sc), some (.lst .ow (acc.map rw)), some (.lst .ow (ab.map D.int)), some (.lst .ow (cs.map D.int)), some (.int dd), some (.int own), some (.int 0), some (.lst .ow []), x11]) (L := L1)
    (fun k env _ => ∃ (ab' : List Int) (dr : Int) (r : List A) (y11 : Option D), Ab ab' m k (2000 * d) ∧ (0 ≤ dr ∧ dr ≤ 2 * (k : Nat)) ∧ r.length = k ∧ env = [some .tok, x1, some (.int m), some (.int sc), some (.lst .ow (acc.map rw)), some (.lst .ow (ab'.map D.int)), some (.lst .ow (cs.map D.int)), some (.int dd), some (.int own), some (.int dr), some (.lst .ow (r.map aD)), y11]) (by
      rintro k hk env L' ⟨ab', dr, r, y11, h1, h2, h3, rfl⟩
      refine Nx_intro ?_
      obtain ⟨ab2, dr2, a, L2, g1, g2, e⟩ := t_sums1 sc own ⟨w0, w1⟩ cs m hm hcs hc ab' (2000 * d) (by omega) k hk h1 dr h2 r (by omega) x1 (some (.int m)) (some (.lst .ow (acc.map rw))) (some (.int dd)) y11 L'
      rw [Int.zero_add]
      exact ⟨_, _, e, ab2, dr2, r ++ [a], _, g1, g2, by simp [h3], rfl⟩) ⟨ab, 0, [], x11, hab, ⟨by omega, by omega⟩, rfl, rfl⟩
  subst e2
  have b : smallI (m : Int) = true := small_le hm
  have o : okLen (acc.length + 1) = true := okLen_le (by omega)
  refine ⟨ab', r, some (.int own), some (.int dr), y11, L', ⟨h1.len, h1.lo, fun i v hv => ?_, fun i v _ hv => ?_⟩, h3, ?_⟩
  · have := h1.hi i v hv; omega
  · have := h1.hi i v hv; omega
  · rw [← rw_app]
    simp [turn, l_p_law_bt_sums_2, e1, b, q1, o]
theorem v_sums (sc : Int) (n m : Nat) (hn : n ≤ 1000) (hm : m ≤ 1000) (L : List Int) : ∃ (R : List (List A)) (L' : List Int), R.length = n ∧ (∀ r ∈ R, r.length = m) ∧ d_p_law_bt_sums [.tok, .int n, .int m, .int sc] L = .ok (.lst .ow (R.map rw)) L' := by
  have b : smallI (n : Int) = true := small_le hn
  have b2 : smallI (m : Int) = true := small_le hm
  have o : okLen (m + 1) = true := okLen_le (by omega)
  have er : rngD 0 m = (List.range m).map fun k : Nat => D.int (0 + k) := rfl
  have c1 := lc_on (own := [11]) (p := .nm 11) (de := c_p_law_bt_sums_1) (env := [some .tok, some (.int n), some (.int m), some (.int sc), some (.lst .ow []), none, none, none, none, none, none, none]) (h := fun k : Nat => D.int (0 + k)) (ys := List.range m) (L := L) (fun _ => .int 0) (by
    intro y _
    simp [lcTurn, wipeE, c_p_law_bt_sums_1])
  rw [← er] at c1
  obtain ⟨z0, hz0⟩ : ∃ z0 : List Int, z0 = List.replicate m 0 := ⟨_, rfl⟩
  have z1 : (List.range m).map (fun _ : Nat => D.int 0) = z0.map D.int := by rw [hz0, List.map_replicate, List.map_const', List.length_range]
  rw [z1] at c1
  obtain ⟨zs, L1, c2, hz1, hz2⟩ := lc_draw (own := [11]) (p := .nm 11) (de := c_p_law_bt_sums_2) (env := [some .tok, some (.int n), some (.int m), some (.int sc), some (.lst .ow []), some (.lst .ow (z0.map D.int)), none, none, none, none, none, none]) (h := fun k : Nat => D.int (0 + k)) (ys := List.range m) (L := L)
    (fun z => ∃ v : Int, z = .int v ∧ 0 ≤ v ∧ v < 8) (by
      intro y _ L
      obtain ⟨w, L1, e1, w0, w1⟩ := v_next 8 (by omega) L
      exact ⟨.int w, L1, by simp [lcTurn, wipeE, c_p_law_bt_sums_2, e1], by simp, w, rfl, w0, w1⟩)
  rw [← er] at c2
  obtain ⟨cs, rfl, hc⟩ : ∃ cs : List Int, zs = cs.map D.int ∧ ∀ v ∈ cs, 0 ≤ v ∧ v < 8 := by
    clear c2 hz1
    induction zs with
    | nil => exact ⟨[], rfl, fun _ m => nomatch m⟩
    | cons z zs ih =>
      obtain ⟨v, rfl, v0, v1⟩ := hz2 z (List.mem_cons_self ..)
      obtain ⟨cs, rfl, hc⟩ := ih fun z m => hz2 z (List.mem_cons_of_mem _ m)
      exact ⟨v :: cs, rfl, fun u hu => by
        rcases List.mem_cons.mp hu with rfl | hu
        · exact ⟨v0, v1⟩
        · exact hc u hu⟩
  have hcs : cs.length = m := by simpa using hz1
  have hz1' : ∀ (i : Nat) (v : Int), z0[i]? = some v → v = 0 := fun i v hv => by
    rw [hz0] at hv
    exact List.eq_of_mem_replicate (mem_at hv)
  have hz : Ab z0 m 0 (2000 * (0 : Nat)) := ⟨by simp [hz0], fun i v hv => by rw [hz1' i v hv]; omega, fun i v hv => by rw [hz1' i v hv]; omega, fun i v _ hv => by rw [hz1' i v hv]; omega⟩
  obtain ⟨e, L', q1, R, ab, y7, y8, y9, y10, y11, hR, hr, hab, e1⟩ := loop_to (p := .nm 7) (body := l_p_law_bt_sums_2) (lo := 0) (n := n) (env := [some .tok, some (.int n), some (.int m), some (.int sc), some (.lst .ow []), some (.lst .ow (z0.map D.int)), some (.lst .ow (cs.map D.int)), none, none, none, none, none]) (L := L1)
    (fun k env _ => ∃ (R : List (List A)) (ab : List Int) (y7 y8 y9 y10 y11 : Option D), R.length = k ∧ (∀ r ∈ R, r.length = m) ∧ Ab ab m 0 (2000 * (k : Nat)) ∧ env = [some .tok, some (.int n), some (.int m), some (.int sc), some (.lst .ow (R.map rw)), some (.lst .ow (ab.map D.int)), some (.lst .ow (cs.map D.int)), y7, y8, y9, y10, y11]) (by
      rintro k hk env L' ⟨R, ab, y7, y8, y9, y10, y11, hR, hr, hab, rfl⟩
      refine Nx_intro ?_
      obtain ⟨ab', r, z8, z9, z11, L2, h1, h2, e⟩ := t_sums2 sc m hm cs hcs hc k (by omega) R (by omega) ab hab (some (.int n)) y7 y8 y9 y10 y11 L' (0 + (k : Nat))
      refine ⟨_, _, e, R ++ [r], ab', _, _, _, _, _, by simp [hR], fun q hq => ?_, h1, rfl⟩
      rcases List.mem_append.mp hq with hq | hq
      · exact hr q hq
      · rw [List.mem_singleton.mp hq]; exact h2) ⟨[], z0, none, none, none, none, none, rfl, (fun _ m => nomatch m), hz, rfl⟩
  subst e1
  refine ⟨R, L', hR, hr, body_ret (env := [some .tok, some (.int n), some (.int m), some (.int sc), none, none, none, none, none, none, none, none]) ?_ (by simp [okfs_sto_rw])⟩
  have o2 : okLen ((rngD 0 m).length + 1) = true := by rw [rngD_len]; exact o
  unfold b_p_law_bt_sums
  rw [seq_nx (L1 := L) (env1 := [some .tok, some (.int n), some (.int m), some (.int sc), some (.lst .ow []), none, none, none, none, none, none, none]) (by simp)]
  rw [seq_nx (L1 := L) (env1 := [some .tok, some (.int n), some (.int m), some (.int sc), some (.lst .ow []), some (.lst .ow (z0.map D.int)), none, none, none, none, none, none]) (by
    simp only [dSetO_ev, dLc_ev, dRng1_ev, dCons_ev, dVar_ev, dNil_ev, List.getElem?_cons_succ, List.getElem?_cons_zero, lk_int, Res.bindF_ok, fz_int, Res.bind_ok, b2, if_true, Int.toNat_natCast, o2, slots_nm, c1, Res.then_ok]
    simp)]
  rw [seq_nx (L1 := L1) (env1 := [some .tok, some (.int n), some (.int m), some (.int sc), some (.lst .ow []), some (.lst .ow (z0.map D.int)), some (.lst .ow (cs.map D.int)), none, none, none, none, none]) (by
    simp only [dSetO_ev, dLc_ev, dRng1_ev, dCons_ev, dVar_ev, dNil_ev, List.getElem?_cons_succ, List.getElem?_cons_zero, lk_int, Res.bindF_ok, fz_int, Res.bind_ok, b2, if_true, Int.toNat_natCast, o2, slots_nm, c2, Res.then_ok]
    simp)]
  simp [b, q1]
end Pk

set_option Elab.async false
set_option linter.all false
set_option maxRecDepth 100000
set_option maxHeartbeats 4000000
namespace Pk
open PySem PySem.Spec PyProof.Rows L2 Qd
theorem lst_rw {R : List (List A)} : D.lst .ow (R.map rw) = mat (.l .ow) (.l .ow) R := rfl
theorem setIx2_mat {i : Nat} {a b e : DE} {env : Qd.Env} {L : List Int} {R : List (List A)} {d s : Nat} {v : A} (he : env[i]? = some (some (mat (.l .ow) (.l .ow) R))) (ee : e env L = .ok (aD v) L) (ea : a env L = .ok (.int d) L) (eb : b env L = .ok (.int s) L) (hd : d < R.length) (hs : s < (ro R d).length) :
    dSetIx2 i a b e env L = .nx (env.set i (some (mat (.l .ow) (.l .ow) (R.set d ((ro R d).set s v))))) L := by
  have er : R[d]? = some (ro R d) := by
    unfold ro
    rw [List.getD_eq_getElem?_getD, List.getElem?_eq_getElem hd]
    rfl
  have e2 : (R.map rw)[d]? = some (.lst .ow ((ro R d).map aD)) := by
    rw [List.getElem?_map, er]; rfl
  unfold dSetIx2
  rw [he]
  show (match D.lst .ow (R.map rw) with | .lst .ow rows => _ | _ => SRes.stuck) = _
  have i1 : ixN (R.map rw).length (d : Int) = some d := ixN_nat (by simpa using hd)
  have i2 : ixN ((ro R d).map aD).length (s : Int) = some s := ixN_nat (by simpa using hs)
  simp only [ee, ea, eb, Res.thenF_ok, fz_int, fz_aD, i1, e2, i2, okf_aD, okfs_aDs, Bool.and_self, if_true]
  show SRes.nx (env.set i (some (.lst .ow ((R.map rw).set d (.lst .ow (((ro R d).map aD).set s (aD v))))))) L = _
  have e3 : D.lst .ow (((ro R d).map aD).set s (aD v)) = rw ((ro R d).set s v) := by
    show _ = D.lst .ow (((ro R d).set s v).map aD)
    rw [List.map_set]
  rw [e3, ← List.map_set]
  rfl
theorem set_rect {R : List (List A)} {m : Nat} (h : Rect R m) {d s : Nat} {v : A} (hd : d < R.length) : Rect (R.set d ((ro R d).set s v)) m :=
  ⟨by rw [List.length_set]; exact h.n0, by rw [List.length_set]; exact h.n1, h.m0, h.m1, fun r hr => by
    rcases List.mem_or_eq_of_mem_set hr with q | q
    · exact h.len r q
    · rw [q, List.length_set]; exact h.at hd⟩
@[simp] theorem isNon_aD {a : A} : isNonD (aD a) = a.isNone := by cases a <;> rfl
@[simp] theorem bw_mat_ff {R : List (List A)} : bw (mat (.l .fz) (.l .fz) R) = mat (.l .fz) (.l .fz) R := bw_mat rfl rfl
@[simp] theorem lk_mat_ff {R : List (List A)} : lk (mat (.l .fz) (.l .fz) R) = mat (.l .fz) (.l .fz) R := lk_mat rfl rfl
@[simp] theorem fz_mat_ff {R : List (List A)} : fz (mat (.l .fz) (.l .fz) R) = mat (.l .fz) (.l .fz) R := fz_mat rfl rfl
@[simp] theorem nlo_mat_ff {R : List (List A)} : okf notLo (mat (.l .fz) (.l .fz) R) = true := nlo_mat rfl rfl
@[simp] theorem isFz_mat_ff {R : List (List A)} : okf isFz (mat (.l .fz) (.l .fz) R) = true := okf_mat rfl rfl
@[simp] theorem lk_row_f {r : List A} : lk (row (.l .fz) r) = row (.l .fz) r := lk_row rfl
@[simp] theorem fz_row_f {r : List A} : fz (row (.l .fz) r) = row (.l .fz) r := fz_row rfl
@[simp] theorem bw_row_f {r : List A} : bw (row (.l .fz) r) = row (.l .fz) r := bw_row rfl
@[simp] theorem seq_mat_ff {R : List (List A)} : seqOf (mat (.l .fz) (.l .fz) R) = some (R.map (row (.l .fz))) := seq_mat rfl rfl
def natD (p : Nat) : D := .int (p : Nat)
theorem rng_nat (n : Nat) : rngD 0 n = (List.range n).map natD := by
  unfold rngD
  refine List.map_congr_left fun k _ => ?_
  show D.int (0 + (k : Int)) = D.int k
  rw [Int.zero_add]
@[simp] theorem okf_natD {p : Fl → Bool} {i : Nat} : okf p (natD i) = true := rfl
@[simp] theorem okfs_natDs {p : Fl → Bool} : ∀ {l : List Nat}, okfs p (l.map natD) = true
  | [] => rfl
  | a :: r => by simp only [List.map_cons, okfs_cons, okf_natD, okfs_natDs]; rfl
@[simp] theorem fz_natD {i : Nat} : fz (natD i) = natD i := rfl
@[simp] theorem lk_natD {i : Nat} : lk (natD i) = natD i := rfl
@[simp] theorem bw_natD {i : Nat} : bw (natD i) = natD i := rfl
@[simp] theorem fzs_natDs {l : List Nat} : fzs (l.map natD) = l.map natD := map_fz fzs rfl (fun _ _ => fzs_cons) natD natD (fun _ => rfl) l
@[simp] theorem lks_natDs {l : List Nat} : lks (l.map natD) = l.map natD := map_fz lks rfl (fun _ _ => lks_cons) natD natD (fun _ => rfl) l
@[simp] theorem bws_natDs {l : List Nat} : bws (l.map natD) = l.map natD := map_fz bws rfl (fun _ _ => bws_cons) natD natD (fun _ => rfl) l
theorem row_range {r : List A} {m : Nat} (h : r.length = m) : r = (List.range m).map (ce r) := by
  subst h
  apply List.ext_getElem
  · simp
  · intro i h1 h2
    simp [ce, h1]
theorem mat_range {R : List (List A)} {n : Nat} (h : R.length = n) : R = (List.range n).map (ro R) := by
  subst h
  apply List.ext_getElem
  · simp
  · intro i h1 h2
    simp [ro, h1]
theorem zipWith_maps {α β γ δ : Type} (f : β → γ → δ) (g : α → β) (h : α → γ) : ∀ l : List α, List.zipWith f (l.map g) (l.map h) = l.map fun x => f (g x) (h x)
  | [] => rfl
  | a :: l => by simp [zipWith_maps f g h l]
def minL (l : List A) : A := l.foldl minA none
def gI (l : List Int) (i : Nat) : Int := l.getD i 0
theorem at_gI {f : Fl} {l : List Int} {i : Nat} {L : List Int} (h : i < l.length) : ixD (.lst f (l.map D.int)) (.int (i : Nat)) L = .ok (.int (gI l i)) L := ix_ints' (by simp [gI, h])
section
variable {L : List Int}
theorem v_least {k : Sk} (hk : k.arg = true) (l : List A) (L : List Int) : d_least_of [row k l] L = .ok (aD (minL l)) L := by
  obtain ⟨e, L', q1, x2, e1, e2⟩ := loop_on (p := .nm 2) (body := l_least_of_1) (h := aD) (ys := l) (L := L) (env := [some (row k l), some .non, none])
    (fun i env L' => ∃ x2, env = [some (row k l), some (aD (minL (l.take i))), x2] ∧ L' = L) (by
      rintro i a ea env L' ⟨x2, rfl, rfl⟩
      have et : minL (l.take (i + 1)) = minA (minL (l.take i)) a := by
        rw [List.take_add_one, ea]
        unfold minL
        rw [List.foldl_append]
        rfl
      rw [et]
      generalize minL (l.take i) = b
      exact Nx_intro ⟨[some (row k l), some (aD (minA b a)), some (aD a)], L', by simp [turn, l_least_of_1, v_lesser], some (aD a), rfl, rfl⟩) ⟨none, rfl, rfl⟩
  subst e1 e2
  rw [List.take_length] at q1
  generalize minL l = b at q1 ⊢
  exact body_ret (env := [some (row k l), none, none]) (by simp [b_least_of, hk, q1]) (by simp)
end
theorem zip_pn {R : List (List A)} {ns : List Int} (h : ns.length = R.length) : zipD (R.map (row .t)) (ns.map D.int) = (List.range R.length).map fun d => D.tup [row .t (ro R d), .int (gI ns d)] := by
  have e1 : R.map (row .t) = (List.range R.length).map fun d => row .t (ro R d) := by
    conv => lhs; rw [mat_range (R := R) rfl]
    rw [List.map_map]; rfl
  have e2 : ns.map D.int = (List.range R.length).map fun d => .int (gI ns d) := by
    apply List.ext_getElem
    · simp [h]
    · intro i h1 h2
      have h3 : i < ns.length := by simpa using h1
      simp [gI, h3]
  unfold zipD
  rw [e1, e2, zipWith_maps]
/-! least ones -/
def leA (x y : A) : Prop := ltA y x = false
theorem le_some {x : A} {b : Int} : leA x (some b) ↔ ∃ a, x = some a ∧ a ≤ b := by
  cases x <;> simp [leA, ltA]
theorem le_none {x : A} : leA x none := by cases x <;> rfl
theorem lt_refl (a : A) : ltA a a = false := by cases a <;> simp [ltA]
theorem lt_asymm {a b : A} (h : ltA a b = true) : ltA b a = false := by
  cases a <;> cases b <;> simp [ltA] at h ⊢
  omega
theorem foldl_min : ∀ (l : List A) (b : A), leA (l.foldl minA b) b ∧ (∀ x ∈ l, leA (l.foldl minA b) x) ∧ (l.foldl minA b = b ∨ l.foldl minA b ∈ l)
  | [], b => ⟨lt_refl b, (fun _ m => nomatch m), .inl rfl⟩
  | a :: l, b => by
    obtain ⟨h1, h2, h3⟩ := foldl_min l (minA b a)
    have k1 : leA (minA b a) b := by
      unfold minA
      split
      · exact lt_asymm (by assumption)
      · exact lt_refl b
    have k2 : leA (minA b a) a := by
      unfold minA
      split
      · exact lt_refl a
      · rename_i z
        show ltA a b = false
        simpa using z
    have tr : ∀ {x y z : A}, leA x y → leA y z → leA x z := by
      intro x y z hx hy
      cases x <;> cases y <;> cases z <;> simp [leA, ltA] at * <;> omega
    rw [List.foldl_cons]
    refine ⟨tr h1 k1, fun x hx => ?_, ?_⟩
    · rcases List.mem_cons.mp hx with rfl | hx
      · exact tr h1 k2
      · exact h2 x hx
    · rcases h3 with h3 | h3
      · rw [h3]
        unfold minA
        split
        · exact .inr (List.mem_cons_self ..)
        · exact .inl rfl
      · exact .inr (List.mem_cons_of_mem _ h3)
theorem minL_le {l : List A} {x : A} (h : x ∈ l) : leA (minL l) x := (foldl_min l none).2.1 x h
theorem minL_some {l : List A} {b : Int} (h : minL l = some b) : some b ∈ l := by
  rcases (foldl_min l none).2.2 with q | q
  · unfold minL at h; rw [q] at h; cases h
  · unfold minL at h; rw [h] at q; exact q
theorem plus_some {a b : A} {c : Int} (h : plusA a b = some c) : ∃ x y, a = some x ∧ b = some y ∧ x + y = c := by
  cases a <;> cases b <;> simp [plusA] at h
  exact ⟨_, _, rfl, rfl, h⟩
theorem any_nat {d : Nat} : ∀ {l : List Nat}, d ∉ l → ((l.map natD).any fun z => eqd z (.int d)) = false
  | [], _ => rfl
  | a :: l, h => by
    have h' := not_or.mp fun z => h (List.mem_cons.mpr z)
    have e : eqd (natD a) (.int d) = false := by
      simp [natD, eqd]
      omega
    rw [List.map_cons, List.any_cons, e, any_nat h'.2]; rfl
theorem pls_nat (n : Nat) : ∀ l : List Nat, plainNs n (l.map natD) = true
  | [] => rfl
  | a :: l => by simp [plainNs, natD, plainN]; exact pls_nat n l
@[simp] theorem sto_tabo {R : List (List A)} {m : Nat} : okf isSto (tab .ow R m) = true := by simp [tab]
/-- a comprehension that selects -/
theorem lc_filt {α : Type} {own : List Nat} {p : Pat} {dt : DT} {de : DE} {env : Qd.Env} {h : α → D} {L : List Int} (q : α → Bool) (g : α → D) : ∀ {ys : List α}, (∀ y ∈ ys, ∃ env1, bindP p (h y) (wipeE env own) = some env1 ∧ dt env1 L = .ok (q y) L ∧ (q y = true → de env1 L = .ok (g y) L ∧ okf isSto (g y) = true)) →
    dLcGo own p dt de env (ys.map h) L = .ok ((ys.filter q).map g) L
  | [], _ => rfl
  | y :: ys, st => by
    obtain ⟨env1, e1, e2, e3⟩ := st y (List.mem_cons_self ..)
    have ih := lc_filt (ys := ys) q g fun y m => st y (List.mem_cons_of_mem _ m)
    rw [List.map_cons]
    unfold dLcGo
    cases b : q y with
    | true =>
      rw [b] at e2
      obtain ⟨e4, e5⟩ := e3 b
      simp only [e1, e2, e4, e5, if_true, ih, Res.bind_ok, List.filter_cons, b, List.map_cons]
    | false =>
      rw [b] at e2
      simp only [e1, e2, ih, List.filter_cons, b]
      rfl
@[simp] theorem eqD_aD {a b : A} {L : List Int} : eqD (aD a) (aD b) L = .ok (.bl (a == b)) L := by
  cases a <;> cases b <;> simp [eqD, plainN, eqd]
@[simp] theorem inF_nat {neg : Bool} {d : Nat} {l : List Nat} {L : List Int} : inF neg (.int d) (l.map natD) L = .ok (.bl (if neg then !(l.contains d) else l.contains d)) L := by
  have e : ((l.map natD).any fun z => eqd z (.int d)) = l.contains d := by
    induction l with
    | nil => rfl
    | cons a l ih =>
      rw [List.map_cons, List.any_cons, ih, List.contains_cons]
      congr 1
      show ((a : Int) == (d : Int)) = (d == a)
      rw [Bool.eq_iff_iff]
      simp
      omega
  unfold inF
  rw [pls_nat, e]
  rfl
@[simp] theorem inFD_natT {neg : Bool} {d : Nat} {l : List Nat} {L : List Int} : inFD neg (.int d) (.tup (l.map natD)) L = .ok (.bl (if neg then !(l.contains d) else l.contains d)) L := inF_nat
@[simp] theorem inFD_natL {neg : Bool} {d : Nat} {f : Fl} {l : List Nat} {L : List Int} : inFD neg (.int d) (.lst f (l.map natD)) L = .ok (.bl (if neg then !(l.contains d) else l.contains d)) L := inF_nat
end Pk

set_option Elab.async false
set_option linter.all false
set_option maxRecDepth 100000
set_option maxHeartbeats 4000000
namespace Pk
open PySem PySem.Spec PyProof.Rows L2 Qd
variable {L : List Int}
/-! ### the best deeds at a state -/
def prc (R : List (List A)) (ns : List Int) (s d : Nat) : A := plusA (ce (ro R d) s) (some (gI ns d))
def prs (R : List (List A)) (ns : List Int) (s : Nat) : List A := (List.range R.length).map (prc R ns s)
def bests (R : List (List A)) (ns : List Int) (s : Nat) : List Nat := match minL (prs R ns s) with
  | none => []
  | some v => (List.range R.length).filter fun d => prc R ns s d == some v
theorem minL_succ {l : List A} {i : Nat} {a : A} (h : l[i]? = some a) : minL (l.take (i + 1)) = minA (minL (l.take i)) a := by
  rw [List.take_add_one, h]
  unfold minL
  rw [List.foldl_append]
  rfl
theorem range_at {n i d : Nat} (h : (List.range n)[i]? = some d) : d = i ∧ i < n := by
  obtain ⟨h1, h2⟩ := List.getElem?_eq_some_iff.mp h
  simp at h1 h2
  exact ⟨h2.symm, h1⟩
theorem prs_at {R : List (List A)} {ns : List Int} {s i : Nat} (h : i < R.length) : (prs R ns s)[i]? = some (prc R ns s i) := by simp [prs, h]
section
variable {R : List (List A)} {m : Nat} {k j : Sk}
theorem v_lbests (h : Rect R m) (hk : k.arg = true) (hj : j.arg = true) {f : Fl} {ns : List Int} (hn : ns.length = R.length) (hf : isArg f = true) {s : Nat} (hs : s < m) (L : List Int) :
    d_p_law_ub_bests [mat k j R, .lst f (ns.map D.int), .int s] L = .ok (.lst .ow ((bests R ns s).map natD)) L := by
  have n1 := h.n1
  have b2 : smallI (R.length : Int) = true := small_le h.n1
  have z : lk (.lst f (ns.map D.int)) = .lst f (ns.map D.int) := lk_arg (by simp [hf])
  have z2 : fz (.lst f (ns.map D.int)) = .lst f (ns.map D.int) := fz_arg' (by simp [hf])
  obtain ⟨e, L', q1, y, e1, e2⟩ := loop_on (p := .nm 4) (body := l_p_law_ub_bests_1) (h := natD) (ys := List.range R.length) (L := L) (env := [some (mat k j R), some (.lst f (ns.map D.int)), some (.int s), some .non, none])
    (fun i env L' => ∃ y, env = [some (mat k j R), some (.lst f (ns.map D.int)), some (.int s), some (aD (minL ((prs R ns s).take i))), y] ∧ L' = L) (by
      rintro i d hd env L' ⟨y, rfl, rfl⟩
      obtain ⟨rfl, hi⟩ := range_at hd
      rw [minL_succ (prs_at hi)]
      generalize minL ((prs R ns s).take d) = b
      have a1 := at_ro (L := L') (k := k) (j := j) hi
      have a3 := at_ce (L := L') (k := j) (r := ro R d) (i := s) (by rw [h.at hi]; exact hs)
      have a4 := at_gI (f := f) (L := L') (l := ns) (i := d) (by omega)
      have v := v_lplus (L := L') (ce (ro R d) s) (some (gI ns d))
      rw [aD_some] at v
      refine Nx_intro ⟨[some (mat k j R), some (.lst f (ns.map D.int)), some (.int s), some (aD (minA b (prc R ns s d))), some (natD d)], L', ?_, some (natD d), rfl, rfl⟩
      simp [turn, l_p_law_ub_bests_1, natD, hk, hj, z, z2, a1, a3, a4, v, v_llesser, prc]) ⟨none, rfl, rfl⟩
  subst e1 e2
  have tk : ((prs R ns s).take (List.range R.length).length) = prs R ns s := by
    rw [List.length_range]
    exact List.take_of_length_le (by simp [prs])
  rw [tk] at q1
  rw [← rng_nat] at q1
  cases hm : minL (prs R ns s) with
  | none =>
    rw [hm] at q1
    have eb : bests R ns s = [] := by unfold bests; rw [hm]
    rw [eb]
    exact body_ret (env := [some (mat k j R), some (.lst f (ns.map D.int)), some (.int s), none, none]) (by simp [b_p_law_ub_bests, hk, hj, q1, b2]) (by simp)
  | some v =>
    rw [hm] at q1
    have eb : bests R ns s = (List.range R.length).filter fun d => prc R ns s d == some v := by unfold bests; rw [hm]
    rw [eb]
    have c := lc_filt (own := [4]) (p := .nm 4) (dt := t_p_law_ub_bests_1) (de := c_p_law_ub_bests_1) (env := [some (mat k j R), some (.lst f (ns.map D.int)), some (.int s), some (.int v), y]) (h := natD) (L := L') (fun d => prc R ns s d == some v) natD (ys := List.range R.length) (by
      intro d hd
      have hi : d < R.length := by simpa using hd
      have a1 := at_ro (L := L') (k := k) (j := j) hi
      have a3 := at_ce (L := L') (k := j) (r := ro R d) (i := s) (by rw [h.at hi]; exact hs)
      have a4 := at_gI (f := f) (L := L') (l := ns) (i := d) (by omega)
      have w := v_lplus (L := L') (ce (ro R d) s) (some (gI ns d))
      rw [aD_some] at w
      refine ⟨[some (mat k j R), some (.lst f (ns.map D.int)), some (.int s), some (.int v), some (natD d)], by simp [wipeE], ?_, fun _ => ⟨by simp [c_p_law_ub_bests_1], by simp⟩⟩
      have q := eqD_aD (a := prc R ns s d) (b := some v) (L := L')
      rw [aD_some] at q
      simp [t_p_law_ub_bests_1, natD, hk, hj, hf, z, z2, a1, a3, a4, w]
      exact by rw [show plusA (ce (ro R d) s) (some (gI ns d)) = prc R ns s d from rfl, q]; rfl)
    rw [← rng_nat] at c
    have o : okLen ((rngD 0 R.length).length + 1) = true := by rw [rngD_len]; exact okLen_le (by omega)
    exact body_ret (env := [some (mat k j R), some (.lst f (ns.map D.int)), some (.int s), none, none]) (by simp [b_p_law_ub_bests, hk, hj, q1, b2, c, o]) (by simp)
end
end Pk

set_option Elab.async false
set_option linter.all false
set_option maxRecDepth 100000
set_option maxHeartbeats 4000000
namespace Pk
open PySem PySem.Spec PyProof.Rows L2 Qd
variable {L : List Int}
theorem findSome_if {α : Type} {c : α → Bool} {x : D} : ∀ l : List α, (l.findSome? fun b => if c b then some x else none) = if l.any c then some x else none
  | [] => rfl
  | a :: l => by
    rw [List.findSome?_cons, List.any_cons, findSome_if l]
    cases c a <;> simp
def cS (one oth : List Nat) (a b : Nat) : Bool := decide (b < a) && (!(one.contains b) || !(oth.contains a))
def shB (one oth : List Nat) : Bool := one.any fun a => oth.any (cS one oth a)
def shw (R : List (List A)) (m : Nat) (ns : List Int) (lo up : Int) : Bool := decide (ns.length = R.length ∧ 0 ≤ lo ∧ lo < up ∧ up < m) && shB (bests R ns lo.toNat) (bests R ns up.toNat)
section
variable {R : List (List A)} {m : Nat} {k j : Sk}
theorem t_ls1 (one oth : List Nat) (a b : Nat) (x0 x1 x2 x3 x7 : Option D) (L : List Int) :
    turn (.nm 7) l_p_law_ub_shows_1 (natD b) [x0, x1, x2, x3, some (.lst .fz (one.map natD)), some (.lst .fz (oth.map natD)), some (natD a), x7] L =
      if cS one oth a b then .ret (.bl true) L else .nx [x0, x1, x2, x3, some (.lst .fz (one.map natD)), some (.lst .fz (oth.map natD)), some (natD a), some (natD b)] L := by
  have w := fun l (d : Nat) L => inFD_natL (neg := true) (d := d) (f := .fz) (l := l) (L := L)
  simp only [turn, bindP_nm, okf_natD, if_true, List.set_cons_succ, List.set_cons_zero, l_p_law_ub_shows_1, dIfS_ev, dTAnd_ev, dTOr_ev, dTst_ev, dBin_ev, dVar_ev, List.getElem?_cons_succ, List.getElem?_cons_zero, lk_natD, fz_natD, Res.bindF_ok, lk_fz, lks_natDs, fz_fz, fzs_natDs]
  simp only [natD, gtD_ev, Res.bindF_ok, fz_bl, tstD_ev, Res.bind_ok]
  have w1 := w one b L
  have w2 := w oth a L
  simp only [natD] at w1 w2
  by_cases h : b < a
  · have h' : decide ((b : Int) < (a : Int)) = true := by simpa using h
    rw [h']
    have w1' : inFD true (.int b) (.lst .fz (List.map natD one)) L = _ := w one b L
    have w2' : inFD true (.int a) (.lst .fz (List.map natD oth)) L = _ := w oth a L
    simp only [natD] at w1' w2'
    unfold cS
    cases hb : one.contains b <;> cases ha : oth.contains a <;> simp_all
  · have h' : decide ((b : Int) < (a : Int)) = false := by simpa using h
    rw [h']
    simp [cS, h]
theorem l_ls (one oth : List Nat) (x0 x1 x2 x3 x6 x7 : Option D) (L : List Int) :
    Fd L (if one.any fun a => oth.any (cS one oth a) then some (.bl true) else none) (dLoop (.nm 6) l_p_law_ub_shows_2 (one.map natD) [x0, x1, x2, x3, some (.lst .fz (one.map natD)), some (.lst .fz (oth.map natD)), x6, x7] L)
      (fun env => ∃ x6 x7, env = [x0, x1, x2, x3, some (.lst .fz (one.map natD)), some (.lst .fz (oth.map natD)), x6, x7]) := by
  rw [← findSome_if]
  refine find_on (p := .nm 6) (body := l_p_law_ub_shows_2) (h := natD) (ys := one) (L := L) (fun a => if oth.any (cS one oth a) then some (.bl true) else none) (fun env => ∃ x6 x7, env = [x0, x1, x2, x3, some (.lst .fz (one.map natD)), some (.lst .fz (oth.map natD)), x6, x7]) (by
    rintro a _ env ⟨x6, x7, rfl⟩
    rw [← findSome_if]
    have e : turn (.nm 6) l_p_law_ub_shows_2 (natD a) [x0, x1, x2, x3, some (.lst .fz (one.map natD)), some (.lst .fz (oth.map natD)), x6, x7] L = dLoop (.nm 7) l_p_law_ub_shows_1 (oth.map natD) [x0, x1, x2, x3, some (.lst .fz (one.map natD)), some (.lst .fz (oth.map natD)), some (natD a), x7] L := by
      simp [turn, l_p_law_ub_shows_2, seqOf]
    rw [e]
    refine Fd_mono (find_on (p := .nm 7) (body := l_p_law_ub_shows_1) (h := natD) (ys := oth) (L := L) (fun b => if cS one oth a b then some (.bl true) else none) (fun env => ∃ x7, env = [x0, x1, x2, x3, some (.lst .fz (one.map natD)), some (.lst .fz (oth.map natD)), some (natD a), x7]) (by
      rintro b _ env ⟨x7, rfl⟩
      rw [t_ls1]
      cases cS one oth a b <;> simp) ⟨_, rfl⟩) ?_
    rintro e ⟨y, rfl⟩
    exact ⟨_, _, rfl⟩) ⟨_, _, rfl⟩
theorem v_lshows (h : Rect R m) (hk : k.arg = true) (hj : j.arg = true) {f : Fl} {ns : List Int} (hf : isArg f = true) (lo up : Int) (L : List Int) :
    d_p_law_ub_shows [mat k j R, .lst f (ns.map D.int), .int lo, .int up] L = .ok (.bl (shw R m ns lo up)) L := by
  have z : lk (.lst f (ns.map D.int)) = .lst f (ns.map D.int) := lk_arg (by simp [hf])
  have z2 : fz (.lst f (ns.map D.int)) = .lst f (ns.map D.int) := fz_arg' (by simp [hf])
  have z3 : bw (.lst f (ns.map D.int)) = .lst f (ns.map D.int) := bw_arg (by simp [hf])
  have a0 := at_ro0 (L := L) (k := k) (j := j) h.n0
  have h0 := h.at h.n0
  by_cases c : ns.length = R.length ∧ 0 ≤ lo ∧ lo < up ∧ up < m
  · obtain ⟨c1, c2, c3, c4⟩ := c
    obtain ⟨lo, rfl⟩ : ∃ i : Nat, lo = i := ⟨lo.toNat, by omega⟩
    obtain ⟨up, rfl⟩ : ∃ i : Nat, up = i := ⟨up.toNat, by omega⟩
    have v1 := v_lbests h hk hj (f := f) c1 hf (s := lo) (by omega) L
    have v2 := v_lbests h hk hj (f := f) c1 hf (s := up) (by omega) L
    have es : shw R m ns lo up = shB (bests R ns lo) (bests R ns up) := by
      unfold shw
      rw [decide_eq_true (show ns.length = R.length ∧ 0 ≤ (lo : Int) ∧ (lo : Int) < up ∧ (up : Int) < m from ⟨c1, c2, c3, c4⟩)]
      simp
    rw [es]
    generalize bests R ns lo = one at v1 ⊢
    generalize bests R ns up = oth at v2 ⊢
    have F := l_ls one oth (some (mat k j R)) (some (.lst f (ns.map D.int))) (some (.int lo)) (some (.int up)) none none L
    have g1 : ¬ ((lo : Int) < 0) := by omega
    have g2 : ¬ ((up : Int) ≤ (lo : Int)) := by omega
    have g3 : ¬ ((m : Int) ≤ (up : Int)) := by omega
    have g2' : ¬ (up ≤ lo) := by omega
    have g3' : ¬ (m ≤ up) := by omega
    have key : ∀ r, dLoop (.nm 6) l_p_law_ub_shows_2 (one.map natD) [some (mat k j R), some (.lst f (ns.map D.int)), some (.int lo), some (.int up), some (.lst .fz (one.map natD)), some (.lst .fz (oth.map natD)), none, none] L = r →
        b_p_law_ub_shows [some (mat k j R), some (.lst f (ns.map D.int)), some (.int lo), some (.int up), none, none, none, none] L = (match r with | .nx env1 L1 => .ret (.bl false) L1 | r => r) := by
      intro r hr
      have fd : ∀ l : List Nat, seqOf (.lst .fz (l.map natD)) = some (l.map natD) := fun l => by simp [seqOf]
      simp [b_p_law_ub_shows, hk, hj, z, z2, z3, a0, h0, c1, g1, g2, g3, g2', g3', v1, v2, fd, hr]
      all_goals (cases r <;> rfl)
    unfold shB
    rcases Fd_use F with ⟨y, e1, e2⟩ | ⟨e1, e, e2, i⟩
    · split at e1
      · rename_i hc
        rw [hc]
        obtain rfl : D.bl true = y := by simpa using e1
        exact body_ret (env := [some (mat k j R), some (.lst f (ns.map D.int)), some (.int lo), some (.int up), none, none, none, none]) (key _ e2) (by simp)
      · cases e1
    · split at e1
      · cases e1
      · rename_i hc
        have hc' : (one.any fun a => oth.any (cS one oth a)) = false := by simpa using hc
        rw [hc']
        rcases e2 with e2 | e2
        · exact body_ret (env := [some (mat k j R), some (.lst f (ns.map D.int)), some (.int lo), some (.int up), none, none, none, none]) (key _ e2) (by simp)
        · exact absurd e2 (dLoop_ncnt _ _ _ _ _ _ _)
  · have es : shw R m ns lo up = false := by
      unfold shw
      rw [decide_eq_false c]
      rfl
    rw [es]
    refine body_ret (env := [some (mat k j R), some (.lst f (ns.map D.int)), some (.int lo), some (.int up), none, none, none, none]) ?_ (by simp)
    by_cases c1 : ns.length = R.length
    · by_cases c2 : 0 ≤ lo
      · by_cases c3 : lo < up
        · have c4 : (m : Int) ≤ up := by
            by_cases c4 : up < m
            · exact absurd ⟨c1, c2, c3, c4⟩ c
            · omega
          have g1 : ¬ (lo < 0) := by omega
          have g2 : ¬ (up ≤ lo) := by omega
          simp [b_p_law_ub_shows, hk, hj, z, z2, z3, a0, h0, c1, g1, g2, c4]
        · have g1 : ¬ (lo < 0) := by omega
          have g2 : up ≤ lo := by omega
          simp [b_p_law_ub_shows, hk, hj, z, z2, z3, c1, g1, g2]
      · have g1 : lo < 0 := by omega
        simp [b_p_law_ub_shows, hk, hj, z, z2, z3, c1, g1]
    · have g0 : ¬ ((ns.length : Int) = (R.length : Int)) := by omega
      simp [b_p_law_ub_shows, hk, hj, z, z2, z3, c1, g0]
end
end Pk

set_option Elab.async false
set_option linter.all false
set_option maxRecDepth 100000
set_option maxHeartbeats 4000000
namespace Pk
open PySem PySem.Spec PyProof.Rows L2 Qd
variable {L : List Int}
/-! ### papers -/
def papN : List Str := ["numbers", "lower", "upper"]
def pap (f : Fl) (ns : List Int) (lo up : Int) : D := .obj f "Unbent" papN [.tup (ns.map D.int), .int lo, .int up]
theorem s_U1 : ("Unbent" : Str) ∈ (["Unbent", "Levels"] : List Str) := by decide +kernel
theorem s_U2 : ("Unbent" : Str) ∈ (["Unbent"] : List Str) := by decide +kernel
theorem s_nl : ¬ (("numbers" : Str) = "lower") := by decide +kernel
theorem s_ln : ¬ (("lower" : Str) = "numbers") := by decide +kernel
theorem s_nu : ¬ (("numbers" : Str) = "upper") := by decide +kernel
theorem s_un : ¬ (("upper" : Str) = "numbers") := by decide +kernel
theorem s_lu : ¬ (("lower" : Str) = "upper") := by decide +kernel
theorem s_ul : ¬ (("upper" : Str) = "lower") := by decide +kernel
section
variable {f : Fl} {ns : List Int} {lo up : Int}
@[simp] theorem fld_numbers : fldD ["Unbent", "Levels"] "numbers" (pap f ns lo up) L = .ok (.tup (ns.map D.int)) L := by simp [pap, papN, fldD, lkN, s_U1]
@[simp] theorem fld_lower : fldD ["Unbent"] "lower" (pap f ns lo up) L = .ok (.int lo) L := by simp [pap, papN, fldD, lkN, s_ln]
@[simp] theorem fld_upper : fldD ["Unbent"] "upper" (pap f ns lo up) L = .ok (.int up) L := by simp [pap, papN, fldD, lkN, s_un, s_ul]
@[simp] theorem lk_pap : lk (pap .fz ns lo up) = pap .fz ns lo up := by simp [pap]
@[simp] theorem fz_pap : fz (pap .fz ns lo up) = pap .fz ns lo up := by simp [pap]
@[simp] theorem fz_papo : fz (pap .ow ns lo up) = pap .fz ns lo up := by simp [pap]
@[simp] theorem bw_pap : bw (pap .fz ns lo up) = pap .fz ns lo up := by simp [pap]
@[simp] theorem okf_pap {p : Fl → Bool} (h : p .fz = true) : okf p (pap .fz ns lo up) = true := by simp [pap, h]
@[simp] theorem okf_papo {p : Fl → Bool} (h : p .ow = true) : okf p (pap .ow ns lo up) = true := by simp [pap, h]
theorem cls_U : (pkClasses.contains ("Unbent" : Str)) = true := by decide +kernel
theorem cls_T : (pkClasses.contains ("Table" : Str)) = true := by decide +kernel
theorem cls_TU : (("Table" : Str) == "Unbent") = false := by decide +kernel
theorem isiC_obj {cs : List Str} {c c' : Str} {nn : List Str} {xs : List D} : isiC cs c (.obj f c' nn xs) L = if cs.contains c' then .ok (.bl (c' == c)) L else .stuck := rfl
@[simp] theorem isi_pap : isiC pkClasses "Unbent" (pap f ns lo up) L = .ok (.bl true) L := by
  unfold pap
  rw [isiC_obj, cls_U]
  simp
@[simp] theorem isi_tabU {R : List (List A)} {m : Nat} : isiC pkClasses "Unbent" (tab f R m) L = .ok (.bl false) L := by
  unfold tab
  rw [isiC_obj, cls_T, cls_TU]
  rfl
@[simp] theorem isNon_pap : isNonD (pap f ns lo up) = false := rfl
@[simp] theorem isi_non : isiC pkClasses "Unbent" .non L = .ok (.bl false) L := by simp [isiC, tyName]
@[simp] theorem isi_bl {b : Bool} : isiC pkClasses "Unbent" (.bl b) L = .ok (.bl false) L := by simp [isiC, tyName]
@[simp] theorem isi_tup {xs : List D} : isiC pkClasses "Unbent" (.tup xs) L = .ok (.bl false) L := by simp [isiC, tyName]
@[simp] theorem isi_lst {g : Fl} {xs : List D} : isiC pkClasses "Unbent" (.lst g xs) L = .ok (.bl false) L := by simp [isiC, tyName]
theorem wh_int {i : Int} : d_is_whole [.int i] L = .ok (.bl true) L := v_iswhole (some i)
theorem v_uinit {k : Sk} (hk : k.arg = true) (ns : List Int) (lo up : Int) (L : List Int) : d_Unbent_init [sq k (ns.map D.int), .int lo, .int up] L = .ok (pap .ow ns lo up) L := by
  have ha : okf isArg (sq k (ns.map D.int)) = true := sq_arg hk (okfs_ints' ns)
  have z1 := lk_arg ha
  have z2 := fz_arg' ha
  have z3 := nlo_arg ha
  have z4 : seqOf (sq k (ns.map D.int)) = some (ns.map D.int) := seq_sq hk (okfs_ints' ns)
  have z5 : tupleD [sq k (ns.map D.int)] L = .ok (.tup (ns.map D.int)) L := by cases k <;> simp [sq, tupleD]
  obtain ⟨e, L', q1, y, e1, e2⟩ := loop_on (p := .nm 4) (body := l_Unbent_init_1) (h := D.int) (ys := ns) (L := L) (env := [some (.obj .me "Unbent" [] []), some (sq k (ns.map D.int)), some (.int lo), some (.int up), none])
    (fun i env L' => ∃ y, env = [some (.obj .me "Unbent" [] []), some (sq k (ns.map D.int)), some (.int lo), some (.int up), y] ∧ L' = L) (by
      rintro i v hv env L' ⟨y, rfl, rfl⟩
      exact Nx_intro ⟨[some (.obj .me "Unbent" [] []), some (sq k (ns.map D.int)), some (.int lo), some (.int up), some (.int v)], L', by simp [turn, l_Unbent_init_1, wh_int], _, rfl, rfl⟩) ⟨none, rfl, rfl⟩
  subst e1 e2
  simp [d_Unbent_init, dInit, instD, b_Unbent_init, dSetF, z1, z2, z3, z4, z5, q1, wh_int, putN, lkN, s_U1, s_U2, s_nl, s_ln, s_nu, s_un, s_lu, s_ul, pap, papN]
section
variable {R : List (List A)} {m : Nat}
theorem prs_zip (s : Nat) : enuD ((prs R ns s).map aD) = (List.range R.length).map fun d => D.tup [natD d, aD (prc R ns s d)] := by
  unfold enuD
  have e : (prs R ns s).map aD = (List.range R.length).map fun d => aD (prc R ns s d) := by unfold prs; rw [List.map_map]; rfl
  have l : ((prs R ns s).map aD).length = R.length := by simp [prs]
  rw [l, e]
  have q := zipWith_maps (fun (k : Nat) (x : D) => D.tup [.int (k : Nat), x]) (fun d : Nat => d) (fun d => aD (prc R ns s d)) (List.range R.length)
  rw [List.map_id'] at q
  exact q
theorem v_bbests (h : Rect R m) (hn : ns.length = R.length) {s : Nat} (hs : s < m) (L : List Int) :
    d_p_bent_bests [tab .fz R m, .tup (ns.map D.int), .int s] L = .ok (.tup ((bests R ns s).map natD)) L := by
  have n1 := h.n1
  have c1 := lc_on (own := [5, 6]) (p := .tp [5, 6]) (de := c_p_bent_bests_1) (env := [some (tab .fz R m), some (.tup (ns.map D.int)), some (.int s), none, none, none, none, none, none]) (h := fun d => D.tup [row .t (ro R d), .int (gI ns d)]) (ys := List.range R.length) (L := L) (fun d => aD (prc R ns s d)) (by
    intro d hd
    have hi : d < R.length := by simpa using hd
    have a3 := at_ce (L := L) (k := .t) (r := ro R d) (i := s) (by rw [h.at hi]; exact hs)
    have v := v_plus (L := L) (ce (ro R d) s) (some (gI ns d))
    rw [aD_some] at v
    simp [lcTurn, wipeE, c_p_bent_bests_1, a3, v, prc])
  rw [← zip_pn hn] at c1
  have e1 : (List.range R.length).map (fun d => aD (prc R ns s d)) = (prs R ns s).map aD := by unfold prs; rw [List.map_map]; rfl
  rw [e1] at c1
  have v := v_least (k := .l .bo) rfl (prs R ns s) L
  have o1 : okLen ((zipD (R.map (row .t)) (ns.map D.int)).length + 1) = true := by rw [zip_pn hn]; exact okLen_le (by simp; omega)
  have tm : mat .t .t R = .tup (R.map (row .t)) := rfl
  have fr : fzs (R.map (row .t)) = R.map (row .t) := fzs_arg (rows_arg rfl)
  cases hm : minL (prs R ns s) with
  | none =>
    rw [hm] at v
    have eb : bests R ns s = [] := by unfold bests; rw [hm]
    rw [eb]
    simp only [lst_row, aD_none] at v
    exact body_ret (env := [some (tab .fz R m), some (.tup (ns.map D.int)), some (.int s), none, none, none, none, none, none]) (by simp [b_p_bent_bests, tm, fr, c1, o1, v]) (by simp)
  | some w =>
    rw [hm] at v
    have eb : bests R ns s = (List.range R.length).filter fun d => prc R ns s d == some w := by unfold bests; rw [hm]
    rw [eb]
    simp only [lst_row, aD_some] at v
    have c2 := lc_filt (own := [7, 8]) (p := .tp [7, 8]) (dt := t_p_bent_bests_1) (de := c_p_bent_bests_2) (env := [some (tab .fz R m), some (.tup (ns.map D.int)), some (.int s), some (.lst .fz ((prs R ns s).map aD)), some (.int w), none, none, none, none]) (h := fun d => D.tup [natD d, aD (prc R ns s d)]) (L := L) (fun d => prc R ns s d == some w) natD (ys := List.range R.length) (by
      intro d hd
      have q := eqD_aD (a := prc R ns s d) (b := some w) (L := L)
      rw [aD_some] at q
      exact ⟨[some (tab .fz R m), some (.tup (ns.map D.int)), some (.int s), some (.lst .fz ((prs R ns s).map aD)), some (.int w), none, none, some (natD d), some (aD (prc R ns s d))], by simp [wipeE], by simp [t_p_bent_bests_1, q], fun _ => ⟨by simp [c_p_bent_bests_2], by simp⟩⟩)
    rw [← prs_zip] at c2
    have o2 : okLen ((enuD ((prs R ns s).map aD)).length + 1) = true := by rw [prs_zip]; exact okLen_le (by simp; omega)
    exact body_ret (env := [some (tab .fz R m), some (.tup (ns.map D.int)), some (.int s), none, none, none, none, none, none]) (by simp [b_p_bent_bests, tm, fr, c1, o1, v, c2, o2, tupleD]) (by simp)
end
end
end Pk

set_option Elab.async false
set_option linter.all false
set_option maxRecDepth 100000
set_option maxHeartbeats 4000000
namespace Pk
open PySem PySem.Spec PyProof.Rows L2 Qd
variable {L : List Int}
section
variable {R : List (List A)} {m : Nat} {k j : Sk}
theorem t_bs1 (one oth : List Nat) (a b : Nat) (x0 x1 x5 : Option D) (L : List Int) :
    turn (.nm 5) l_shows_unbent_1 (natD b) [x0, x1, some (.tup (one.map natD)), some (.tup (oth.map natD)), some (natD a), x5] L =
      if cS one oth a b then .ret (.bl true) L else .nx [x0, x1, some (.tup (one.map natD)), some (.tup (oth.map natD)), some (natD a), some (natD b)] L := by
  have w := fun l (d : Nat) L => inFD_natT (neg := true) (d := d) (l := l) (L := L)
  simp only [turn, bindP_nm, okf_natD, if_true, List.set_cons_succ, List.set_cons_zero, l_shows_unbent_1, dIfS_ev, dTAnd_ev, dTOr_ev, dTst_ev, dBin_ev, dVar_ev, List.getElem?_cons_succ, List.getElem?_cons_zero, lk_natD, fz_natD, Res.bindF_ok, lk_tup, lks_natDs, fz_tup, fzs_natDs]
  simp only [natD, gtD_ev, Res.bindF_ok, fz_bl, tstD_ev, Res.bind_ok]
  by_cases h : b < a
  · have h' : decide ((b : Int) < (a : Int)) = true := by simpa using h
    rw [h']
    have w1' : inFD true (.int b) (.tup (List.map natD one)) L = _ := w one b L
    have w2' : inFD true (.int a) (.tup (List.map natD oth)) L = _ := w oth a L
    simp only [natD] at w1' w2'
    unfold cS
    cases hb : one.contains b <;> cases ha : oth.contains a <;> simp_all
  · have h' : decide ((b : Int) < (a : Int)) = false := by simpa using h
    rw [h']
    simp [cS, h]
theorem l_bs (one oth : List Nat) (x0 x1 x4 x5 : Option D) (L : List Int) :
    Fd L (if one.any fun a => oth.any (cS one oth a) then some (.bl true) else none) (dLoop (.nm 4) l_shows_unbent_2 (one.map natD) [x0, x1, some (.tup (one.map natD)), some (.tup (oth.map natD)), x4, x5] L)
      (fun env => ∃ x4 x5, env = [x0, x1, some (.tup (one.map natD)), some (.tup (oth.map natD)), x4, x5]) := by
  rw [← findSome_if]
  refine find_on (p := .nm 4) (body := l_shows_unbent_2) (h := natD) (ys := one) (L := L) (fun a => if oth.any (cS one oth a) then some (.bl true) else none) (fun env => ∃ x4 x5, env = [x0, x1, some (.tup (one.map natD)), some (.tup (oth.map natD)), x4, x5]) (by
    rintro a _ env ⟨x4, x5, rfl⟩
    rw [← findSome_if]
    have e : turn (.nm 4) l_shows_unbent_2 (natD a) [x0, x1, some (.tup (one.map natD)), some (.tup (oth.map natD)), x4, x5] L = dLoop (.nm 5) l_shows_unbent_1 (oth.map natD) [x0, x1, some (.tup (one.map natD)), some (.tup (oth.map natD)), some (natD a), x5] L := by
      simp [turn, l_shows_unbent_2, seqOf]
    rw [e]
    refine Fd_mono (find_on (p := .nm 5) (body := l_shows_unbent_1) (h := natD) (ys := oth) (L := L) (fun b => if cS one oth a b then some (.bl true) else none) (fun env => ∃ x5, env = [x0, x1, some (.tup (one.map natD)), some (.tup (oth.map natD)), some (natD a), x5]) (by
      rintro b _ env ⟨x5, rfl⟩
      rw [t_bs1]
      cases cS one oth a b <;> simp) ⟨_, rfl⟩) ?_
    rintro e ⟨y, rfl⟩
    exact ⟨_, _, rfl⟩) ⟨_, _, rfl⟩
theorem v_shows (h : Rect R m) (ns : List Int) (lo up : Int) (L : List Int) : d_shows_unbent [tab .fz R m, pap .fz ns lo up] L = .ok (.bl (shw R m ns lo up)) L := by
  have tm : mat .t .t R = .tup (R.map (row .t)) := rfl
  have fr : fzs (R.map (row .t)) = R.map (row .t) := fzs_arg (rows_arg rfl)
  have np : okf notLo (pap .fz ns lo up) = true := okf_pap rfl
  by_cases c : ns.length = R.length ∧ 0 ≤ lo ∧ lo < up ∧ up < m
  · obtain ⟨c1, c2, c3, c4⟩ := c
    obtain ⟨lo, rfl⟩ : ∃ i : Nat, lo = i := ⟨lo.toNat, by omega⟩
    obtain ⟨up, rfl⟩ : ∃ i : Nat, up = i := ⟨up.toNat, by omega⟩
    have v1 := v_bbests h c1 (s := lo) (by omega) L
    have v2 := v_bbests h c1 (s := up) (by omega) L
    have es : shw R m ns lo up = shB (bests R ns lo) (bests R ns up) := by
      unfold shw
      rw [decide_eq_true (show ns.length = R.length ∧ 0 ≤ (lo : Int) ∧ (lo : Int) < up ∧ (up : Int) < m from ⟨c1, c2, c3, c4⟩)]
      simp
    rw [es]
    generalize bests R ns lo = one at v1 ⊢
    generalize bests R ns up = oth at v2 ⊢
    have F := l_bs one oth (some (tab .fz R m)) (some (pap .fz ns lo up)) none none L
    have g2' : lo < up := by omega
    have g3' : up < m := by omega
    have key : ∀ r, dLoop (.nm 4) l_shows_unbent_2 (one.map natD) [some (tab .fz R m), some (pap .fz ns lo up), some (.tup (one.map natD)), some (.tup (oth.map natD)), none, none] L = r →
        b_shows_unbent [some (tab .fz R m), some (pap .fz ns lo up), none, none, none, none] L = (match r with | .nx env1 L1 => .ret (.bl false) L1 | r => r) := by
      intro r hr
      have fd : ∀ l : List Nat, seqOf (.tup (l.map natD)) = some (l.map natD) := fun l => by simp [seqOf]
      simp [b_shows_unbent, tm, fr, c1, g2', g3', v1, v2, fd, hr]
      all_goals (cases r <;> rfl)
    unfold shB
    rcases Fd_use F with ⟨y, e1, e2⟩ | ⟨e1, e, e2, i⟩
    · split at e1
      · rename_i hc
        rw [hc]
        obtain rfl : D.bl true = y := by simpa using e1
        exact body_ret (env := [some (tab .fz R m), some (pap .fz ns lo up), none, none, none, none]) (key _ e2) (by simp)
      · cases e1
    · split at e1
      · cases e1
      · rename_i hc
        have hc' : (one.any fun a => oth.any (cS one oth a)) = false := by simpa using hc
        rw [hc']
        rcases e2 with e2 | e2
        · exact body_ret (env := [some (tab .fz R m), some (pap .fz ns lo up), none, none, none, none]) (key _ e2) (by simp)
        · exact absurd e2 (dLoop_ncnt _ _ _ _ _ _ _)
  · have es : shw R m ns lo up = false := by
      unfold shw
      rw [decide_eq_false c]
      rfl
    rw [es]
    refine body_ret (env := [some (tab .fz R m), some (pap .fz ns lo up), none, none, none, none]) ?_ (by simp)
    by_cases c1 : ns.length = R.length
    · by_cases c2 : 0 ≤ lo
      · by_cases c3 : lo < up
        · have c4 : ¬ (up < m) := fun c4 => c ⟨c1, c2, c3, c4⟩
          simp [b_shows_unbent, tm, fr, c1, c2, c3, c4]
        · simp [b_shows_unbent, tm, fr, c1, c2, c3]
      · simp [b_shows_unbent, tm, fr, c1, c2]
    · have g0 : ¬ ((ns.length : Int) = (R.length : Int)) := by omega
      simp [b_shows_unbent, tm, fr, c1, g0]
theorem v_shows_no (x : D) (hx : isiC pkClasses "Unbent" (fz (lk x)) L = .ok (.bl false) L) (hn : okf notLo x = true) : d_shows_unbent [tab .fz R m, x] L = .ok (.bl false) L := by
  refine body_ret (env := [some (tab .fz R m), some x, none, none, none, none]) ?_ (by simp)
  simp [b_shows_unbent, hx]
/-! ### judged -/
theorem v_judged (h : Rect R m) (hk : k.arg = true) (hj : j.arg = true) {f : Fl} {ns : List Int} (hf : isArg f = true) (lo up : Int) (L : List Int) :
    d_p_law_ub_judged [tab .fz R m, mat k j R, .lst f (ns.map D.int), .int lo, .int up] L = .ok (.bl true) L := by
  have z : lk (.lst f (ns.map D.int)) = .lst f (ns.map D.int) := lk_arg (by simp [hf])
  have z2 : fz (.lst f (ns.map D.int)) = .lst f (ns.map D.int) := fz_arg' (by simp [hf])
  have z3 : bw (.lst f (ns.map D.int)) = .lst f (ns.map D.int) := bw_arg (by simp [hf])
  have v1 := v_lshows h hk hj hf (ns := ns) lo up L
  have v2 := v_uinit (k := .l .fz) rfl ns lo up L
  have v3 := v_shows h ns lo up L
  have np : okf notLo (pap .fz ns lo up) = true := okf_pap rfl
  simp only [sq] at v2
  refine body_ret (env := [some (tab .fz R m), some (mat k j R), some (.lst f (ns.map D.int)), some (.int lo), some (.int up), none, none]) ?_ (by simp)
  cases hs : shw R m ns lo up with
  | true =>
    rw [hs] at v1 v3
    simp [b_p_law_ub_judged, callK_plain, hk, hj, z, z2, z3, v1, v2, v3, listD, np]
  | false =>
    rw [hs] at v1 v3
    simp [b_p_law_ub_judged, callK_plain, hk, hj, z, z2, z3, v1, v2, v3, listD, np]
end
end Pk

set_option Elab.async false
set_option linter.all false
set_option maxRecDepth 100000
set_option maxHeartbeats 4000000
namespace Pk
open PySem PySem.Spec PyProof.Rows L2 Qd
theorem mem_r {a n x : Nat} : x ∈ List.range' a n ↔ a ≤ x ∧ x < a + n := List.mem_range'_1
def Bent (R : List (List A)) (m : Nat) : Prop := ∀ d e s t, d < e → e < R.length → s < t → t < m → cnd (ro R d) (ro R e) s t = false
theorem brk_some {R : List (List A)} {m d e s t : Nat} (h : brk R m = some (d, e, s, t)) : d < e ∧ e < R.length ∧ s < t ∧ t < m ∧ cnd (ro R d) (ro R e) s t = true := by
  unfold brk sts at h
  obtain ⟨d', hd, h1⟩ := List.exists_of_findSome?_eq_some h
  obtain ⟨e', he, h2⟩ := List.exists_of_findSome?_eq_some h1
  rw [Option.map_eq_some_iff] at h2
  obtain ⟨x, h3, h4⟩ := h2
  obtain ⟨s', hs, h5⟩ := List.exists_of_findSome?_eq_some h3
  obtain ⟨t', ht, h6⟩ := List.exists_of_findSome?_eq_some h5
  split at h6
  · rename_i hc
    obtain rfl := Option.some.inj h6
    injection h4 with h4 h4'
    injection h4' with h4' h5'
    injection h5' with h5' h6'
    subst h4 h4' h5' h6'
    have := mem_r.mp hd
    have := mem_r.mp he
    have := mem_r.mp hs
    have := mem_r.mp ht
    exact ⟨by omega, by omega, by omega, by omega, hc⟩
  · cases h6
section
variable {R : List (List A)} {m : Nat} {ns : List Int}
theorem bests_of {s d0 : Nat} {v : Int} (h0 : d0 < R.length) (e0 : prc R ns s d0 = some v) (ha : ∀ d, d < R.length → ltA (prc R ns s d) (some v) = false) (x : Nat) : x ∈ bests R ns s ↔ x < R.length ∧ prc R ns s x = some v := by
  have hm : minL (prs R ns s) = some v := by
    have l1 : leA (minL (prs R ns s)) (some v) := minL_le (List.mem_of_getElem? ((prs_at h0).trans (by rw [e0])))
    obtain ⟨b, hb, hle⟩ := le_some.mp l1
    have mb := minL_some hb
    unfold prs at mb
    obtain ⟨d, hd, ed⟩ := List.mem_map.mp mb
    have z := ha d (by simpa using hd)
    rw [ed] at z
    simp [ltA] at z
    rw [hb]
    congr 1
    omega
  unfold bests
  rw [hm]
  simp
def gapO (r q : List A) (s t : Nat) : Int := match ce r s with
  | some v => v - (ce q s).getD 0
  | none => match ce q t with
    | some w => (ce r t).getD 0 - w
    | none => 0
theorem cnd_some {r q : List A} {s t : Nat} (h : cnd r q s t = true) : ∃ a b, ce r t = some a ∧ ce q s = some b ∧ ∀ x y, ce r s = some x → ce q t = some y → a + b < x + y := by
  unfold cnd at h
  cases h1 : ce r t with
  | none => rw [h1] at h; simp [plusA, ltA] at h
  | some a =>
    cases h2 : ce q s with
    | none => rw [h1, h2] at h; simp [plusA, ltA] at h
    | some b =>
      refine ⟨a, b, rfl, rfl, fun x y hx hy => ?_⟩
      rw [h1, h2, hx, hy] at h
      simpa [plusA, ltA] using h
theorem shown {d e s t : Nat} {g0 a b : Int} (hl : ns.length = R.length) (h1 : d < e) (h2 : e < R.length) (h3 : s < t) (h4 : t < m) (ha : ce (ro R d) t = some a) (hb : ce (ro R e) s = some b) (hc : ∀ x y, ce (ro R d) s = some x → ce (ro R e) t = some y → a + b < x + y)
    (hd : gI ns d = g0) (he : gI ns e = g0 + gapO (ro R d) (ro R e) s t)
    (ho : ∀ c, c < R.length → c ≠ d → c ≠ e → (∀ v, ce (ro R c) s = some v → b + gapO (ro R d) (ro R e) s t + g0 < v + gI ns c) ∧ ∀ v, ce (ro R c) t = some v → a + g0 < v + gI ns c) :
    shw R m ns s t = true := by
  obtain ⟨gp, hg⟩ : ∃ gp, gp = gapO (ro R d) (ro R e) s t := ⟨_, rfl⟩
  rw [← hg] at he ho
  have m1 := bests_of (R := R) (ns := ns) (s := s) (d0 := e) (v := b + (g0 + gp)) h2 (by simp [prc, hb, he, plusA]) (fun c hcl => by
    by_cases c1 : c = d
    · subst c1
      unfold prc
      cases hx : ce (ro R c) s with
      | none => rfl
      | some x =>
        have : gp = x - b := by rw [hg]; simp [gapO, hx, hb]
        simp [plusA, ltA, hd]
        omega
    · by_cases c2 : c = e
      · subst c2
        simp [prc, hb, he, plusA, ltA]
      · unfold prc
        cases hx : ce (ro R c) s with
        | none => rfl
        | some x =>
          have := (ho c hcl c1 c2).1 x hx
          simp [plusA, ltA]
          omega)
  have m2 := bests_of (R := R) (ns := ns) (s := t) (d0 := d) (v := a + g0) (by omega) (by simp [prc, ha, hd, plusA]) (fun c hcl => by
    by_cases c1 : c = d
    · subst c1
      simp [prc, ha, hd, plusA, ltA]
    · by_cases c2 : c = e
      · subst c2
        unfold prc
        cases hy : ce (ro R c) t with
        | none => rfl
        | some y =>
          cases hx : ce (ro R d) s with
          | some x =>
            have q := hc x y hx hy
            have : gp = x - b := by rw [hg]; simp [gapO, hx, hb]
            simp [plusA, ltA, he]
            omega
          | none =>
            have : gp = a - y := by rw [hg]; simp [gapO, hx, hy, ha]
            simp [plusA, ltA, he]
            omega
      · unfold prc
        cases hx : ce (ro R c) t with
        | none => rfl
        | some x =>
          have := (ho c hcl c1 c2).2 x hx
          simp [plusA, ltA]
          omega)
  have k1 : e ∈ bests R ns s := (m1 e).mpr ⟨h2, by simp [prc, hb, he, plusA]⟩
  have k2 : d ∈ bests R ns t := (m2 d).mpr ⟨by omega, by simp [prc, ha, hd, plusA]⟩
  have k3 : d ∉ bests R ns s ∨ e ∉ bests R ns t := by
    cases hx : ce (ro R d) s with
    | none =>
      left
      intro z
      have q := ((m1 d).mp z).2
      unfold prc at q
      rw [hx] at q
      cases q
    | some x =>
      right
      intro z
      have q := ((m2 e).mp z).2
      unfold prc at q
      cases hy : ce (ro R e) t with
      | none => rw [hy] at q; cases q
      | some y =>
        have q2 := hc x y hx hy
        have : gp = x - b := by rw [hg]; simp [gapO, hx, hb]
        rw [hy, he] at q
        simp [plusA] at q
        omega
  unfold shw
  rw [decide_eq_true (show ns.length = R.length ∧ 0 ≤ (s : Int) ∧ (s : Int) < t ∧ (t : Int) < m from ⟨hl, by omega, by omega, by omega⟩)]
  unfold shB
  simp only [Bool.true_and, List.any_eq_true, Int.toNat_natCast]
  refine ⟨e, k1, d, k2, ?_⟩
  unfold cS
  rw [decide_eq_true h1]
  rcases k3 with k3 | k3
  · simp [k3]
  · simp [k3]
end
end Pk

set_option Elab.async false
set_option linter.all false
set_option maxRecDepth 100000
set_option maxHeartbeats 4000000
namespace Pk
open PySem PySem.Spec PyProof.Rows L2 Qd
variable {L : List Int}
theorem max2D_ev' {i j : Int} : max2D [.int i, .int j] L = .ok (.int (if i < j then j else i)) L := rfl
def mx (i j : Int) : Int := if i < j then j else i
def out1 (a : A) (p n : Int) : Int := match a with
  | some v => mx n (p + 1 - v)
  | none => n
def outV (r : List A) (p1 p2 : Int) (s t : Nat) : Int := out1 (ce r t) p2 (out1 (ce r s) p1 0)
theorem mx_le (i j : Int) : i ≤ mx i j ∧ j ≤ mx i j := by unfold mx; split <;> omega
theorem out1_le (a : A) (p n : Int) : n ≤ out1 a p n ∧ ∀ v, a = some v → p < v + out1 a p n := by
  cases a with
  | none => exact ⟨by simp [out1], fun v h => by cases h⟩
  | some w =>
    have := mx_le n (p + 1 - w)
    refine ⟨this.1, fun v h => ?_⟩
    cases h
    show p < w + mx n (p + 1 - w)
    omega
theorem outV_gt (r : List A) (p1 p2 : Int) (s t : Nat) : (∀ v, ce r s = some v → p1 < v + outV r p1 p2 s t) ∧ ∀ v, ce r t = some v → p2 < v + outV r p1 p2 s t := by
  have h1 := out1_le (ce r s) p1 0
  have h2 := out1_le (ce r t) p2 (out1 (ce r s) p1 0)
  refine ⟨fun v h => ?_, fun v h => h2.2 v h⟩
  have := h1.2 v h
  unfold outV
  omega
theorem t_out (r : List A) (p : Int) (s : Nat) (hs : s < r.length) (n : Int) (x1 x2 x4 x5 : Option D) (L : List Int) :
    turn (.tp [4, 5]) l_p_bent_out_1 (.tup [.int p, .int s]) [some (row .t r), x1, x2, some (.int n), x4, x5] L = .nx [some (row .t r), x1, x2, some (.int (out1 (ce r s) p n)), some (.int p), some (.int s)] L := by
  have a3 := at_ce (L := L) (k := .t) (r := r) (i := s) hs
  cases h : ce r s with
  | none => rw [h] at a3; simp [turn, l_p_bent_out_1, a3, out1]
  | some v => rw [h] at a3; simp [turn, l_p_bent_out_1, a3, out1, max2D_ev', mx]
theorem v_bentout (r : List A) (p1 p2 : Int) (s t : Nat) (hs : s < r.length) (ht : t < r.length) (L : List Int) :
    d_p_bent_out [row .t r, .tup [.int p1, .int p2], .tup [.int s, .int t]] L = .ok (.int (outV r p1 p2 s t)) L := by
  have e : dLoop (.tp [4, 5]) l_p_bent_out_1 (zipD [.int p1, .int p2] [.int s, .int t]) [some (row .t r), some (.tup [.int p1, .int p2]), some (.tup [.int s, .int t]), some (.int 0), none, none] L = .nx [some (row .t r), some (.tup [.int p1, .int p2]), some (.tup [.int s, .int t]), some (.int (outV r p1 p2 s t)), some (.int p2), some (.int t)] L := by
    have t1 := t_out r p1 s hs 0 (some (.tup [.int p1, .int p2])) (some (.tup [.int s, .int t])) none none L
    have t2 := t_out r p2 t ht (out1 (ce r s) p1 0) (some (.tup [.int p1, .int p2])) (some (.tup [.int s, .int t])) (some (.int p1)) (some (.int s)) L
    simp only [turn, bindP_tp, bindN_cons, bindN_nil, okf_int, if_true, List.set_cons_succ, List.set_cons_zero] at t1 t2
    show dLoop _ _ [.tup [.int p1, .int s], .tup [.int p2, .int t]] _ _ = _
    rw [dLoop_cons (by simp; rfl)]
    try simp only [List.set_cons_succ, List.set_cons_zero]
    rw [t1]
    show dLoop _ _ [.tup [.int p2, .int t]] _ _ = _
    rw [dLoop_cons (by simp; rfl)]
    try simp only [List.set_cons_succ, List.set_cons_zero]
    rw [t2]
    rfl
  exact body_ret (env := [some (row .t r), some (.tup [.int p1, .int p2]), some (.tup [.int s, .int t]), none, none, none]) (by simp [b_p_bent_out, e]) (by simp)
section
variable {R : List (List A)} {m : Nat}
theorem v_unbent0 (h : Rect R m) (hb : brk R m = none) (L : List Int) : d_unbent [tab .fz R m] L = .ok .non L := by
  have v := v_break h L
  rw [hb] at v
  exact body_ret (env := [some (tab .fz R m), none, none, none, none, none, none, none, none, none, none]) (by simp [b_unbent, v, brL]) (by simp)
def newN (R : List (List A)) (d e s t : Nat) (a b : Int) : List Int := ((R.map fun r => outV r (b + gapO (ro R d) (ro R e) s t) a s t).set d 0).set e (gapO (ro R d) (ro R e) s t)
theorem setV_ints {i : Nat} {dx : DE} {env : Qd.Env} {l : List Int} {s : Nat} {v : Int} (he : env[i]? = some (some (.lst .ow (l.map D.int)))) (ea : dx env L = .ok (.int s) L) (hs : s < l.length) : setV i dx (.int v) env L = .nx (env.set i (some (.lst .ow ((l.set s v).map D.int)))) L := by
  have i1 : ixN (l.map D.int).length (s : Int) = some s := ixN_nat (by simpa using hs)
  unfold setV
  rw [he]
  simp only [ea, Res.thenF_ok, fz_int, i1, okf_int, okfs_ints', Bool.and_self, if_true, List.map_set]
theorem v_unbent (h : Rect R m) {d e s t : Nat} (hb : brk R m = some (d, e, s, t)) {a b : Int} (ha : ce (ro R d) t = some a) (hbb : ce (ro R e) s = some b) (L : List Int) : d_unbent [tab .fz R m] L = .ok (pap .ow (newN R d e s t a b) s t) L := by
  obtain ⟨h1, h2, h3, h4, _⟩ := brk_some hb
  have v := v_break h L
  rw [hb] at v
  have hd := h.at (show d < R.length by omega)
  have he := h.at h2
  have a1 := at_ro (L := L) (k := .t) (j := .t) (R := R) (show d < R.length by omega)
  have a2 := at_ro (L := L) (k := .t) (j := .t) (R := R) h2
  have c1 := at_ce (L := L) (k := .t) (r := ro R d) (i := s) (by omega)
  have c2 := at_ce (L := L) (k := .t) (r := ro R d) (i := t) (by omega)
  have c3 := at_ce (L := L) (k := .t) (r := ro R e) (i := s) (by omega)
  have c4 := at_ce (L := L) (k := .t) (r := ro R e) (i := t) (by omega)
  rw [ha] at c2
  rw [hbb] at c3
  obtain ⟨gp, hg⟩ : ∃ gp, gp = gapO (ro R d) (ro R e) s t := ⟨_, rfl⟩
  have lc := lc_on (own := [10]) (p := .nm 10) (de := c_unbent_1) (env := [some (tab .fz R m), some (.tup [.int d, .int e, .int s, .int t]), some (.int d), some (.int e), some (.int s), some (.int t), some (row .t (ro R d)), some (row .t (ro R e)), some (.int gp), none, none]) (h := row .t) (ys := R) (L := L) (fun r => .int (outV r (b + gp) a s t)) (by
    intro r hr
    have hl := h.len r hr
    have o := v_bentout r (b + gp) a s t (by omega) (by omega) L
    simp [lcTurn, wipeE, c_unbent_1, c2, c3, o])
  have e0 : R.map (fun r => D.int (outV r (b + gp) a s t)) = (R.map fun r => outV r (b + gp) a s t).map D.int := by rw [List.map_map]; rfl
  rw [e0] at lc
  obtain ⟨n0, hn0⟩ : ∃ n0, n0 = R.map fun r => outV r (b + gp) a s t := ⟨_, rfl⟩
  have ln0 : n0.length = R.length := by rw [hn0]; simp
  rw [← hn0] at lc
  have en : newN R d e s t a b = (n0.set d 0).set e gp := by rw [hn0, hg]; rfl
  rw [en]
  have vu := v_uinit (k := .l .bo) rfl ((n0.set d 0).set e gp) s t L
  have n1 := h.n1
  have o1 : okLen (R.length + 1) = true := okLen_le (by omega)
  have tm : mat .t .t R = .tup (R.map (row .t)) := rfl
  have fr : fzs (R.map (row .t)) = R.map (row .t) := fzs_arg (rows_arg rfl)
  have sv1 := setV_ints (L := L) (i := 9) (dx := dVar 2) (env := [some (tab .fz R m), some (.tup [.int d, .int e, .int s, .int t]), some (.int d), some (.int e), some (.int s), some (.int t), some (row .t (ro R d)), some (row .t (ro R e)), some (.int gp), some (.lst .ow (n0.map D.int)), none]) (l := n0) (s := d) (v := 0) rfl (by simp) (by omega)
  have sv2 := setV_ints (L := L) (i := 9) (dx := dVar 3) (env := [some (tab .fz R m), some (.tup [.int d, .int e, .int s, .int t]), some (.int d), some (.int e), some (.int s), some (.int t), some (row .t (ro R d)), some (row .t (ro R e)), some (.int gp), some (.lst .ow ((n0.set d 0).map D.int)), none]) (l := n0.set d 0) (s := e) (v := gp) rfl (by simp) (by simp; omega)
  simp only [List.set_cons_succ, List.set_cons_zero] at sv1 sv2
  have st1 : ∀ k : DS, dSeq (dSet 8 (dC (.int 0))) (dSeq (dIfS (dTst (dBin isNotD (dBin ixD (dVar 6) (dVar 4)) (dC .non))) (dSet 8 (dBin subD (dBin ixD (dVar 6) (dVar 4)) (dBin ixD (dVar 7) (dVar 4)))) (dIfS (dTst (dBin isNotD (dBin ixD (dVar 7) (dVar 5)) (dC .non))) (dSet 8 (dBin subD (dBin ixD (dVar 6) (dVar 5)) (dBin ixD (dVar 7) (dVar 5)))) dNext)) k)
      [some (tab .fz R m), some (.tup [.int d, .int e, .int s, .int t]), some (.int d), some (.int e), some (.int s), some (.int t), some (row .t (ro R d)), some (row .t (ro R e)), none, none, none] L =
      k [some (tab .fz R m), some (.tup [.int d, .int e, .int s, .int t]), some (.int d), some (.int e), some (.int s), some (.int t), some (row .t (ro R d)), some (row .t (ro R e)), some (.int gp), none, none] L := by
    intro k
    rw [hg]
    unfold gapO
    cases q1 : ce (ro R d) s with
    | some x => rw [q1] at c1; simp [c1, c3, hbb]
    | none =>
      rw [q1] at c1
      cases q2 : ce (ro R e) t with
      | some y => rw [q2] at c4; simp [c1, c2, c4, ha]
      | none => rw [q2] at c4; simp [c1, c4]
  have st2 : ∀ k : DS, dSeq (dSetO 9 (dLc [10] (.nm 10) (dIt (dUn (fldD ["HourTable", "Table"] "rows") (dVar 0))) dYes c_unbent_1)) (dSeq (dSetTwo 9 (dVar 2) (dVar 3) (dCons (dC (.int 0)) (dCons (dVar 8) dNil))) k)
      [some (tab .fz R m), some (.tup [.int d, .int e, .int s, .int t]), some (.int d), some (.int e), some (.int s), some (.int t), some (row .t (ro R d)), some (row .t (ro R e)), some (.int gp), none, none] L =
      k [some (tab .fz R m), some (.tup [.int d, .int e, .int s, .int t]), some (.int d), some (.int e), some (.int s), some (.int t), some (row .t (ro R d)), some (row .t (ro R e)), some (.int gp), some (.lst .ow (((n0.set d 0).set e gp).map D.int)), none] L := by
    intro k
    have q : dSetTwo 9 (dVar 2) (dVar 3) (dCons (dC (.int 0)) (dCons (dVar 8) dNil)) [some (tab .fz R m), some (.tup [.int d, .int e, .int s, .int t]), some (.int d), some (.int e), some (.int s), some (.int t), some (row .t (ro R d)), some (row .t (ro R e)), some (.int gp), some (.lst .ow (n0.map D.int)), none] L =
        .nx [some (tab .fz R m), some (.tup [.int d, .int e, .int s, .int t]), some (.int d), some (.int e), some (.int s), some (.int t), some (row .t (ro R d)), some (row .t (ro R e)), some (.int gp), some (.lst .ow (((n0.set d 0).set e gp).map D.int)), none] L := by
      have w : dSeq (setV 9 (dVar 2) (.int 0)) (setV 9 (dVar 3) (.int gp)) [some (tab .fz R m), some (.tup [.int d, .int e, .int s, .int t]), some (.int d), some (.int e), some (.int s), some (.int t), some (row .t (ro R d)), some (row .t (ro R e)), some (.int gp), some (.lst .ow (n0.map D.int)), none] L = _ := (seq_nx sv1).trans sv2
      rw [dSetTwo_ev]
      simp only [dApp_ev, dCons_ev, dNil_ev, dC_ev, dVar_ev, List.getElem?_cons_succ, List.getElem?_cons_zero, lk_int, fz_int, Res.bindF_ok, Res.bind_ok, tupD_ev, List.length_cons, List.length_nil, okLen2, okfs_cons, okf_int, okfs_nil, Bool.and_self, if_true, Res.thenF_ok, fz_tup, fzs_cons, fzs_nil]
      exact w
    rw [seq_nx (L1 := L) (env1 := [some (tab .fz R m), some (.tup [.int d, .int e, .int s, .int t]), some (.int d), some (.int e), some (.int s), some (.int t), some (row .t (ro R d)), some (row .t (ro R e)), some (.int gp), some (.lst .ow (n0.map D.int)), none]) (by simp [tm, fr, lc, o1, show seqOf (.tup (R.map (row .t))) = some (R.map (row .t)) from rfl]), seq_nx q]
  clear sv1 sv2 en
  generalize (n0.set d 0).set e gp = n2 at st2 vu ⊢
  refine body_ret (env := [some (tab .fz R m), none, none, none, none, none, none, none, none, none, none]) ?_ (by simp)
  unfold b_unbent
  rw [seq_nx (L1 := L) (env1 := [some (tab .fz R m), some (.tup [.int d, .int e, .int s, .int t]), none, none, none, none, none, none, none, none, none]) (by simp [v, brL])]
  rw [seq_nx (L1 := L) (env1 := [some (tab .fz R m), some (.tup [.int d, .int e, .int s, .int t]), none, none, none, none, none, none, none, none, none]) (by simp)]
  rw [seq_nx (L1 := L) (env1 := [some (tab .fz R m), some (.tup [.int d, .int e, .int s, .int t]), some (.int d), some (.int e), some (.int s), some (.int t), none, none, none, none, none]) (by simp)]
  rw [seq_nx (L1 := L) (env1 := [some (tab .fz R m), some (.tup [.int d, .int e, .int s, .int t]), some (.int d), some (.int e), some (.int s), some (.int t), some (row .t (ro R d)), some (row .t (ro R e)), none, none, none]) (by simp [a1, a2])]
  rw [st1, st2]
  simp only [sq] at vu
  simp [callK_plain, vu]
theorem new_shows (h : Rect R m) {d e s t : Nat} (hb : brk R m = some (d, e, s, t)) {a b : Int} (ha : ce (ro R d) t = some a) (hbb : ce (ro R e) s = some b) (hc : ∀ x y, ce (ro R d) s = some x → ce (ro R e) t = some y → a + b < x + y) : shw R m (newN R d e s t a b) s t = true := by
  obtain ⟨h1, h2, h3, h4, _⟩ := brk_some hb
  have hl : (newN R d e s t a b).length = R.length := by simp [newN]
  have ge : gI (newN R d e s t a b) e = gapO (ro R d) (ro R e) s t := by
    unfold newN gI
    rw [List.getD_eq_getElem?_getD, List.getElem?_set_self (by simp; omega)]
    rfl
  have gd : gI (newN R d e s t a b) d = 0 := by
    unfold newN gI
    rw [List.getD_eq_getElem?_getD, List.getElem?_set_ne (by omega), List.getElem?_set_self (by simp; omega)]
    rfl
  refine shown (g0 := 0) hl h1 h2 h3 h4 ha hbb hc gd (by rw [ge]; omega) fun c hcl c1 c2 => ?_
  have gc : gI (newN R d e s t a b) c = outV (ro R c) (b + gapO (ro R d) (ro R e) s t) a s t := by
    unfold newN gI ro
    rw [List.getD_eq_getElem?_getD, List.getElem?_set_ne (Ne.symm c2), List.getElem?_set_ne (Ne.symm c1)]
    simp [hcl]
  have o := outV_gt (ro R c) (b + gapO (ro R d) (ro R e) s t) a s t
  rw [gc]
  exact ⟨fun v hv => by have := o.1 v hv; omega, fun v hv => by have := o.2 v hv; omega⟩
end
end Pk

set_option Elab.async false
set_option linter.all false
set_option maxRecDepth 100000
set_option maxHeartbeats 4000000
namespace Pk
open PySem PySem.Spec PyProof.Rows L2 Qd
variable {L : List Int}
section
variable {R : List (List A)} {m : Nat} {k j : Sk}
theorem addD_lst {f g : Fl} {xs ys : List D} (h : okLen (xs.length + ys.length) = true) (h1 : notKz f = true) (h2 : notKz g = true) (h3 : okfs isFz xs = true) (h4 : okfs isFz ys = true) : addD (.lst f xs) (.lst g ys) L = .ok (.lst .ow (xs ++ ys)) L := by
  show (if okLen (xs.length + ys.length) && notKz f && notKz g && okfs isFz xs && okfs isFz ys then _ else _) = _
  rw [h, h1, h2, h3, h4]
  rfl
theorem lw_int {i : Int} : d_p_law_whole [.int i] L = .ok (.bl true) L := v_lwhole (some i)
theorem v_made (h : Rect R m) (hk : k.arg = true) (hj : j.arg = true) {ds : List D} (hds : okfs isArg ds = true) (hb : (ds = [] ∧ brk R m = none) ∨ (ds ≠ [] ∧ brk R m ≠ none)) (L : List Int) :
    d_p_law_ub_made [tab .fz R m, mat k j R, .lst .fz ds] L = .ok (.bl true) L := by
  have z : lk (.lst .fz ds) = .lst .fz ds := lk_arg (by simp [hds])
  have z2 : fz (.lst .fz ds) = .lst .fz ds := fz_arg' (by simp [hds])
  refine body_ret (env := [some (tab .fz R m), some (mat k j R), some (.lst .fz ds), none, none]) ?_ (by simp)
  rcases hb with ⟨rfl, hb⟩ | ⟨h0, hb⟩
  · have v := v_unbent0 h hb L
    simp [b_p_law_ub_made, v]
  · cases q : brk R m with
    | none => exact absurd q hb
    | some x =>
      obtain ⟨d, e, s, t⟩ := x
      obtain ⟨h1, h2, h3, h4, hc⟩ := brk_some q
      obtain ⟨a, b, ha, hbb, hcc⟩ := cnd_some hc
      have v := v_unbent h q ha hbb L
      have sh := new_shows h q ha hbb hcc
      have ln : (newN R d e s t a b).length = R.length := by simp [newN]
      have n1 := h.n1
      generalize newN R d e s t a b = ns at v sh ln
      have v1 := v_lshows h hk hj (f := .fz) rfl (ns := ns) s t L
      have v2 := v_shows h ns s t L
      rw [sh] at v1 v2
      obtain ⟨e', L', q1, y, e1, e2⟩ := loop_on (p := .nm 4) (body := l_p_law_ub_made_1) (h := D.int) (ys := ns ++ [(s : Int), (t : Int)]) (L := L) (env := [some (tab .fz R m), some (mat k j R), some (.lst .fz ds), some (pap .fz ns s t), none])
        (fun i env L' => ∃ y, env = [some (tab .fz R m), some (mat k j R), some (.lst .fz ds), some (pap .fz ns s t), y] ∧ L' = L) (by
          rintro i vv hv env L' ⟨y, rfl, rfl⟩
          exact Nx_intro ⟨[some (tab .fz R m), some (mat k j R), some (.lst .fz ds), some (pap .fz ns s t), some (.int vv)], L', by simp [turn, l_p_law_ub_made_1, lw_int], _, rfl, rfl⟩) ⟨none, rfl, rfl⟩
      subst e1 e2
      rw [List.map_append] at q1
      have al := addD_lst (L := L') (f := .fz) (g := .fz) (xs := ns.map D.int) (ys := [D.int s, D.int t]) (okLen_le (by simp; omega)) rfl rfl (by simp) (by simp)
      have np : okf notLo (pap .fz ns s t) = true := okf_pap rfl
      have hl : ds.length ≠ 0 := by simpa using h0
      have oa : okfs isArg (ns.map D.int ++ [D.int (s : Int), D.int (t : Int)]) = true := okfs_app _ _ (by simp : okfs isArg (ns.map D.int) = true) (by simp : okfs isArg [D.int (s : Int), D.int (t : Int)] = true)
      have sq1 : seqOf (.lst .fz (ns.map D.int ++ [D.int s, D.int t])) = some (ns.map D.int ++ [D.int s, D.int t]) := by simp [seqOf, oa]
      have fa : fzs (ns.map D.int ++ [D.int s, D.int t]) = ns.map D.int ++ [D.int s, D.int t] := fzs_arg (okfs_app _ _ (by simp : okfs isArg (ns.map D.int) = true) (by simp : okfs isArg [D.int (s : Int), D.int (t : Int)] = true))
      have it : ∀ L, isiT ["tuple"] (.tup (ns.map D.int)) L = .ok (.bl true) L := fun L => by simp [isiT, tyName, isiB, tysB]
      simp only [List.map_cons, List.map_nil] at q1
      simp [b_p_law_ub_made, v, hk, hj, z, z2, hl, h0, np, it, listD, al, fa, sq1, q1, v1, v2]
def ownN (R : List (List A)) (d e s t : Nat) : List Int := ((R.map fun _ => (10000000000000000 : Int)).set d 7).set e (gapO (ro R d) (ro R e) s t + 7)
theorem v_own (h : Rect R m) (hk : k.arg = true) (hj : j.arg = true) {d e s t : Nat} (hd' : d < R.length) (he' : e < R.length) (hs : s < m) (ht : t < m) {a b : Int} (ha : ce (ro R d) t = some a) (hbb : ce (ro R e) s = some b) (L : List Int) :
    d_p_law_ub_own [mat k j R, .lst .fz [.int d, .int e, .int s, .int t]] L = .ok (.lst .ow [.lst .fz ((ownN R d e s t).map D.int), .int s, .int t]) L := by
  have hd := h.at hd'
  have he := h.at he'
  have a1 := at_ro (L := L) (k := k) (j := j) (R := R) hd'
  have a2 := at_ro (L := L) (k := k) (j := j) (R := R) he'
  have c1 := at_ce (L := L) (k := j) (r := ro R d) (i := s) (by omega)
  have c2 := at_ce (L := L) (k := j) (r := ro R d) (i := t) (by omega)
  have c3 := at_ce (L := L) (k := j) (r := ro R e) (i := s) (by omega)
  have c4 := at_ce (L := L) (k := j) (r := ro R e) (i := t) (by omega)
  rw [ha] at c2
  rw [hbb] at c3
  have n1 := h.n1
  obtain ⟨gp, hg⟩ : ∃ gp, gp = gapO (ro R d) (ro R e) s t := ⟨_, rfl⟩
  have st1 : ∀ k' : DS, dSeq (dSet 6 (dC (.int 0))) (dSeq (dIfS (dTst (dBin isNotD (dBin ixD (dBin ixD (dVar 0) (dVar 2)) (dVar 4)) (dC .non))) (dSet 6 (dBin subD (dBin ixD (dBin ixD (dVar 0) (dVar 2)) (dVar 4)) (dBin ixD (dBin ixD (dVar 0) (dVar 3)) (dVar 4)))) (dIfS (dTst (dBin isNotD (dBin ixD (dBin ixD (dVar 0) (dVar 3)) (dVar 5)) (dC .non))) (dSet 6 (dBin subD (dBin ixD (dBin ixD (dVar 0) (dVar 2)) (dVar 5)) (dBin ixD (dBin ixD (dVar 0) (dVar 3)) (dVar 5)))) dNext)) k')
      [some (mat k j R), some (.lst .fz [.int d, .int e, .int s, .int t]), some (.int d), some (.int e), some (.int s), some (.int t), none, none, none] L =
      k' [some (mat k j R), some (.lst .fz [.int d, .int e, .int s, .int t]), some (.int d), some (.int e), some (.int s), some (.int t), some (.int gp), none, none] L := by
    intro k'
    rw [hg]
    unfold gapO
    cases q1 : ce (ro R d) s with
    | some x => rw [q1] at c1; simp [hk, hj, a1, a2, c1, c3, hbb]
    | none =>
      rw [q1] at c1
      cases q2 : ce (ro R e) t with
      | some y => rw [q2] at c4; simp [hk, hj, a1, a2, c1, c2, c4, ha]
      | none => rw [q2] at c4; simp [hk, hj, a1, a2, c1, c4]
  have lc := lc_on (own := [8]) (p := .nm 8) (de := c_p_law_ub_own_1) (env := [some (mat k j R), some (.lst .fz [.int d, .int e, .int s, .int t]), some (.int d), some (.int e), some (.int s), some (.int t), some (.int gp), none, none]) (h := row j) (ys := R) (L := L) (fun _ => .int 10000000000000000) (by
    intro r hr
    simp [lcTurn, wipeE, c_p_law_ub_own_1, hj])
  have e0 : R.map (fun _ => D.int 10000000000000000) = (R.map fun _ => (10000000000000000 : Int)).map D.int := by rw [List.map_map]; rfl
  rw [e0] at lc
  have en : ownN R d e s t = ((R.map fun _ => (10000000000000000 : Int)).set d 7).set e (gp + 7) := by rw [hg]; rfl
  rw [en]
  obtain ⟨n0, hn0⟩ : ∃ n0, n0 = R.map fun _ => (10000000000000000 : Int) := ⟨_, rfl⟩
  have ln0 : n0.length = R.length := by rw [hn0]; simp
  rw [← hn0] at lc ⊢
  have o1 : okLen (R.length + 1) = true := okLen_le (by omega)
  have sv1 := setIx_ints (L := L) (i := 7) (a := dVar 2) (e := dC (.int 7)) (env := [some (mat k j R), some (.lst .fz [.int d, .int e, .int s, .int t]), some (.int d), some (.int e), some (.int s), some (.int t), some (.int gp), some (.lst .ow (n0.map D.int)), none]) (l := n0) (s := d) (v := 7) rfl (by simp) (by simp) (by omega)
  have sv2 := setIx_ints (L := L) (i := 7) (a := dVar 3) (e := dBin addD (dVar 6) (dC (.int 7))) (env := [some (mat k j R), some (.lst .fz [.int d, .int e, .int s, .int t]), some (.int d), some (.int e), some (.int s), some (.int t), some (.int gp), some (.lst .ow ((n0.set d 7).map D.int)), none]) (l := n0.set d 7) (s := e) (v := gp + 7) rfl (by simp) (by simp) (by simp; omega)
  simp only [List.set_cons_succ, List.set_cons_zero] at sv1 sv2
  have i0 : ∀ x y z w : D, ixD (.lst .fz [x, y, z, w]) (.int 0) L = .ok x L := fun x y z w => rfl
  have i1 : ∀ x y z w : D, ixD (.lst .fz [x, y, z, w]) (.int 1) L = .ok y L := fun x y z w => rfl
  have i2 : ∀ x y z w : D, ixD (.lst .fz [x, y, z, w]) (.int 2) L = .ok z L := fun x y z w => rfl
  have i3 : ∀ x y z w : D, ixD (.lst .fz [x, y, z, w]) (.int 3) L = .ok w L := fun x y z w => rfl
  have o3 : okLen 3 = true := okLen_le (by omega)
  generalize (n0.set d 7).set e (gp + 7) = n2 at sv2 ⊢
  refine body_ret (env := [some (mat k j R), some (.lst .fz [.int d, .int e, .int s, .int t]), none, none, none, none, none, none, none]) ?_ (by simp)
  unfold b_p_law_ub_own
  rw [seq_nx (L1 := L) (env1 := [some (mat k j R), some (.lst .fz [.int d, .int e, .int s, .int t]), some (.int d), none, none, none, none, none, none]) (by simp [i0])]
  rw [seq_nx (L1 := L) (env1 := [some (mat k j R), some (.lst .fz [.int d, .int e, .int s, .int t]), some (.int d), some (.int e), none, none, none, none, none]) (by simp [i1])]
  rw [seq_nx (L1 := L) (env1 := [some (mat k j R), some (.lst .fz [.int d, .int e, .int s, .int t]), some (.int d), some (.int e), some (.int s), none, none, none, none]) (by simp [i2])]
  rw [seq_nx (L1 := L) (env1 := [some (mat k j R), some (.lst .fz [.int d, .int e, .int s, .int t]), some (.int d), some (.int e), some (.int s), some (.int t), none, none, none]) (by simp [i3])]
  rw [st1]
  rw [seq_nx (L1 := L) (env1 := [some (mat k j R), some (.lst .fz [.int d, .int e, .int s, .int t]), some (.int d), some (.int e), some (.int s), some (.int t), some (.int gp), some (.lst .ow (n0.map D.int)), none]) (by simp [hk, hj, lc, o1])]
  rw [seq_nx sv1, seq_nx sv2]
  simp [o3]
end
end Pk

set_option Elab.async false
set_option linter.all false
set_option maxRecDepth 100000
set_option maxHeartbeats 4000000
namespace Pk
open PySem PySem.Spec PyProof.Rows L2 Qd
theorem setIx_intsL {L L1 : List Int} {i : Nat} {a e : DE} {env : Qd.Env} {l : List Int} {s : Nat} {v : Int} (he : env[i]? = some (some (.lst .ow (l.map D.int)))) (ee : e env L = .ok (.int v) L1) (ea : a env L1 = .ok (.int s) L1) (hs : s < l.length) :
    dSetIx i a e env L = .nx (env.set i (some (.lst .ow ((l.set s v).map D.int)))) L1 := by
  unfold dSetIx
  rw [he]
  simp [ee, ea, ixN_nat hs, List.map_set]
theorem cut_ints (ns : List Int) (lo hi : Option Int) : ∃ l : List Int, Qd.cutD (ns.map D.int) lo hi = l.map D.int := by
  unfold Qd.cutD
  exact ⟨_, by rw [← List.map_drop, ← List.map_take]⟩
variable {L : List Int}
@[simp] theorem dSl_to {a b : DE} {env : Qd.Env} : dSl a none (some b) env L = (a env L).bindF fun x L1 => (b env L1).bindF fun y L2 => match y with
  | .int i => slD none (some i) x L2
  | _ => .stuck := (rfl)
def tr (q : List Int × Int × Int) : D := .lst .fz [.lst .fz (q.1.map D.int), .int q.2.1, .int q.2.2]
theorem fz_tr (q : List Int × Int × Int) : okf isArg (tr q) = true := by simp [tr]
section
variable {R : List (List A)} {m : Nat} {k j : Sk}
theorem v_spoilt (h : Rect R m) (hk : k.arg = true) (hj : j.arg = true) (ns : List Int) (lo up : Int) (hn : ns.length = R.length) (L : List Int) :
    ∃ L', d_p_law_ub_spoilt [tab .fz R m, mat k j R, .lst .fz [.lst .fz (ns.map D.int), .int lo, .int up], .tok] L = .ok (.bl true) L' := by
  have n0 := h.n0
  have n1 := h.n1
  have o3 : okLen 3 = true := okLen_le (by omega)
  have o5 : okLen 5 = true := okLen_le (by omega)
  obtain ⟨pl, L1, e1, p0, p1⟩ := v_next (R.length : Int) (by omega) L
  obtain ⟨pl, rfl⟩ : ∃ i : Nat, pl = i := ⟨pl.toNat, by omega⟩
  obtain ⟨w, L2, e2, w0, w1⟩ := v_next 4 (by omega) L1
  obtain ⟨w, rfl⟩ : ∃ i : Nat, w = i := ⟨w.toNat, by omega⟩
  obtain ⟨dl, hdl⟩ := get_of (l := [1, -1, 100000000000000000, -100000000000000000]) (i := w) (by simp; omega)
  have q := ix_ints' (f := .fz) (L := L2) hdl
  simp only [List.map_cons, List.map_nil] at q
  have g := at_gI (f := .lo) (L := L1) (l := ns) (i := pl) (by omega)
  have a0 := at_ro0 (L := L2) (k := k) (j := j) h.n0
  have h0 := h.at h.n0
  obtain ⟨own, hown⟩ : ∃ own : D, own = .lst .fz [.lst .fz (ns.map D.int), .int lo, .int up] := ⟨_, rfl⟩
  have ao : okf isArg own = true := by rw [hown]; simp
  have z1 := lk_arg ao
  have z2 := fz_arg' ao
  have i0 : ∀ x y z : D, ∀ L, ixD (.lst .fz [x, y, z]) (.int 0) L = .ok x L := fun x y z L => rfl
  have i1 : ∀ x y z : D, ∀ L, ixD (.lst .fz [x, y, z]) (.int 1) L = .ok y L := fun x y z L => rfl
  have i2 : ∀ x y z : D, ∀ L, ixD (.lst .fz [x, y, z]) (.int 2) L = .ok z L := fun x y z L => rfl
  have j0 : ∀ L, ixD own (.int 0) L = .ok (.lst .fz (ns.map D.int)) L := fun L => by rw [hown]; rfl
  have j1 : ∀ L, ixD own (.int 1) L = .ok (.int lo) L := fun L => by rw [hown]; rfl
  have j2 : ∀ L, ixD own (.int 2) L = .ok (.int up) L := fun L => by rw [hown]; rfl
  rw [← hown]
  have sv := setIx_intsL (L := L1) (L1 := L2) (i := 8) (a := dVar 7) (e := (dBin addD (dBin ixD (dVar 8) (dVar 7)) (dBin ixD (dApp lstD (dCons (dC (.int 1)) (dCons (dUn negD (dC (.int 1))) (dCons (dBin powD (dC (.int 10)) (dC (.int 17))) (dCons (dUn negD (dBin powD (dC (.int 10)) (dC (.int 17)))) dNil))))) (dCall 2 d_p_law_next (dCons (dVar 3) (dCons (dC (.int 4)) dNil))))))
    (env := [some (tab .fz R m), some (mat k j R), some own, some .tok, some (.lst .fz (ns.map D.int)), some (.int lo), some (.int up), some (.int pl), some (.lst .ow (ns.map D.int)), none, none, none]) (l := ns) (s := pl) (v := gI ns pl + dl) rfl (by
      simp [g, e2, q]) (by simp) (by omega)
  simp only [List.set_cons_succ, List.set_cons_zero] at sv
  obtain ⟨ch, hch⟩ : ∃ ch : List Int, ch = ns.set pl (gI ns pl + dl) := ⟨_, rfl⟩
  rw [← hch] at sv
  obtain ⟨cu, hcu⟩ := cut_ints ns none (some (ns.length - 1 : Int))
  have al := addD_lst (L := L2) (f := .fz) (g := .fz) (xs := ns.map D.int) (ys := [D.int 0]) (okLen_le (by simp; omega)) rfl rfl (by simp) (by simp)
  have eal : ns.map D.int ++ [D.int 0] = (ns ++ [0]).map D.int := by simp
  rw [eal] at al
  have sl : slD none (some (ns.length - 1 : Int)) (.lst .fz (ns.map D.int)) L2 = .ok (.lst .ow (cu.map D.int)) L2 := by
    show (if okfs isFz (Qd.cutD (ns.map D.int) none (some (ns.length - 1 : Int))) then Res.ok (D.lst .ow (Qd.cutD (ns.map D.int) none (some (ns.length - 1 : Int)))) L2 else .stuck) = _
    rw [hcu]
    simp
  obtain ⟨ts, hts⟩ : ∃ ts : List (List Int × Int × Int), ts = [(ns, up, lo), (ns, lo, lo), (ns, -1, up), (ns, lo, (m : Int)), (ns ++ [0], lo, up), (cu, lo, up), ([], lo, up), (ch, lo, up)] := ⟨_, rfl⟩
  have lt : ∀ n : Nat, n ≤ 1000 → okLen n = true := fun n h => okLen_le (by omega)
  obtain ⟨e', L', q1, y, e1', e2'⟩ := loop_on (p := .nm 10) (body := l_p_law_ub_spoilt_1) (h := tr) (ys := ts) (L := L2) (env := [some (tab .fz R m), some (mat k j R), some own, some .tok, some (.lst .fz (ns.map D.int)), some (.int lo), some (.int up), some (.int pl), some (.lst .fz (ch.map D.int)), some (.lst .fz (ts.map tr)), none, none])
    (fun i env L' => ∃ y, env = [some (tab .fz R m), some (mat k j R), some own, some .tok, some (.lst .fz (ns.map D.int)), some (.int lo), some (.int up), some (.int pl), some (.lst .fz (ch.map D.int)), some (.lst .fz (ts.map tr)), y, none] ∧ L' = L2) (by
      rintro i vv hv env L' ⟨y, rfl, rfl⟩
      have v := v_judged h hk hj (f := .fz) rfl (ns := vv.1) vv.2.1 vv.2.2 L'
      refine Nx_intro ⟨[some (tab .fz R m), some (mat k j R), some own, some .tok, some (.lst .fz (ns.map D.int)), some (.int lo), some (.int up), some (.int pl), some (.lst .fz (ch.map D.int)), some (.lst .fz (ts.map tr)), some (tr vv), none], L', ?_, _, rfl, rfl⟩
      have nl : okf notLo (tr vv) = true := nlo_arg (fz_tr vv)
      have z3 := lk_arg (fz_tr vv)
      have z4 := fz_arg' (fz_tr vv)
      have t0 : ∀ L, ixD (tr vv) (.int 0) L = .ok (.lst .fz (vv.1.map D.int)) L := fun L => rfl
      have t1 : ∀ L, ixD (tr vv) (.int 1) L = .ok (.int vv.2.1) L := fun L => rfl
      have t2 : ∀ L, ixD (tr vv) (.int 2) L = .ok (.int vv.2.2) L := fun L => rfl
      simp [turn, l_p_law_ub_spoilt_1, hk, hj, nl, z3, z4, t0, t1, t2, v]) ⟨none, rfl, rfl⟩
  subst e1'
  rw [e2'] at q1
  obtain ⟨xs, hxs⟩ : ∃ xs : List D, xs = [.non, .bl true, .tup [.tup (ns.map D.int), .int lo, .int up], .lst .fz [.lst .fz (ns.map D.int), .int lo, .int up], tab .fz R m] := ⟨_, rfl⟩
  obtain ⟨e'', L'', q2, y2, e1'', e2''⟩ := loop_on (p := .nm 11) (body := l_p_law_ub_spoilt_2) (h := id) (ys := xs) (L := L2) (env := [some (tab .fz R m), some (mat k j R), some own, some .tok, some (.lst .fz (ns.map D.int)), some (.int lo), some (.int up), some (.int pl), some (.lst .fz (ch.map D.int)), some (.lst .fz (ts.map tr)), y, none])
    (fun i env L'' => ∃ y2, env = [some (tab .fz R m), some (mat k j R), some own, some .tok, some (.lst .fz (ns.map D.int)), some (.int lo), some (.int up), some (.int pl), some (.lst .fz (ch.map D.int)), some (.lst .fz (ts.map tr)), y, y2] ∧ L'' = L2) (by
      rintro i vv hv env L3 ⟨y2, rfl, rfl⟩
      have mv := List.mem_of_getElem? hv
      rw [hxs] at mv
      have arg : okf isArg vv = true := by
        simp only [List.mem_cons, List.not_mem_nil, or_false] at mv
        rcases mv with rfl | rfl | rfl | rfl | rfl <;> simp [tab]
      have z3 := lk_arg arg
      have z4 := fz_arg' arg
      have z5 := nlo_arg arg
      have z6 := bw_arg arg
      have no : isiC pkClasses "Unbent" (fz (lk vv)) L3 = .ok (.bl false) L3 := by
        rw [z3, z4]
        simp only [List.mem_cons, List.not_mem_nil, or_false] at mv
        rcases mv with rfl | rfl | rfl | rfl | rfl <;> simp
      have v := v_shows_no (R := R) (m := m) vv no z5
      exact Nx_intro ⟨[some (tab .fz R m), some (mat k j R), some own, some .tok, some (.lst .fz (ns.map D.int)), some (.int lo), some (.int up), some (.int pl), some (.lst .fz (ch.map D.int)), some (.lst .fz (ts.map tr)), y, some vv], L3, by simp [turn, l_p_law_ub_spoilt_2, z3, z4, z5, z6, v], _, rfl, rfl⟩) ⟨none, rfl, rfl⟩
  subst e1''
  rw [e2''] at q2
  rw [List.map_id] at q2
  have at' : okfs isArg (ts.map tr) = true := by
    rw [hts]
    simp only [List.map_cons, List.map_nil, okfs_cons, fz_tr, okfs_nil, Bool.and_self]
  refine ⟨L2, body_ret (env := [some (tab .fz R m), some (mat k j R), some own, some .tok, none, none, none, none, none, none, none, none]) ?_ (by simp)⟩
  unfold b_p_law_ub_spoilt
  have nlo : okf notLo own = true := nlo_arg ao
  rw [seq_nx (L1 := L) (env1 := [some (tab .fz R m), some (mat k j R), some own, some .tok, some (.lst .fz (ns.map D.int)), none, none, none, none, none, none, none]) (by simp [z1, z2, j0])]
  rw [seq_nx (L1 := L) (env1 := [some (tab .fz R m), some (mat k j R), some own, some .tok, some (.lst .fz (ns.map D.int)), some (.int lo), none, none, none, none, none, none]) (by simp [z1, z2, j1])]
  rw [seq_nx (L1 := L) (env1 := [some (tab .fz R m), some (mat k j R), some own, some .tok, some (.lst .fz (ns.map D.int)), some (.int lo), some (.int up), none, none, none, none, none]) (by simp [z1, z2, j2])]
  rw [seq_nx (L1 := L1) (env1 := [some (tab .fz R m), some (mat k j R), some own, some .tok, some (.lst .fz (ns.map D.int)), some (.int lo), some (.int up), some (.int pl), none, none, none, none]) (by simp [hk, hj, e1])]
  rw [seq_nx (L1 := L1) (env1 := [some (tab .fz R m), some (mat k j R), some own, some .tok, some (.lst .fz (ns.map D.int)), some (.int lo), some (.int up), some (.int pl), some (.lst .ow (ns.map D.int)), none, none, none]) (by simp [listD])]
  rw [seq_nx sv]
  rw [seq_nx (L1 := L2) (env1 := [some (tab .fz R m), some (mat k j R), some own, some .tok, some (.lst .fz (ns.map D.int)), some (.int lo), some (.int up), some (.int pl), some (.lst .ow (ch.map D.int)), some (.lst .ow [tr (ns, up, lo), tr (ns, lo, lo), tr (ns, -1, up), tr (ns, lo, (m : Int))]), none, none]) (by
    simp [hk, hj, a0, h0, o3, tr])]
  rw [seq_nx (L1 := L2) (env1 := [some (tab .fz R m), some (mat k j R), some own, some .tok, some (.lst .fz (ns.map D.int)), some (.int lo), some (.int up), some (.int pl), some (.lst .ow (ch.map D.int)), some (.lst .ow [tr (ns, up, lo), tr (ns, lo, lo), tr (ns, -1, up), tr (ns, lo, (m : Int)), tr (ns ++ [0], lo, up)]), none, none]) (by
    have o5' : okLen (4 + 1) = true := okLen_le (by omega)
    have oa : ∀ p : Fl → Bool, okfs p (ns.map D.int ++ [D.int 0]) = true := fun p => okfs_app _ _ (by simp : okfs p (ns.map D.int) = true) (by simp : okfs p [D.int 0] = true)
    have fa : fzs (ns.map D.int ++ [D.int 0]) = ns.map D.int ++ [D.int 0] := fzs_arg (oa isArg)
    simp [al, o3, o5, o5', tr, oa, fa])]
  rw [seq_nx (L1 := L2) (env1 := [some (tab .fz R m), some (mat k j R), some own, some .tok, some (.lst .fz (ns.map D.int)), some (.int lo), some (.int up), some (.int pl), some (.lst .ow (ch.map D.int)), some (.lst .ow [tr (ns, up, lo), tr (ns, lo, lo), tr (ns, -1, up), tr (ns, lo, (m : Int)), tr (ns ++ [0], lo, up), tr (cu, lo, up)]), none, none]) (by
    simp [sl, o3, tr])]
  rw [seq_nx (L1 := L2) (env1 := [some (tab .fz R m), some (mat k j R), some own, some .tok, some (.lst .fz (ns.map D.int)), some (.int lo), some (.int up), some (.int pl), some (.lst .ow (ch.map D.int)), some (.lst .ow [tr (ns, up, lo), tr (ns, lo, lo), tr (ns, -1, up), tr (ns, lo, (m : Int)), tr (ns ++ [0], lo, up), tr (cu, lo, up), tr ([], lo, up)]), none, none]) (by
    simp [o3, lt, tr])]
  rw [seq_nx (L1 := L2) (env1 := [some (tab .fz R m), some (mat k j R), some own, some .tok, some (.lst .fz (ns.map D.int)), some (.int lo), some (.int up), some (.int pl), some (.lst .fz (ch.map D.int)), some (.lst .ow [tr (ns, up, lo), tr (ns, lo, lo), tr (ns, -1, up), tr (ns, lo, (m : Int)), tr (ns ++ [0], lo, up), tr (cu, lo, up), tr ([], lo, up), tr (ch, lo, up)]), none, none]) (by
    simp [o3, lt, tr])]
  have ew : [tr (ns, up, lo), tr (ns, lo, lo), tr (ns, -1, up), tr (ns, lo, (m : Int)), tr (ns ++ [0], lo, up), tr (cu, lo, up), tr ([], lo, up), tr (ch, lo, up)] = ts.map tr := by rw [hts]; rfl
  rw [ew]
  have zt : fzs (ts.map tr) = ts.map tr := fzs_arg at'
  have zl : lks (ts.map tr) = ts.map tr := lks_arg at'
  have nt : okfs notLo (ts.map tr) = true := (okf_imp arg_nlo).2 _ at'
  have sq1 : seqOf (.lst .fz (ts.map tr)) = some (ts.map tr) := by simp [seqOf, at']
  rw [seq_nx (L1 := L2) (env1 := [some (tab .fz R m), some (mat k j R), some own, some .tok, some (.lst .fz (ns.map D.int)), some (.int lo), some (.int up), some (.int pl), some (.lst .fz (ch.map D.int)), some (.lst .fz (ts.map tr)), y, none]) (by
    simp [zt, zl, nt, sq1, q1])]
  have sq2 : seqOf (.lst .fz xs) = some xs := by rw [hxs]; simp [seqOf, tab]
  rw [hxs] at sq2 q2
  rw [seq_nx (L1 := L2) (env1 := [some (tab .fz R m), some (mat k j R), some own, some .tok, some (.lst .fz (ns.map D.int)), some (.int lo), some (.int up), some (.int pl), some (.lst .fz (ch.map D.int)), some (.lst .fz (ts.map tr)), y, y2]) (by
    have tu : tupleD [.lst .fz (ns.map D.int)] L2 = .ok (.tup (ns.map D.int)) L2 := by simp [tupleD]
    have ft : okf isFz (tab .fz R m) = true := by simp [tab]
    simp [tu, listD, o3, o5, ft, sq2, q2])]
  simp
end
end Pk

set_option Elab.async false
set_option linter.all false
set_option maxRecDepth 100000
set_option maxHeartbeats 4000000
namespace Pk
open PySem PySem.Spec PyProof.Rows L2 Qd
def restR : DS := (dSeq (dIfS (dTOr (dTst (dBin neD (dCall 3 d_p_law_ub_refused (dCons (dC (.str "12")) (dCons (dVar 1) (dCons (dVar 1) dNil)))) (dC (.str "numbers")))) (dTst (dBin neD (dCall 3 d_p_law_ub_refused (dCons (dC .non) (dCons (dC (.int 0)) (dCons (dC (.int 1)) dNil)))) (dC (.str "numbers"))))) (dRet (dC (.bl false))) dNext) (dSeq (dIfS (dTOr (dTst (dBin neD (dCall 3 d_p_law_ub_refused (dCons (dApp lstD (dCons (dC (.int 0)) (dCons (dVar 1) dNil))) (dCons (dVar 1) (dCons (dC (.int 1)) dNil)))) (dC (.str "numbers")))) (dTst (dBin neD (dCall 3 d_p_law_ub_refused (dCons (dApp tupD (dCons (dVar 1) (dCons (dC (.int 0)) dNil))) (dCons (dC (.int 0)) (dCons (dC (.int 1)) dNil)))) (dC (.str "numbers"))))) (dRet (dC (.bl false))) dNext) (dSeq (dIfS (dTOr (dTst (dBin neD (dCall 3 d_p_law_ub_refused (dCons (dApp lstD (dCons (dC (.int 0)) dNil)) (dCons (dVar 1) (dCons (dVar 1) dNil)))) (dC (.str "lower")))) (dTst (dBin neD (dCall 3 d_p_law_ub_refused (dCons (dApp tupD dNil) (dCons (dC (.int 0)) (dCons (dVar 1) dNil)))) (dC (.str "upper"))))) (dRet (dC (.bl false))) dNext) (dSeq (dIfS (dTst (dBin neD (dCall 3 d_p_law_ub_refused (dCons (dApp lstD (dCons (dC (.int 0)) (dCons (dC (.int 5)) dNil))) (dCons (dUn negD (dC (.int 3))) (dCons (dBin powD (dC (.int 10)) (dC (.int 12))) dNil)))) (dC (.str "none")))) (dRet (dC (.bl false))) dNext) (dSeq (dSet 2 (dC (.bl false))) (dSeq (dTry y_p_law_ub_refusals_1 [⟨(some 3), "SureError", ["BadDeed", "BadPaper", "BadRow"], [], h_p_law_ub_refusals_1⟩]) (dRetMv 2)))))))
theorem rest0 (L : List Int) : restR [some .tok, some .non, none, none] L = .ret (.bl true) L := by kernel_rfl
theorem rest1 (L : List Int) : restR [some .tok, some (.bl true), none, none] L = .ret (.bl true) L := by kernel_rfl
theorem rest2 (L : List Int) : restR [some .tok, some (.str "1"), none, none] L = .ret (.bl true) L := by kernel_rfl
theorem rest3 (L : List Int) : restR [some .tok, some (.tup [.int 1]), none, none] L = .ret (.bl true) L := by kernel_rfl
theorem v_refusals (L : List Int) : ∃ L', d_p_law_ub_refusals [.tok] L = .ok (.bl true) L' := by
  obtain ⟨w, L1, e1, w0, w1⟩ := v_next 4 (by omega) L
  have eb : b_p_law_ub_refusals = dSeq (dSet 1 (dBin ixD (dApp lstD (dCons (dC .non) (dCons (dC (.bl true)) (dCons (dC (.str "1")) (dCons (dApp tupD (dCons (dC (.int 1)) dNil)) dNil))))) (dCall 2 d_p_law_next (dCons (dVar 0) (dCons (dC (.int 4)) dNil))))) restR := rfl
  have i0 : ixD (.lst .fz [.non, .bl true, .str "1", .tup [.int 1]]) (.int 0) L1 = .ok .non L1 := rfl
  have i1 : ixD (.lst .fz [.non, .bl true, .str "1", .tup [.int 1]]) (.int 1) L1 = .ok (.bl true) L1 := rfl
  have i2 : ixD (.lst .fz [.non, .bl true, .str "1", .tup [.int 1]]) (.int 2) L1 = .ok (.str "1") L1 := rfl
  have i3 : ixD (.lst .fz [.non, .bl true, .str "1", .tup [.int 1]]) (.int 3) L1 = .ok (.tup [.int 1]) L1 := rfl
  refine ⟨L1, body_ret (env := [some .tok, none, none, none]) ?_ (by simp)⟩
  rw [eb]
  have hw : w = 0 ∨ w = 1 ∨ w = 2 ∨ w = 3 := by omega
  rcases hw with rfl | rfl | rfl | rfl
  · rw [seq_nx (L1 := L1) (env1 := [some .tok, some .non, none, none]) (by simp [e1, i0])]
    exact rest0 L1
  · rw [seq_nx (L1 := L1) (env1 := [some .tok, some (.bl true), none, none]) (by simp [e1, i1])]
    exact rest1 L1
  · rw [seq_nx (L1 := L1) (env1 := [some .tok, some (.str "1"), none, none]) (by simp [e1, i2])]
    exact rest2 L1
  · rw [seq_nx (L1 := L1) (env1 := [some .tok, some (.tup [.int 1]), none, none]) (by simp [e1, i3])]
    exact rest3 L1
theorem v_kept (L : List Int) : ∃ L', d_p_law_ub_kept [.tok] L = .ok (.bl true) L' := by
  obtain ⟨w, L1, e1, w0, w1⟩ := v_next 9 (by omega) L
  have vu := v_uinit (k := .l .bo) rfl [w - 4, 3] 2 (-1) L1
  have sx := setIx_ints (L := L1) (i := 1) (a := dC (.int 0)) (e := dC (.int 99)) (env := [some .tok, some (.lst .ow ([w - 4, 3].map D.int)), some (.tup [.int (w - 4), .int 3]), some (pap .fz [w - 4, 3] 2 (-1))]) (l := [w - 4, 3]) (s := 0) (v := 99) rfl (by simp) (by simp) (by simp)
  simp only [List.map_cons, List.map_nil, List.set_cons_zero, List.set_cons_succ, sq] at vu sx
  have np : okf notLo (pap .fz [w - 4, 3] 2 (-1)) = true := okf_pap rfl
  have it : ∀ L, isiT ["tuple"] (.tup [.int (w - 4), .int 3]) L = .ok (.bl true) L := fun L => by simp [isiT, tyName, isiB, tysB]
  have eq : ∀ L, eqD (.tup [.int (w - 4), .int 3]) (.tup [.int (w - 4), .int 3]) L = .ok (.bl true) L := fun L => by simp [eqD, plainN, plainNs, eqd, eqds]
  have o3 : okLen 3 = true := okLen_le (by omega)
  refine ⟨L1, body_ret (env := [some .tok, none, none, none]) ?_ (by simp)⟩
  unfold b_p_law_ub_kept
  rw [seq_nx (L1 := L1) (env1 := [some .tok, some (.lst .ow [.int (w - 4), .int 3]), none, none]) (by simp [e1])]
  rw [seq_nx (L1 := L1) (env1 := [some .tok, some (.lst .ow [.int (w - 4), .int 3]), some (.tup [.int (w - 4), .int 3]), none]) (by simp [tupleD])]
  rw [seq_nx (L1 := L1) (env1 := [some .tok, some (.lst .ow [.int (w - 4), .int 3]), some (.tup [.int (w - 4), .int 3]), some (pap .fz [w - 4, 3] 2 (-1))]) (by simp [callK_plain, vu, np])]
  rw [seq_nx sx]
  simp [o3, it, eq]
end Pk

set_option Elab.async false
set_option linter.all false
set_option maxRecDepth 100000
set_option maxHeartbeats 4000000
namespace Pk
open PySem PySem.Spec PyProof.Rows L2 Qd
/-! ### bounds of amounts -/
def bd (a : A) : Prop := ∀ v, a = some v → -100000000000000 ≤ v ∧ v ≤ 100000000000000
theorem bd_none : bd none := fun _ h => nomatch h
theorem bd_app {r : List A} {a : A} (h : ∀ a ∈ r, bd a) (ha : bd a) : ∀ b ∈ r ++ [a], bd b := fun b hb => by
  rcases List.mem_append.mp hb with q | q
  · exact h b q
  · rw [List.mem_singleton.mp q]; exact ha
theorem bd_mul {c sc : Int} (h0 : 0 ≤ c) (h1 : c ≤ 9) (hsc : 0 ≤ sc ∧ sc ≤ 1000000000000) : bd (some (c * sc)) := fun v h => by
  cases h
  have a1 : c * sc ≤ 9 * 1000000000000 := Int.mul_le_mul h1 hsc.2 hsc.1 (by omega)
  have a2 : 0 ≤ c * sc := Int.mul_nonneg h0 hsc.1
  omega
theorem bd_mul2 {c sc : Int} (h0 : -100 ≤ c) (h1 : c ≤ 100) (hsc : 0 ≤ sc ∧ sc ≤ 1000000000000) : bd (some (c * sc)) := fun v h => by
  cases h
  have a1 : c * sc ≤ 100 * sc := Int.mul_le_mul_of_nonneg_right h1 hsc.1
  have a2 : -100 * sc ≤ c * sc := Int.mul_le_mul_of_nonneg_right h0 hsc.1
  omega
theorem bd_if {b : Bool} {a : A} (h : bd a) : bd (if b then none else a) := by
  cases b
  · exact h
  · exact bd_none
theorem bd_ce {R : List (List A)} (hB : ∀ r ∈ R, ∀ a ∈ r, bd a) {d s : Nat} (hd : d < R.length) (hs : s < (ro R d).length) : bd (ce (ro R d) s) := by
  refine hB (ro R d) ?_ _ ?_
  · unfold ro
    rw [List.getD_eq_getElem?_getD, List.getElem?_eq_getElem hd]
    exact List.getElem_mem hd
  · unfold ce
    rw [List.getD_eq_getElem?_getD, List.getElem?_eq_getElem hs]
    exact List.getElem_mem hs
/-! ### free tables -/
theorem t_free1B (sc s : Int) (hsc : 0 ≤ sc ∧ sc ≤ 1000000000000) (r : List A) (hr : r.length ≤ 1000) (x1 x2 x4 x5 x7 x8 x9 : Option D) (L : List Int) :
    ∃ (a : A) (y8 y9 : Option D) (L' : List Int), bd a ∧ turn (.nm 7) l_p_law_bt_free_1 (.int s) [some .tok, x1, x2, some (.int sc), x4, x5, some (.lst .ow (r.map aD)), x7, x8, x9] L = .nx [some .tok, x1, x2, some (.int sc), x4, x5, some (.lst .ow ((r ++ [a]).map aD)), some (.int s), y8, y9] L' := by
  obtain ⟨w, L1, e1, w0, w1⟩ := v_next 8 (by omega) L
  obtain ⟨c, L2, e2, c0, c1⟩ := v_next 10 (by omega) L1
  have o : okLen (r.length + 1) = true := okLen_le (by omega)
  by_cases hw : w = 7
  · subst hw
    exact ⟨none, some (.int 7), some (.int c), L2, bd_none, by simp [turn, l_p_law_bt_free_1, e1, e2, o]⟩
  · have hm : mulOk c sc = true := mul_l (by omega) (by omega)
    exact ⟨some (c * sc), some (.int w), some (.int c), L2, bd_mul (by omega) (by omega) hsc, by simp [turn, l_p_law_bt_free_1, e1, e2, o, hw, hm]⟩
theorem t_free2B (sc d : Int) (hsc : 0 ≤ sc ∧ sc ≤ 1000000000000) (m : Nat) (hm : m ≤ 1000) (acc : List (List A)) (ha : acc.length ≤ 1000) (x1 x5 x6 x7 x8 x9 : Option D) (L : List Int) :
    ∃ (r : List A) (y7 y8 y9 : Option D) (L' : List Int), r.length = m ∧ (∀ a ∈ r, bd a) ∧ turn (.nm 5) l_p_law_bt_free_2 (.int d) [some .tok, x1, some (.int m), some (.int sc), some (.lst .ow (acc.map rw)), x5, x6, x7, x8, x9] L =
      .nx [some .tok, x1, some (.int m), some (.int sc), some (.lst .ow ((acc ++ [r]).map rw)), some (.int d), none, y7, y8, y9] L' := by
  obtain ⟨e, L', q1, r, y7, y8, y9, hr, hb, e1⟩ := loop_to (p := .nm 7) (body := l_p_law_bt_free_1) (lo := 0) (n := m) (env := [some .tok, x1, some (.int m), some (.int sc), some (.lst .ow (acc.map rw)), some (.int d), some (.lst .ow []), x7, x8, x9]) (L := L)
    (fun k env _ => ∃ (r : List A) (y7 y8 y9 : Option D), r.length = k ∧ (∀ a ∈ r, bd a) ∧ env = [some .tok, x1, some (.int m), some (.int sc), some (.lst .ow (acc.map rw)), some (.int d), some (.lst .ow (r.map aD)), y7, y8, y9]) (by
      rintro k hk env L' ⟨r, y7, y8, y9, hr, hb, rfl⟩
      obtain ⟨a, z8, z9, L2, ba, e⟩ := t_free1B sc ((0 : Int) + ((k : Nat) : Int)) hsc r (by omega) x1 (some (.int m)) (some (.lst .ow (acc.map rw))) (some (.int d)) y7 y8 y9 L'
      rw [e]
      exact ⟨r ++ [a], _, _, _, by simp [hr], bd_app hb ba, rfl⟩) ⟨[], _, _, _, rfl, (fun _ m => nomatch m), rfl⟩
  subst e1
  have b : smallI (m : Int) = true := small_le hm
  have o : okLen (acc.length + 1) = true := okLen_le (by omega)
  refine ⟨r, y7, y8, y9, L', hr, hb, ?_⟩
  rw [← rw_app]
  simp [turn, l_p_law_bt_free_2, b, q1, o]
theorem t_free3B (sc : Int) (hsc : 0 ≤ sc ∧ sc ≤ 1000000000000) (n m : Nat) (hn : n ≤ 1000) (hm : m ≤ 1000) (k : Nat) (hk : k < n) (d : Int) (env : Qd.Env) (L : List Int)
    (i : ∃ (R : List (List A)) (y5 y6 y7 y8 y9 : Option D), R.length = k ∧ (∀ r ∈ R, r.length = m ∧ ∀ a ∈ r, bd a) ∧ env = [some .tok, some (.int n), some (.int m), some (.int sc), some (.lst .ow (R.map rw)), y5, y6, y7, y8, y9]) :
    Nx (turn (.nm 5) l_p_law_bt_free_2 (.int d) env L) fun env _ => ∃ (R : List (List A)) (y5 y6 y7 y8 y9 : Option D), R.length = k + 1 ∧ (∀ r ∈ R, r.length = m ∧ ∀ a ∈ r, bd a) ∧ env = [some .tok, some (.int n), some (.int m), some (.int sc), some (.lst .ow (R.map rw)), y5, y6, y7, y8, y9] := by
  obtain ⟨R, y5, y6, y7, y8, y9, hR, hr, rfl⟩ := i
  have hR' : R.length ≤ 1000 := by omega
  refine Nx_intro ?_
  obtain ⟨r, z7, z8, z9, L2, h, hb, e⟩ := t_free2B sc d hsc m hm R hR' (some (.int n)) y5 y6 y7 y8 y9 L
  refine ⟨_, _, e, R ++ [r], _, _, _, _, _, by simp [hR], fun q hq => ?_, rfl⟩
  rcases List.mem_append.mp hq with hq | hq
  · exact hr q hq
  · rw [List.mem_singleton.mp hq]; exact ⟨h, hb⟩
theorem v_freeB (sc : Int) (hsc : 0 ≤ sc ∧ sc ≤ 1000000000000) (n m : Nat) (hn : n ≤ 1000) (hm : m ≤ 1000) (L : List Int) : ∃ (R : List (List A)) (L' : List Int), R.length = n ∧ (∀ r ∈ R, r.length = m ∧ ∀ a ∈ r, bd a) ∧ d_p_law_bt_free [.tok, .int n, .int m, .int sc] L = .ok (.lst .ow (R.map rw)) L' := by
  obtain ⟨e, L', q1, R, y5, y6, y7, y8, y9, hR, hr, e1⟩ := loop_to (p := .nm 5) (body := l_p_law_bt_free_2) (lo := 0) (n := n) (env := [some .tok, some (.int n), some (.int m), some (.int sc), some (.lst .ow []), none, none, none, none, none]) (L := L)
    (fun k env _ => ∃ (R : List (List A)) (y5 y6 y7 y8 y9 : Option D), R.length = k ∧ (∀ r ∈ R, r.length = m ∧ ∀ a ∈ r, bd a) ∧ env = [some .tok, some (.int n), some (.int m), some (.int sc), some (.lst .ow (R.map rw)), y5, y6, y7, y8, y9])
    (fun k hk env L i => t_free3B sc hsc n m hn hm k hk _ env L i) ⟨[], none, none, none, none, none, rfl, (fun _ m => nomatch m), rfl⟩
  subst e1
  have b : smallI (n : Int) = true := small_le hn
  exact ⟨R, L', hR, hr, body_ret (env := [some .tok, some (.int n), some (.int m), some (.int sc), none, none, none, none, none, none]) (by simp [b_p_law_bt_free, b, q1]) (by simp [okfs_sto_rw])⟩
theorem t_cut1B {R : List (List A)} {m : Nat} (h : Rect R m) (hB : ∀ r ∈ R, ∀ a ∈ r, bd a) {k j : Sk} (hk : k.arg = true) (hj : j.arg = true) (w lo hi ch lt : Int) {d s : Nat} (hd : d < R.length) (hs : s < m) (r : List A) (hr : r.length ≤ 1000) (x7 x10 x11 : Option D) (L : List Int) :
    ∃ (a b : A), bd a ∧ turn (.nm 10) l_p_law_bt_cut_1 (.int (s : Nat)) [some .tok, some (mat k j R), some (.int w), some (.int lo), some (.int hi), some (.int ch), some (.int lt), x7, some (.int (d : Nat)), some (.lst .ow (r.map aD)), x10, x11] L =
      .nx [some .tok, some (mat k j R), some (.int w), some (.int lo), some (.int hi), some (.int ch), some (.int lt), x7, some (.int (d : Nat)), some (.lst .ow ((r ++ [a]).map aD)), some (.int (s : Nat)), some (aD b)] L := by
  have a1 := at_ro (L := L) (k := k) (j := j) hd
  have hd' := h.at hd
  have a2 := at_ce (L := L) (k := j) (r := ro R d) (i := s) (by omega)
  have o : okLen (r.length + 1) = true := okLen_le (by omega)
  have e0 : turn (.nm 10) l_p_law_bt_cut_1 (.int (s : Nat)) [some .tok, some (mat k j R), some (.int w), some (.int lo), some (.int hi), some (.int ch), some (.int lt), x7, some (.int (d : Nat)), some (.lst .ow (r.map aD)), x10, x11] L =
      l_p_law_bt_cut_1 [some .tok, some (mat k j R), some (.int w), some (.int lo), some (.int hi), some (.int ch), some (.int lt), x7, some (.int (d : Nat)), some (.lst .ow (r.map aD)), some (.int (s : Nat)), x11] L := by simp [turn]
  rw [e0]
  unfold l_p_law_bt_cut_1
  rw [seq_nx (L1 := L) (env1 := [some .tok, some (mat k j R), some (.int w), some (.int lo), some (.int hi), some (.int ch), some (.int lt), x7, some (.int (d : Nat)), some (.lst .ow (r.map aD)), some (.int (s : Nat)), some (aD (ce (ro R d) s))]) (by simp [hk, hj, a1, a2])]
  rw [seq_nx (st_cut (by simp; rfl))]
  rw [seq_nx (st_cut (by simp; rfl))]
  rw [seq_nx (st_cut (by simp; rfl))]
  have fin : ∀ b : A, dAppend 9 (dVar 11) [some .tok, some (mat k j R), some (.int w), some (.int lo), some (.int hi), some (.int ch), some (.int lt), x7, some (.int (d : Nat)), some (.lst .ow (r.map aD)), some (.int (s : Nat)), some (aD b)] L =
      .nx [some .tok, some (mat k j R), some (.int w), some (.int lo), some (.int hi), some (.int ch), some (.int lt), x7, some (.int (d : Nat)), some (.lst .ow ((r ++ [b]).map aD)), some (.int (s : Nat)), some (aD b)] L := fun b => by simp [o]
  exact ⟨_, _, bd_if (bd_if (bd_if (bd_ce hB hd (by omega)))), fin _⟩
theorem t_cut2B {R : List (List A)} {m : Nat} (h : Rect R m) (hB : ∀ r ∈ R, ∀ a ∈ r, bd a) {k j : Sk} (hk : k.arg = true) (hj : j.arg = true) (w lo hi ch lt : Int) {d : Nat} (hd : d < R.length) (acc : List (List A)) (ha : acc.length ≤ 1000) (x8 x9 x10 x11 : Option D) (L : List Int) :
    ∃ (r : List A) (y10 y11 : Option D), r.length = m ∧ (∀ a ∈ r, bd a) ∧ turn (.nm 8) l_p_law_bt_cut_2 (.int (d : Nat)) [some .tok, some (mat k j R), some (.int w), some (.int lo), some (.int hi), some (.int ch), some (.int lt), some (.lst .ow (acc.map rw)), x8, x9, x10, x11] L =
      .nx [some .tok, some (mat k j R), some (.int w), some (.int lo), some (.int hi), some (.int ch), some (.int lt), some (.lst .ow ((acc ++ [r]).map rw)), some (.int (d : Nat)), none, y10, y11] L := by
  obtain ⟨e, L', q1, r, y10, y11, hr, hb, e1, e2⟩ := loop_to (p := .nm 10) (body := l_p_law_bt_cut_1) (lo := 0) (n := m) (env := [some .tok, some (mat k j R), some (.int w), some (.int lo), some (.int hi), some (.int ch), some (.int lt), some (.lst .ow (acc.map rw)), some (.int (d : Nat)), some (.lst .ow []), x10, x11]) (L := L)
    (fun i env L' => ∃ (r : List A) (y10 y11 : Option D), r.length = i ∧ (∀ a ∈ r, bd a) ∧ env = [some .tok, some (mat k j R), some (.int w), some (.int lo), some (.int hi), some (.int ch), some (.int lt), some (.lst .ow (acc.map rw)), some (.int (d : Nat)), some (.lst .ow (r.map aD)), y10, y11] ∧ L' = L) (by
      rintro i hi' env L' ⟨r, y10, y11, hr, hb, rfl, rfl⟩
      obtain ⟨a, b, ba, e⟩ := t_cut1B h hB hk hj w lo hi ch lt hd hi' r (by have := h.m1; omega) (some (.lst .ow (acc.map rw))) y10 y11 L'
      rw [Int.zero_add, e]
      exact ⟨r ++ [a], _, _, by simp [hr], bd_app hb ba, rfl, rfl⟩) ⟨[], x10, x11, rfl, (fun _ m => nomatch m), rfl, rfl⟩
  subst e1 e2
  have b : smallI (m : Int) = true := small_le h.m1
  have o : okLen (acc.length + 1) = true := okLen_le (by omega)
  have a0 := at_ro0 (L := L') (k := k) (j := j) h.n0
  have h0 := h.at h.n0
  refine ⟨r, y10, y11, hr, hb, ?_⟩
  rw [← rw_app]
  simp [turn, l_p_law_bt_cut_2, hk, hj, a0, h0, b, q1, o]
theorem v_cutB {R : List (List A)} {m : Nat} (h : Rect R m) (hB : ∀ r ∈ R, ∀ a ∈ r, bd a) {k j : Sk} (hk : k.arg = true) (hj : j.arg = true) (L : List Int) : ∃ (R' : List (List A)) (L' : List Int), R'.length = R.length ∧ (∀ r ∈ R', r.length = m ∧ ∀ a ∈ r, bd a) ∧ d_p_law_bt_cut [.tok, mat k j R] L = .ok (.lst .ow (R'.map rw)) L' := by
  have n0 := h.n0
  have m0 := h.m0
  obtain ⟨w, L1, e1, _, _⟩ := v_next 6 (by omega) L
  obtain ⟨lo, L2, e2, _, _⟩ := v_next 4 (by omega) L1
  obtain ⟨hi, L3, e3, _, _⟩ := v_next 4 (by omega) L2
  obtain ⟨ch, L4, e4, _, _⟩ := v_next (m : Int) (by omega) L3
  obtain ⟨lt, L5, e5, _, _⟩ := v_next (R.length : Int) (by omega) L4
  obtain ⟨e, L', q1, R', y8, y9, y10, y11, hR, hr, e6, e7⟩ := loop_to (p := .nm 8) (body := l_p_law_bt_cut_2) (lo := 0) (n := R.length) (env := [some .tok, some (mat k j R), some (.int w), some (.int (0 - lo)), some (.int hi), some (.int ch), some (.int lt), some (.lst .ow []), none, none, none, none]) (L := L5)
    (fun i env L' => ∃ (R' : List (List A)) (y8 y9 y10 y11 : Option D), R'.length = i ∧ (∀ r ∈ R', r.length = m ∧ ∀ a ∈ r, bd a) ∧ env = [some .tok, some (mat k j R), some (.int w), some (.int (0 - lo)), some (.int hi), some (.int ch), some (.int lt), some (.lst .ow (R'.map rw)), y8, y9, y10, y11] ∧ L' = L5) (by
      rintro i hi' env L' ⟨R', y8, y9, y10, y11, hR, hr, rfl, rfl⟩
      obtain ⟨r, z10, z11, hr', hb', e⟩ := t_cut2B h hB hk hj w (0 - lo) hi ch lt hi' R' (by have := h.n1; omega) y8 y9 y10 y11 L'
      rw [Int.zero_add, e]
      refine ⟨R' ++ [r], _, _, _, _, by simp [hR], fun q hq => ?_, rfl, rfl⟩
      rcases List.mem_append.mp hq with hq | hq
      · exact hr q hq
      · rw [List.mem_singleton.mp hq]; exact ⟨hr', hb'⟩) ⟨[], none, none, none, none, rfl, (fun _ m => nomatch m), rfl, rfl⟩
  subst e6 e7
  have b : smallI (R.length : Int) = true := small_le h.n1
  have a3 := at_ro0 (L := L3) (k := k) (j := j) h.n0
  have h0 := h.at h.n0
  rw [Int.zero_sub] at q1
  exact ⟨R', L', hR, hr, body_ret (env := [some .tok, some (mat k j R), none, none, none, none, none, none, none, none, none, none]) (by simp [b_p_law_bt_cut, hk, hj, e1, e2, e3, e4, e5, a3, h0, b, q1]) (by simp [okfs_sto_rw])⟩
/-- the bounds of what was summed -/
structure AbB (ab : List Int) (m s : Nat) (B : Int) : Prop where
  len : ab.length = m
  lo : ∀ (i : Nat) (v : Int), ab[i]? = some v → 0 ≤ v
  hi : ∀ (i : Nat) (v : Int), ab[i]? = some v → v ≤ B + 10
  un : ∀ (i : Nat) (v : Int), s ≤ i → ab[i]? = some v → v ≤ B
theorem t_sums1B (sc own : Int) (hsc : 0 ≤ sc ∧ sc ≤ 1000000000000) (ho : 0 ≤ own ∧ own < 9) (cs : List Int) (m : Nat) (hm : m ≤ 5) (hcs : cs.length = m) (hc : ∀ v ∈ cs, 0 ≤ v ∧ v < 8) (ab : List Int) (B : Int) (hB : B ≤ 50) (s : Nat) (hs : s < m) (hab : AbB ab m s B) (dr : Int) (hd : 0 ≤ dr ∧ dr ≤ 2 * s)
    (r : List A) (hr : r.length ≤ 1000) (x1 x2 x4 x7 x11 : Option D) (L : List Int) :
    ∃ (ab' : List Int) (dr' : Int) (a : A) (L' : List Int), AbB ab' m (s + 1) B ∧ (0 ≤ dr' ∧ dr' ≤ 2 * (s + 1 : Nat)) ∧ bd a ∧
      turn (.nm 11) l_p_law_bt_sums_1 (.int (s : Nat)) [some .tok, x1, x2, some (.int sc), x4, some (.lst .ow (ab.map D.int)), some (.lst .ow (cs.map D.int)), x7, some (.int own), some (.int dr), some (.lst .ow (r.map aD)), x11] L =
        .nx [some .tok, x1, x2, some (.int sc), x4, some (.lst .ow (ab'.map D.int)), some (.lst .ow (cs.map D.int)), x7, some (.int own), some (.int dr'), some (.lst .ow ((r ++ [a]).map aD)), some (.int (s : Nat))] L' := by
  obtain ⟨w, L1, e1, w0, w1⟩ := v_next 3 (by omega) L
  have hl := hab.len
  obtain ⟨v, hv⟩ := get_of (l := ab) (i := s) (by omega)
  obtain ⟨c, hcv⟩ := get_of (l := cs) (i := s) (by omega)
  have hc' := hc c (mem_at hcv)
  have v0 := hab.lo s v hv
  have v1 := hab.un s v (Nat.le_refl _) hv
  have o : okLen (r.length + 1) = true := okLen_le (by omega)
  have hset : (ab.set s (v + (dr + w)))[s]? = some (v + (dr + w)) := by rw [List.getElem?_set_self (by omega)]
  have i1 := ix_ints' (f := .lo) (L := L1) hv
  have i2 := ix_ints' (f := .lo) (L := L1) hcv
  have i3 := ix_ints' (f := .lo) (L := L1) hset
  have mk : mulOk (own + c - (v + (dr + w))) sc = true := mul_l (by omega) (by omega)
  refine ⟨ab.set s (v + (dr + w)), dr + w, some ((own + c - (v + (dr + w))) * sc), L1, ⟨by rw [List.length_set]; exact hl, fun i z hz => ?_, fun i z hz => ?_, fun i z hi hz => ?_⟩, by omega, bd_mul2 (by omega) (by omega) hsc, ?_⟩
  · by_cases q : s = i
    · subst q; rw [hset] at hz; cases hz; omega
    · rw [List.getElem?_set_ne q] at hz; exact hab.lo i z hz
  · by_cases q : s = i
    · subst q; rw [hset] at hz; cases hz; omega
    · rw [List.getElem?_set_ne q] at hz; exact hab.hi i z hz
  · rw [List.getElem?_set_ne (by omega)] at hz
    exact hab.un i z (by omega) hz
  · have e0 : turn (.nm 11) l_p_law_bt_sums_1 (.int (s : Nat)) [some .tok, x1, x2, some (.int sc), x4, some (.lst .ow (ab.map D.int)), some (.lst .ow (cs.map D.int)), x7, some (.int own), some (.int dr), some (.lst .ow (r.map aD)), x11] L =
      l_p_law_bt_sums_1 [some .tok, x1, x2, some (.int sc), x4, some (.lst .ow (ab.map D.int)), some (.lst .ow (cs.map D.int)), x7, some (.int own), some (.int dr), some (.lst .ow (r.map aD)), some (.int (s : Nat))] L := by simp [turn]
    rw [e0]
    unfold l_p_law_bt_sums_1
    rw [seq_nx (L1 := L1) (env1 := [some .tok, x1, x2, some (.int sc), x4, some (.lst .ow (ab.map D.int)), some (.lst .ow (cs.map D.int)), x7, some (.int own), some (.int (dr + w)), some (.lst .ow (r.map aD)), some (.int (s : Nat))]) (by simp [e1])]
    rw [seq_nx (setIx_ints (i := 5) (s := s) (v := v + (dr + w)) (l := ab) rfl (by simp [i1]) (by simp) (by omega))]
    simp only [List.set_cons_succ, List.set_cons_zero]
    generalize ab.set s (v + (dr + w)) = ab2 at i3 ⊢
    simp [i2, i3, mk, o]
theorem t_sums2B (sc : Int) (hsc : 0 ≤ sc ∧ sc ≤ 1000000000000) (m : Nat) (hm : m ≤ 5) (cs : List Int) (hcs : cs.length = m) (hc : ∀ v ∈ cs, 0 ≤ v ∧ v < 8) (d : Nat) (hd : d ≤ 4) (acc : List (List A)) (ha : acc.length ≤ 1000) (ab : List Int) (hab : AbB ab m 0 (10 * d)) (x1 x7 x8 x9 x10 x11 : Option D) (L : List Int) (dd : Int) :
    ∃ (ab' : List Int) (r : List A) (y8 y9 y11 : Option D) (L' : List Int), AbB ab' m 0 (10 * (d + 1 : Nat)) ∧ r.length = m ∧ (∀ a ∈ r, bd a) ∧ turn (.nm 7) l_p_law_bt_sums_2 (.int dd) [some .tok, x1, some (.int m), some (.int sc), some (.lst .ow (acc.map rw)), some (.lst .ow (ab.map D.int)), some (.lst .ow (cs.map D.int)), x7, x8, x9, x10, x11] L =
      .nx [some .tok, x1, some (.int m), some (.int sc), some (.lst .ow ((acc ++ [r]).map rw)), some (.lst .ow (ab'.map D.int)), some (.lst .ow (cs.map D.int)), some (.int dd), y8, y9, none, y11] L' := by
  obtain ⟨own, L1, e1, w0, w1⟩ := v_next 9 (by omega) L
  obtain ⟨e, L', q1, ab', dr, r, y11, h1, h2, h3, hb, e2⟩ := loop_to (p := .nm 11) (body := l_p_law_bt_sums_1) (lo := 0) (n := m) (env := [some .tok, x1, some (.int m), some (.int sc), some (.lst .ow (acc.map rw)), some (.lst .ow (ab.map D.int)), some (.lst .ow (cs.map D.int)), some (.int dd), some (.int own), some (.int 0), some (.lst .ow []), x11]) (L := L1)
    (fun k env _ => ∃ (ab' : List Int) (dr : Int) (r : List A) (y11 : Option D), AbB ab' m k (10 * d) ∧ (0 ≤ dr ∧ dr ≤ 2 * (k : Nat)) ∧ r.length = k ∧ (∀ a ∈ r, bd a) ∧ env = [some .tok, x1, some (.int m), some (.int sc), some (.lst .ow (acc.map rw)), some (.lst .ow (ab'.map D.int)), some (.lst .ow (cs.map D.int)), some (.int dd), some (.int own), some (.int dr), some (.lst .ow (r.map aD)), y11]) (by
      rintro k hk env L' ⟨ab', dr, r, y11, h1, h2, h3, hb, rfl⟩
      refine Nx_intro ?_
      obtain ⟨ab2, dr2, a, L2, g1, g2, ba, e⟩ := t_sums1B sc own hsc ⟨w0, w1⟩ cs m hm hcs hc ab' (10 * d) (by omega) k hk h1 dr h2 r (by omega) x1 (some (.int m)) (some (.lst .ow (acc.map rw))) (some (.int dd)) y11 L'
      rw [Int.zero_add]
      exact ⟨_, _, e, ab2, dr2, r ++ [a], _, g1, g2, by simp [h3], bd_app hb ba, rfl⟩) ⟨ab, 0, [], x11, hab, ⟨by omega, by omega⟩, rfl, (fun _ m => nomatch m), rfl⟩
  subst e2
  have b : smallI (m : Int) = true := small_le (by omega)
  have o : okLen (acc.length + 1) = true := okLen_le (by omega)
  refine ⟨ab', r, some (.int own), some (.int dr), y11, L', ⟨h1.len, h1.lo, fun i v hv => ?_, fun i v _ hv => ?_⟩, h3, hb, ?_⟩
  · have := h1.hi i v hv; omega
  · have := h1.hi i v hv; omega
  · rw [← rw_app]
    simp [turn, l_p_law_bt_sums_2, e1, b, q1, o]
theorem v_sumsB (sc : Int) (hsc : 0 ≤ sc ∧ sc ≤ 1000000000000) (n m : Nat) (hn : n ≤ 5) (hm : m ≤ 5) (L : List Int) : ∃ (R : List (List A)) (L' : List Int), R.length = n ∧ (∀ r ∈ R, r.length = m ∧ ∀ a ∈ r, bd a) ∧ d_p_law_bt_sums [.tok, .int n, .int m, .int sc] L = .ok (.lst .ow (R.map rw)) L' := by
  have b : smallI (n : Int) = true := small_le (by omega)
  have b2 : smallI (m : Int) = true := small_le (by omega)
  have o : okLen (m + 1) = true := okLen_le (by omega)
  have er : rngD 0 m = (List.range m).map fun k : Nat => D.int (0 + k) := rfl
  have c1 := lc_on (own := [11]) (p := .nm 11) (de := c_p_law_bt_sums_1) (env := [some .tok, some (.int n), some (.int m), some (.int sc), some (.lst .ow []), none, none, none, none, none, none, none]) (h := fun k : Nat => D.int (0 + k)) (ys := List.range m) (L := L) (fun _ => .int 0) (by
    intro y _
    simp [lcTurn, wipeE, c_p_law_bt_sums_1])
  rw [← er] at c1
  obtain ⟨z0, hz0⟩ : ∃ z0 : List Int, z0 = List.replicate m 0 := ⟨_, rfl⟩
  have z1 : (List.range m).map (fun _ : Nat => D.int 0) = z0.map D.int := by rw [hz0, List.map_replicate, List.map_const', List.length_range]
  rw [z1] at c1
  obtain ⟨zs, L1, c2, hz1, hz2⟩ := lc_draw (own := [11]) (p := .nm 11) (de := c_p_law_bt_sums_2) (env := [some .tok, some (.int n), some (.int m), some (.int sc), some (.lst .ow []), some (.lst .ow (z0.map D.int)), none, none, none, none, none, none]) (h := fun k : Nat => D.int (0 + k)) (ys := List.range m) (L := L)
    (fun z => ∃ v : Int, z = .int v ∧ 0 ≤ v ∧ v < 8) (by
      intro y _ L
      obtain ⟨w, L1, e1, w0, w1⟩ := v_next 8 (by omega) L
      exact ⟨.int w, L1, by simp [lcTurn, wipeE, c_p_law_bt_sums_2, e1], by simp, w, rfl, w0, w1⟩)
  rw [← er] at c2
  obtain ⟨cs, rfl, hc⟩ : ∃ cs : List Int, zs = cs.map D.int ∧ ∀ v ∈ cs, 0 ≤ v ∧ v < 8 := by
    clear c2 hz1
    induction zs with
    | nil => exact ⟨[], rfl, fun _ m => nomatch m⟩
    | cons z zs ih =>
      obtain ⟨v, rfl, v0, v1⟩ := hz2 z (List.mem_cons_self ..)
      obtain ⟨cs, rfl, hc⟩ := ih fun z m => hz2 z (List.mem_cons_of_mem _ m)
      exact ⟨v :: cs, rfl, fun u hu => by
        rcases List.mem_cons.mp hu with rfl | hu
        · exact ⟨v0, v1⟩
        · exact hc u hu⟩
  have hcs : cs.length = m := by simpa using hz1
  have hz1' : ∀ (i : Nat) (v : Int), z0[i]? = some v → v = 0 := fun i v hv => by
    rw [hz0] at hv
    exact List.eq_of_mem_replicate (mem_at hv)
  have hz : AbB z0 m 0 (10 * (0 : Nat)) := ⟨by simp [hz0], fun i v hv => by rw [hz1' i v hv]; omega, fun i v hv => by rw [hz1' i v hv]; omega, fun i v _ hv => by rw [hz1' i v hv]; omega⟩
  obtain ⟨e, L', q1, R, ab, y7, y8, y9, y10, y11, hR, hr, hab, e1⟩ := loop_to (p := .nm 7) (body := l_p_law_bt_sums_2) (lo := 0) (n := n) (env := [some .tok, some (.int n), some (.int m), some (.int sc), some (.lst .ow []), some (.lst .ow (z0.map D.int)), some (.lst .ow (cs.map D.int)), none, none, none, none, none]) (L := L1)
    (fun k env _ => ∃ (R : List (List A)) (ab : List Int) (y7 y8 y9 y10 y11 : Option D), R.length = k ∧ (∀ r ∈ R, r.length = m ∧ ∀ a ∈ r, bd a) ∧ AbB ab m 0 (10 * (k : Nat)) ∧ env = [some .tok, some (.int n), some (.int m), some (.int sc), some (.lst .ow (R.map rw)), some (.lst .ow (ab.map D.int)), some (.lst .ow (cs.map D.int)), y7, y8, y9, y10, y11]) (by
      rintro k hk env L' ⟨R, ab, y7, y8, y9, y10, y11, hR, hr, hab, rfl⟩
      refine Nx_intro ?_
      obtain ⟨ab', r, z8, z9, z11, L2, h1, h2, hb, e⟩ := t_sums2B sc hsc m hm cs hcs hc k (by omega) R (by omega) ab hab (some (.int n)) y7 y8 y9 y10 y11 L' (0 + (k : Nat))
      refine ⟨_, _, e, R ++ [r], ab', _, _, _, _, _, by simp [hR], fun q hq => ?_, h1, rfl⟩
      rcases List.mem_append.mp hq with hq | hq
      · exact hr q hq
      · rw [List.mem_singleton.mp hq]; exact ⟨h2, hb⟩) ⟨[], z0, none, none, none, none, none, rfl, (fun _ m => nomatch m), hz, rfl⟩
  subst e1
  refine ⟨R, L', hR, hr, body_ret (env := [some .tok, some (.int n), some (.int m), some (.int sc), none, none, none, none, none, none, none, none]) ?_ (by simp [okfs_sto_rw])⟩
  have o2 : okLen ((rngD 0 m).length + 1) = true := by rw [rngD_len]; exact o
  unfold b_p_law_bt_sums
  rw [seq_nx (L1 := L) (env1 := [some .tok, some (.int n), some (.int m), some (.int sc), some (.lst .ow []), none, none, none, none, none, none, none]) (by simp)]
  rw [seq_nx (L1 := L) (env1 := [some .tok, some (.int n), some (.int m), some (.int sc), some (.lst .ow []), some (.lst .ow (z0.map D.int)), none, none, none, none, none, none]) (by
    simp only [dSetO_ev, dLc_ev, dRng1_ev, dCons_ev, dVar_ev, dNil_ev, List.getElem?_cons_succ, List.getElem?_cons_zero, lk_int, Res.bindF_ok, fz_int, Res.bind_ok, b2, if_true, Int.toNat_natCast, o2, slots_nm, c1, Res.then_ok]
    simp)]
  rw [seq_nx (L1 := L1) (env1 := [some .tok, some (.int n), some (.int m), some (.int sc), some (.lst .ow []), some (.lst .ow (z0.map D.int)), some (.lst .ow (cs.map D.int)), none, none, none, none, none]) (by
    simp only [dSetO_ev, dLc_ev, dRng1_ev, dCons_ev, dVar_ev, dNil_ev, List.getElem?_cons_succ, List.getElem?_cons_zero, lk_int, Res.bindF_ok, fz_int, Res.bind_ok, b2, if_true, Int.toNat_natCast, o2, slots_nm, c2, Res.then_ok]
    simp)]
  simp [b, q1]
end Pk

set_option Elab.async false
set_option linter.all false
set_option maxRecDepth 100000
set_option maxHeartbeats 4000000
namespace Pk
open PySem PySem.Spec PyProof.Rows L2 Qd
def BD (R : List (List A)) (m : Nat) : Prop := ∀ d s v, d < R.length → s < m → ce (ro R d) s = some v → -200000000000000 ≤ v ∧ v ≤ 200000000000000
theorem BD_of {R : List (List A)} {m : Nat} (h : Rect R m) (hB : ∀ r ∈ R, ∀ a ∈ r, bd a) : BD R m := fun d s v hd hs e => by
  have := bd_ce hB hd (show s < (ro R d).length by rw [h.at hd]; exact hs) v e
  omega
theorem ro_set {R : List (List A)} {d d' : Nat} {r : List A} (hd : d < R.length) : ro (R.set d r) d' = if d = d' then r else ro R d' := by
  unfold ro
  rw [List.getD_eq_getElem?_getD, List.getElem?_set]
  split
  · rename_i e
    subst e
    simp [hd]
  · rw [List.getD_eq_getElem?_getD]
theorem ce_set {r : List A} {s s' : Nat} {a : A} (hs : s < r.length) : ce (r.set s a) s' = if s = s' then a else ce r s' := by
  unfold ce
  rw [List.getD_eq_getElem?_getD, List.getElem?_set]
  split
  · rename_i e
    subst e
    simp [hs]
  · rw [List.getD_eq_getElem?_getD]
theorem BD_set {R : List (List A)} {m d s : Nat} {x : Int} (h : Rect R m) (hB : ∀ r ∈ R, ∀ a ∈ r, bd a) (hd : d < R.length) (hs : s < m) (hx : -200000000000000 ≤ x ∧ x ≤ 200000000000000) : BD (R.set d ((ro R d).set s (some x))) m := fun d' s' v hd' hs' e => by
  rw [List.length_set] at hd'
  have l := h.at hd
  rw [ro_set hd] at e
  split at e
  · rename_i q
    subst q
    rw [ce_set (by omega)] at e
    split at e
    · cases e; exact hx
    · exact BD_of h hB d s' v hd hs' e
  · exact BD_of h hB d' s' v hd' hs' e
theorem t_uscale (L : List Int) (x1 x2 x3 x4 x5 x6 x7 : Option D) : ∃ (sc : Int) (L' : List Int), (0 ≤ sc ∧ sc ≤ 1000000000000) ∧
    dSet 4 (dBin ixD (dApp lstD (dCons (dC (.int 1)) (dCons (dC (.int 1)) (dCons (dBin powD (dC (.int 10)) (dC (.int 12))) dNil)))) (dCall 2 d_p_law_next (dCons (dVar 0) (dCons (dC (.int 3)) dNil)))) [some .tok, x1, x2, x3, x4, x5, x6, x7] L = .nx [some .tok, x1, x2, x3, some (.int sc), x5, x6, x7] L' := by
  obtain ⟨w, L1, e, w0, w1⟩ := v_next 3 (by omega) L
  obtain ⟨i, rfl⟩ : ∃ i : Nat, w = i := ⟨w.toNat, by omega⟩
  obtain ⟨v, hv⟩ := get_of (l := [1, 1, 1000000000000]) (i := i) (by simp; omega)
  have q := ix_ints' (f := .fz) (L := L1) hv
  have mv := List.mem_of_getElem? hv
  simp only [List.map_cons, List.map_nil] at q
  have o3 : okLen 3 = true := okLen_le (by omega)
  refine ⟨v, L1, ?_, by simp [e, q, o3]⟩
  simp only [List.mem_cons, List.not_mem_nil, or_false] at mv
  omega
def sUr : DS := (dIfS (dTst (dBin isD (dBin ixD (dBin ixD (dVar 5) (dVar 6)) (dVar 7)) (dC .non))) (dSetIx2 5 (dVar 6) (dVar 7) (dC (.int 1))) (dSetIx2 5 (dVar 6) (dVar 7) (dBin subD (dBin addD (dBin ixD (dBin ixD (dVar 5) (dVar 6)) (dVar 7)) (dCall 2 d_p_law_next (dCons (dVar 0) (dCons (dC (.int 9)) dNil)))) (dC (.int 4)))))
theorem setIx2_matL {i : Nat} {a b e : DE} {env : Qd.Env} {L L1 : List Int} {R : List (List A)} {d s : Nat} {v : A} (he : env[i]? = some (some (mat (.l .ow) (.l .ow) R))) (ee : e env L = .ok (aD v) L1) (ea : a env L1 = .ok (.int d) L1) (eb : b env L1 = .ok (.int s) L1) (hd : d < R.length) (hs : s < (ro R d).length) :
    dSetIx2 i a b e env L = .nx (env.set i (some (mat (.l .ow) (.l .ow) (R.set d ((ro R d).set s v))))) L1 := by
  have q := setIx2_mat (i := i) (a := a) (b := b) (e := fun _ L => .ok (aD v) L) (env := env) (L := L1) he rfl ea eb hd hs
  rw [← q]
  unfold dSetIx2
  rw [he]
  simp only [ee]
theorem t_ur {R : List (List A)} {m : Nat} (h : Rect R m) (hB : ∀ r ∈ R, ∀ a ∈ r, bd a) {d s : Nat} (hd : d < R.length) (hs : s < m) (x1 x2 x3 x4 : Option D) (L : List Int) :
    ∃ (R' : List (List A)) (L' : List Int), Rect R' m ∧ R'.length = R.length ∧ BD R' m ∧ sUr [some .tok, x1, x2, x3, x4, some (mat (.l .ow) (.l .ow) R), some (.int d), some (.int s)] L = .nx [some .tok, x1, x2, x3, x4, some (mat (.l .ow) (.l .ow) R'), some (.int d), some (.int s)] L' := by
  have l := h.at hd
  have a1 := fun L => at_ro (L := L) (k := .l .lo) (j := .l .lo) hd
  have a2 := fun L => at_ce (L := L) (k := .l .lo) (r := ro R d) (i := s) (by omega)
  have b := bd_ce hB hd (show s < (ro R d).length by omega)
  cases q : ce (ro R d) s with
  | none =>
    refine ⟨R.set d ((ro R d).set s (some 1)), L, set_rect h hd, by simp, BD_set h hB hd hs (by omega), ?_⟩
    have w := setIx2_mat (i := 5) (a := dVar 6) (b := dVar 7) (e := dC (.int 1)) (env := [some .tok, x1, x2, x3, x4, some (mat (.l .ow) (.l .ow) R), some (.int d), some (.int s)]) (L := L) (R := R) (d := d) (s := s) (v := some 1) rfl rfl (by simp) (by simp) hd (by omega)
    simp only [List.set_cons_succ, List.set_cons_zero] at w
    have a2' := a2 L
    rw [q] at a2'
    unfold sUr
    rw [dIfS_ev]
    rw [show (dTst (dBin isD (dBin ixD (dBin ixD (dVar 5) (dVar 6)) (dVar 7)) (dC .non))) [some .tok, x1, x2, x3, x4, some (mat (.l .ow) (.l .ow) R), some (.int d), some (.int s)] L = .ok true L by simp [a1, a2']]
    rw [Res.then_ok, if_pos rfl]
    exact w
  | some v =>
    obtain ⟨w, L1, e1, w0, w1⟩ := v_next 9 (by omega) L
    have bv := b v q
    refine ⟨R.set d ((ro R d).set s (some (v + w - 4))), L1, set_rect h hd, by simp, BD_set h hB hd hs (by omega), ?_⟩
    have a2' := a2 L
    rw [q] at a2'
    have ww := setIx2_matL (i := 5) (a := dVar 6) (b := dVar 7) (e := (dBin subD (dBin addD (dBin ixD (dBin ixD (dVar 5) (dVar 6)) (dVar 7)) (dCall 2 d_p_law_next (dCons (dVar 0) (dCons (dC (.int 9)) dNil)))) (dC (.int 4)))) (env := [some .tok, x1, x2, x3, x4, some (mat (.l .ow) (.l .ow) R), some (.int d), some (.int s)]) (L := L) (L1 := L1) (R := R) (d := d) (s := s) (v := some (v + w - 4)) rfl (by simp [a1, a2', e1]) (by simp) (by simp) hd (by omega)
    simp only [List.set_cons_succ, List.set_cons_zero] at ww
    unfold sUr
    rw [dIfS_ev]
    rw [show (dTst (dBin isD (dBin ixD (dBin ixD (dVar 5) (dVar 6)) (dVar 7)) (dC .non))) [some .tok, x1, x2, x3, x4, some (mat (.l .ow) (.l .ow) R), some (.int d), some (.int s)] L = .ok false L by simp [a1, a2']]
    rw [Res.then_ok, if_neg (by simp)]
    exact ww
theorem v_urows (n m : Nat) (hn0 : 0 < n) (hn : n ≤ 5) (hm0 : 0 < m) (hm : m ≤ 5) (L : List Int) : ∃ (R : List (List A)) (L' : List Int), Rect R m ∧ R.length = n ∧ BD R m ∧ d_p_law_ub_rows [.tok, .int n, .int m] L = .ok (mat (.l .ow) (.l .ow) R) L' := by
  obtain ⟨w, L1, e1, w0, w1⟩ := v_next 3 (by omega) L
  obtain ⟨sc, L2, hsc, e2⟩ := t_uscale L1 (some (.int n)) (some (.int m)) (some (.int w)) none none none none
  have s1 : ∀ k : DS, dSeq (dSet 3 (dCall 2 d_p_law_next (dCons (dVar 0) (dCons (dC (.int 3)) dNil)))) k [some .tok, some (.int n), some (.int m), none, none, none, none, none] L = k [some .tok, some (.int n), some (.int m), some (.int w), none, none, none, none] L1 := fun k => seq_nx (by simp [e1])
  by_cases h3 : w = 1
  · subst h3
    obtain ⟨R, L3, hR, hr, e3⟩ := v_freeB sc hsc n m (by omega) (by omega) L2
    have h : Rect R m := ⟨by omega, by omega, hm0, by omega, fun r q => (hr r q).1⟩
    refine ⟨R, L3, h, hR, BD_of h fun r q => (hr r q).2, body_ret (env := [some .tok, some (.int n), some (.int m), none, none, none, none, none]) ?_ (by simp)⟩
    unfold b_p_law_ub_rows
    rw [s1, seq_nx e2]
    simp [e3, lst_rw]
  · obtain ⟨R0, L3, hR0, hr0, e3⟩ := v_sumsB sc hsc n m hn hm L2
    have h0 : Rect R0 m := ⟨by omega, by omega, hm0, by omega, fun r q => (hr0 r q).1⟩
    obtain ⟨R, L4, hR, hr, e4⟩ := v_cutB h0 (fun r q => (hr0 r q).2) (k := .l .fz) (j := .l .fz) rfl rfl L3
    have h : Rect R m := ⟨by omega, by omega, hm0, by omega, fun r q => (hr r q).1⟩
    have s3 : ∀ k : DS, dSeq (dIfS (dTst (dBin eqD (dVar 3) (dC (.int 1)))) (dRet (dCall 4 d_p_law_bt_free (dCons (dVar 0) (dCons (dVar 1) (dCons (dVar 2) (dCons (dVar 4) dNil)))))) dNext) k [some .tok, some (.int n), some (.int m), some (.int w), some (.int sc), none, none, none] L2 = k [some .tok, some (.int n), some (.int m), some (.int w), some (.int sc), none, none, none] L2 := fun k => seq_nx (by simp [h3])
    have s4 : ∀ k : DS, dSeq (dSetO 5 (dCall 2 d_p_law_bt_cut (dCons (dVar 0) (dCons (dCall 4 d_p_law_bt_sums (dCons (dVar 0) (dCons (dVar 1) (dCons (dVar 2) (dCons (dVar 4) dNil))))) dNil)))) k [some .tok, some (.int n), some (.int m), some (.int w), some (.int sc), none, none, none] L2 = k [some .tok, some (.int n), some (.int m), some (.int w), some (.int sc), some (mat (.l .ow) (.l .ow) R), none, none] L4 := fun k => seq_nx (by
      rw [lst_rw] at e3 e4
      simp [e3, e4])
    by_cases h2 : w = 2
    · subst h2
      obtain ⟨d, L5, e5, d0, d1⟩ := v_next (n : Int) (by omega) L4
      obtain ⟨s, L6, e6, s0, s1'⟩ := v_next (m : Int) (by omega) L5
      obtain ⟨d, rfl⟩ : ∃ i : Nat, d = i := ⟨d.toNat, by omega⟩
      obtain ⟨s, rfl⟩ : ∃ i : Nat, s = i := ⟨s.toNat, by omega⟩
      obtain ⟨R', L7, h', hl, hb, e8⟩ := t_ur h (fun r q => (hr r q).2) (d := d) (s := s) (by omega) (by omega) (some (.int n)) (some (.int m)) (some (.int 2)) (some (.int sc)) L6
      refine ⟨R', L7, h', by omega, hb, body_ret (env := [some .tok, some (.int n), some (.int m), none, none, none, none, none]) ?_ (by simp)⟩
      unfold b_p_law_ub_rows
      rw [s1, seq_nx e2, s3, s4]
      have y : (dIfS (dTst (dBin eqD (dVar 3) (dC (.int 2)))) (dSeq (dSet 6 (dCall 2 d_p_law_next (dCons (dVar 0) (dCons (dVar 1) dNil)))) (dSeq (dSet 7 (dCall 2 d_p_law_next (dCons (dVar 0) (dCons (dVar 2) dNil)))) sUr)) dNext)
          [some .tok, some (.int n), some (.int m), some (.int 2), some (.int sc), some (mat (.l .ow) (.l .ow) R), none, none] L4 = .nx [some .tok, some (.int n), some (.int m), some (.int 2), some (.int sc), some (mat (.l .ow) (.l .ow) R'), some (.int d), some (.int s)] L7 := by
        rw [dIfS_ev, show (dTst (dBin eqD (dVar 3) (dC (.int 2)))) [some .tok, some (.int n), some (.int m), some (.int 2), some (.int sc), some (mat (.l .ow) (.l .ow) R), none, none] L4 = .ok true L4 by simp, Res.then_ok, if_pos rfl]
        rw [seq_nx (L1 := L5) (env1 := [some .tok, some (.int n), some (.int m), some (.int 2), some (.int sc), some (mat (.l .ow) (.l .ow) R), some (.int d), none]) (by simp [e5])]
        rw [seq_nx (L1 := L6) (env1 := [some .tok, some (.int n), some (.int m), some (.int 2), some (.int sc), some (mat (.l .ow) (.l .ow) R), some (.int d), some (.int s)]) (by simp [e6])]
        exact e8
      unfold sUr at y
      rw [seq_nx y]
      simp
    · refine ⟨R, L4, h, by omega, BD_of h fun r q => (hr r q).2, body_ret (env := [some .tok, some (.int n), some (.int m), none, none, none, none, none]) ?_ (by simp)⟩
      unfold b_p_law_ub_rows
      rw [s1, seq_nx e2, s3, s4]
      simp [h2]
/-! ### the law's own numbers show -/
theorem own_shows {R : List (List A)} {m : Nat} (h : Rect R m) (hB : BD R m) {d e s t : Nat} (hb : brk R m = some (d, e, s, t)) : shw R m (ownN R d e s t) s t = true := by
  obtain ⟨h1, h2, h3, h4, hc⟩ := brk_some hb
  obtain ⟨a, b, ha, hbb, hcc⟩ := cnd_some hc
  have hl : (ownN R d e s t).length = R.length := by simp [ownN]
  have ge : gI (ownN R d e s t) e = gapO (ro R d) (ro R e) s t + 7 := by
    unfold ownN gI
    rw [List.getD_eq_getElem?_getD, List.getElem?_set_self (by simp; omega)]
    rfl
  have gd : gI (ownN R d e s t) d = 7 := by
    unfold ownN gI
    rw [List.getD_eq_getElem?_getD, List.getElem?_set_ne (by omega), List.getElem?_set_self (by simp; omega)]
    rfl
  have b1 := hB d t a (by omega) h4 ha
  have b2 := hB e s b h2 (by omega) hbb
  have bg : -400000000000000 ≤ gapO (ro R d) (ro R e) s t ∧ gapO (ro R d) (ro R e) s t ≤ 400000000000000 := by
    unfold gapO
    cases q1 : ce (ro R d) s with
    | some x =>
      have := hB d s x (by omega) (by omega) q1
      rw [hbb]
      simp only [Option.getD_some]
      omega
    | none =>
      cases q2 : ce (ro R e) t with
      | some y =>
        have := hB e t y h2 h4 q2
        rw [ha]
        simp only [Option.getD_some]
        omega
      | none => simp
  refine shown (g0 := 7) hl h1 h2 h3 h4 ha hbb hcc gd (by rw [ge]; omega) fun c hcl c1 c2 => ?_
  have gc : gI (ownN R d e s t) c = 10000000000000000 := by
    unfold ownN gI
    rw [List.getD_eq_getElem?_getD, List.getElem?_set_ne (Ne.symm c2), List.getElem?_set_ne (Ne.symm c1)]
    simp [hcl]
  rw [gc]
  exact ⟨fun v hv => by have := hB c s v hcl (by omega) hv; omega, fun v hv => by have := hB c t v hcl h4 hv; omega⟩
end Pk

set_option Elab.async false
set_option linter.all false
set_option maxRecDepth 100000
set_option maxHeartbeats 4000000
namespace Pk
open PySem PySem.Spec PyProof.Rows L2 Qd
def mkM (n m : Nat) (f : Nat → Nat → A) : List (List A) := (List.range n).map fun d => (List.range m).map fun s => f d s
theorem mkM_rect {n m : Nat} {f : Nat → Nat → A} (hn0 : 0 < n) (hn : n ≤ 1000) (hm0 : 0 < m) (hm : m ≤ 1000) : Rect (mkM n m f) m :=
  ⟨by simpa [mkM], by simpa [mkM], hm0, hm, fun r hr => by
    obtain ⟨d, _, rfl⟩ := List.mem_map.mp hr
    simp⟩
theorem mkM_len {n m : Nat} {f : Nat → Nat → A} : (mkM n m f).length = n := by simp [mkM]
theorem mkM_at {n m : Nat} {f : Nat → Nat → A} {d s : Nat} (hd : d < n) (hs : s < m) : ce (ro (mkM n m f) d) s = f d s := by
  simp [ce, ro, mkM, hd, hs]
/-- a pure loop that appends -/
theorem build_on {α : Type} {p : Pat} {body : DS} {h : α → D} {ys : List α} {L : List Int} (g : α → D) (E : List D → Qd.Env → Prop)
    (step : ∀ y ∈ ys, ∀ acc env, acc.length < ys.length → E acc env → ∃ env', turn p body (h y) env L = .nx env' L ∧ E (acc ++ [g y]) env') {env : Qd.Env} (h0 : E [] env) :
    ∃ env', dLoop p body (ys.map h) env L = .nx env' L ∧ E (ys.map g) env' := by
  obtain ⟨e, L', q1, rfl, q2⟩ := loop_on (p := p) (body := body) (h := h) (ys := ys) (env := env) (L := L) (fun k env L' => L' = L ∧ E ((ys.take k).map g) env) (by
    rintro k y e env L' ⟨rfl, i⟩
    refine Nx_intro ?_
    have hk := (List.getElem?_eq_some_iff.mp e).1
    obtain ⟨env', e1, e2⟩ := step y (mem_at e) _ env (by simp; omega) i
    refine ⟨env', _, e1, rfl, ?_⟩
    rw [List.take_add_one, e, List.map_append]
    exact e2) ⟨rfl, h0⟩
  rw [List.take_length] at q2
  exact ⟨e, q1, q2⟩
def gre (os cs : List Int) (d s : Nat) : Int := gI os d + gI cs s - 2 * (d : Int) * (s : Int)
def greM (os cs : List Int) (n m : Nat) : List (List A) := mkM n m fun d s => some (gre os cs d s)
def raiM (os cs : List Int) (n m d0 s0 : Nat) : List (List A) := (greM os cs n m).set d0 ((ro (greM os cs n m) d0).set s0 (some (gre os cs d0 s0 + 3)))
theorem rai_at {os cs : List Int} {n m d0 s0 d s : Nat} (hd : d < n) (hs : s < m) : ce (ro (raiM os cs n m d0 s0) d) s = some (gre os cs d s + if d = d0 ∧ s = s0 then 3 else 0) := by
  have hl : (greM os cs n m).length = n := mkM_len
  have base : ∀ d, d < n → ∀ s, s < m → ce (ro (greM os cs n m) d) s = some (gre os cs d s) := fun d hd s hs => mkM_at hd hs
  unfold raiM
  by_cases h1 : d = d0
  · subst h1
    have e : ro ((greM os cs n m).set d ((ro (greM os cs n m) d).set s0 (some (gre os cs d s0 + 3)))) d = (ro (greM os cs n m) d).set s0 (some (gre os cs d s0 + 3)) := by
      conv => lhs; unfold ro
      rw [List.getD_eq_getElem?_getD, List.getElem?_set_self (by omega)]
      rfl
    rw [e]
    have lr : (ro (greM os cs n m) d).length = m := by
      have : ro (greM os cs n m) d = (List.range m).map fun s => some (gre os cs d s) := by simp [ro, greM, mkM, hd]
      rw [this]; simp
    by_cases h2 : s = s0
    · subst h2
      have : ce ((ro (greM os cs n m) d).set s (some (gre os cs d s + 3))) s = some (gre os cs d s + 3) := by
        unfold ce
        rw [List.getD_eq_getElem?_getD, List.getElem?_set_self (by omega)]
        rfl
      rw [this]; simp
    · have : ce ((ro (greM os cs n m) d).set s0 (some (gre os cs d s0 + 3))) s = ce (ro (greM os cs n m) d) s := by
        unfold ce
        rw [List.getD_eq_getElem?_getD, List.getD_eq_getElem?_getD, List.getElem?_set_ne (Ne.symm h2)]
      rw [this, base d hd s hs]
      simp [h2]
  · have e : ro ((greM os cs n m).set d0 ((ro (greM os cs n m) d0).set s0 (some (gre os cs d0 s0 + 3)))) d = ro (greM os cs n m) d := by
      conv => lhs; unfold ro
      conv => rhs; unfold ro
      rw [List.getD_eq_getElem?_getD, List.getElem?_set_ne (Ne.symm h1), ← List.getD_eq_getElem?_getD]
    rw [e, base d hd s hs]
    simp [h1]
theorem draws {own : List Nat} {p : Pat} {de : DE} {env : Qd.Env} {n : Nat} {L : List Int} (step : ∀ y, y < n → ∀ L, ∃ (v : Int) (L' : List Int), lcTurn own p de env (natD y) L = .ok (.int v) L') :
    ∃ (cs : List Int) (L' : List Int), dLcGo own p dYes de env (rngD 0 n) L = .ok (cs.map D.int) L' ∧ cs.length = n := by
  obtain ⟨zs, L1, c2, hz1, hz2⟩ := lc_draw (own := own) (p := p) (de := de) (env := env) (h := natD) (ys := List.range n) (L := L) (fun z => ∃ v : Int, z = .int v) (by
    intro y hy L
    obtain ⟨v, L', e⟩ := step y (by simpa using hy) L
    exact ⟨.int v, L', e, rfl, v, rfl⟩)
  rw [← rng_nat] at c2
  obtain ⟨cs, rfl⟩ : ∃ cs : List Int, zs = cs.map D.int := by
    clear c2 hz1
    induction zs with
    | nil => exact ⟨[], rfl⟩
    | cons z zs ih =>
      obtain ⟨v, rfl⟩ := hz2 z (List.mem_cons_self ..)
      obtain ⟨cs, rfl⟩ := ih fun z m => hz2 z (List.mem_cons_of_mem _ m)
      exact ⟨v :: cs, rfl⟩
  exact ⟨cs, L1, c2, by simpa using hz1⟩
/-- a comprehension that draws, over range(n), as an expression -/
theorem lc_rng {own : List Nat} {i : Nat} {a de : DE} {env : Qd.Env} {n : Nat} {L L' : List Int} {ys : List D} (ha : a env L = .ok (.int n) L) (hn : n ≤ 1000) (ho : own.contains i = true) (c : dLcGo own (.nm i) dYes de env (rngD 0 n) L = .ok ys L') :
    dLc own (.nm i) (dRng1 (dCons a dNil)) dYes de env L = .ok (.lst .ow ys) L' := by
  have b : smallI (n : Int) = true := small_le hn
  have o : okLen ((rngD 0 n).length + 1) = true := by rw [rngD_len]; exact okLen_le (by omega)
  have os : ((Pat.nm i).slots.all fun i => own.contains i) = true := by
    show ([i].all fun i => own.contains i) = true
    simp only [List.all_cons, ho, List.all_nil, Bool.and_self]
  simp only [dLc_ev, dRng1_ev, dCons_ev, ha, dNil_ev, Res.bindF_ok, fz_int, Res.bind_ok, b, if_true, Int.toNat_natCast, o, os, Bool.and_self, c]
theorem gre_rect {os cs : List Int} {n m : Nat} (hn0 : 0 < n) (hn : n ≤ 1000) (hm0 : 0 < m) (hm : m ≤ 1000) : Rect (greM os cs n m) m := mkM_rect hn0 hn hm0 hm
theorem v_great (L : List Int) : ∃ (os cs : List Int) (n m : Nat) (L' : List Int), 27 ≤ n ∧ n ≤ 30 ∧ 27 ≤ m ∧ m ≤ 30 ∧ d_p_law_bt_great [.tok] L = .ok (mat (.l .ow) (.l .ow) (greM os cs n m)) L' := by
  obtain ⟨w, L1, e1, w0, w1⟩ := v_next 4 (by omega) L
  obtain ⟨n, hn⟩ : ∃ n : Nat, 30 - w = n := ⟨(30 - w).toNat, by omega⟩
  obtain ⟨u, L2, e2, u0, u1⟩ := v_next 4 (by omega) L1
  obtain ⟨m, hm⟩ : ∃ n : Nat, 30 - u = n := ⟨(30 - u).toNat, by omega⟩
  obtain ⟨os, L3, e3, l3⟩ := draws (own := [6]) (p := .nm 6) (de := c_p_law_bt_great_1) (env := [some .tok, some (.int n), some (.int m), none, none, none, none, none]) (n := n) (L := L2) (by
    intro y _ L
    obtain ⟨v, L', e, _, _⟩ := v_next 30 (by omega) L
    exact ⟨v, L', by simp [lcTurn, wipeE, c_p_law_bt_great_1, e]⟩)
  obtain ⟨cs, L4, e4, l4⟩ := draws (own := [7]) (p := .nm 7) (de := c_p_law_bt_great_2) (env := [some .tok, some (.int n), some (.int m), some (.lst .fz (os.map D.int)), none, none, none, none]) (n := m) (L := L3) (by
    intro y _ L
    obtain ⟨v, L', e, _, _⟩ := v_next 30 (by omega) L
    exact ⟨v, L', by simp [lcTurn, wipeE, c_p_law_bt_great_2, e]⟩)
  have g3 := lc_rng (own := [6]) (i := 6) (a := dVar 1) (n := n) (by simp) (by omega) rfl e3
  have g4 := lc_rng (own := [7]) (i := 7) (a := dVar 2) (n := m) (by simp) (by omega) rfl e4
  obtain ⟨e, q1, x6, x7, rfl⟩ := build_on (p := .nm 6) (body := l_p_law_bt_great_1) (h := natD) (ys := List.range n) (L := L4) (env := [some .tok, some (.int n), some (.int m), some (.lst .fz (os.map D.int)), some (.lst .fz (cs.map D.int)), some (.lst .ow []), none, none])
    (fun d => rw ((List.range m).map fun s => some (gre os cs d s))) (fun acc env => ∃ x6 x7, env = [some .tok, some (.int n), some (.int m), some (.lst .fz (os.map D.int)), some (.lst .fz (cs.map D.int)), some (.lst .ow acc), x6, x7]) (by
      rintro d hd acc env hl ⟨x6, x7, rfl⟩
      have hd' : d < n := by simpa using hd
      have a1 := at_gI (f := .fz) (l := os) (i := d) (L := L4) (by omega)
      have c := lc_on (own := [7]) (p := .nm 7) (de := c_p_law_bt_great_3) (env := [some .tok, some (.int n), some (.int m), some (.lst .fz (os.map D.int)), some (.lst .fz (cs.map D.int)), some (.lst .ow acc), some (natD d), x7]) (h := natD) (ys := List.range m) (L := L4) (fun s => .int (gre os cs d s)) (by
        intro s hs
        have hs' : s < m := by simpa using hs
        have a2 := at_gI (f := .fz) (l := cs) (i := s) (L := L4) (by omega)
        have m1 : mulOk 2 (d : Int) = true := mul_l (by omega) (by omega)
        have m2 : mulOk (2 * (d : Int)) (s : Int) = true := mul_r (by omega) (by omega)
        simp [lcTurn, wipeE, c_p_law_bt_great_3, natD, a1, a2, m1, m2, gre])
      rw [← rng_nat] at c
      have ea : (List.range m).map (fun s => D.int (gre os cs d s)) = ((List.range m).map fun s => some (gre os cs d s)).map aD := by rw [List.map_map]; rfl
      rw [ea] at c
      generalize ((List.range m).map fun s => some (gre os cs d s)) = r at c ⊢
      have g := lc_rng (own := [7]) (i := 7) (a := dVar 2) (n := m) (by simp) (by omega) rfl c
      have o : okLen (acc.length + 1) = true := okLen_le (by simp at hl; omega)
      have lr : rw r = .lst .ow (r.map aD) := rfl
      rw [lr]
      refine ⟨[some .tok, some (.int n), some (.int m), some (.lst .fz (os.map D.int)), some (.lst .fz (cs.map D.int)), some (.lst .ow (acc ++ [.lst .ow (r.map aD)])), some (natD d), x7], ?_, _, _, rfl⟩
      show (match bindP (.nm 6) (natD d) _ with | none => SRes.stuck | some env1 => l_p_law_bt_great_1 env1 L4) = _
      rw [bindP_nm, okf_natD, if_pos rfl]
      show l_p_law_bt_great_1 [some .tok, some (.int n), some (.int m), some (.lst .fz (os.map D.int)), some (.lst .fz (cs.map D.int)), some (.lst .ow acc), some (natD d), x7] L4 = _
      unfold l_p_law_bt_great_1
      rw [dAppendO_ev]
      simp only [List.getElem?_cons_succ, List.getElem?_cons_zero, g, Res.then_ok, okf_lst, isSto_ow, okfs_aDs, Bool.and_self, o, if_true, List.set_cons_succ, List.set_cons_zero]) ⟨none, none, rfl⟩
  rw [← rng_nat] at q1
  have er : D.lst .ow ((List.range n).map fun d => rw ((List.range m).map fun s => some (gre os cs d s))) = mat (.l .ow) (.l .ow) (greM os cs n m) := by
    unfold greM mkM mat
    rw [List.map_map]
    rfl
  rw [er] at q1
  have b : smallI (n : Int) = true := small_le (by omega)
  refine ⟨os, cs, n, m, L4, by omega, by omega, by omega, by omega, body_ret (env := [some .tok, none, none, none, none, none, none, none]) ?_ (by simp)⟩
  unfold b_p_law_bt_great
  rw [seq_nx (L1 := L1) (env1 := [some .tok, some (.int n), none, none, none, none, none, none]) (by simp [e1, hn])]
  rw [seq_nx (L1 := L2) (env1 := [some .tok, some (.int n), some (.int m), none, none, none, none, none]) (by simp [e2, hm])]
  rw [seq_nx (L1 := L3) (env1 := [some .tok, some (.int n), some (.int m), some (.lst .fz (os.map D.int)), none, none, none, none]) (by rw [dSet_ev, g3]; simp)]
  rw [seq_nx (L1 := L4) (env1 := [some .tok, some (.int n), some (.int m), some (.lst .fz (os.map D.int)), some (.lst .fz (cs.map D.int)), none, none, none]) (by rw [dSet_ev, g4]; simp)]
  rw [seq_nx (L1 := L4) (env1 := [some .tok, some (.int n), some (.int m), some (.lst .fz (os.map D.int)), some (.lst .fz (cs.map D.int)), some (.lst .ow []), none, none]) (by simp)]
  simp [b, q1]
theorem brk_none {R : List (List A)} {m : Nat} : brk R m = none ↔ Bent R m := by
  unfold brk sts Bent
  constructor
  · intro h d e s t h1 h2 h3 h4
    have a1 := List.findSome?_eq_none_iff.mp h d (mem_r.mpr ⟨by omega, by omega⟩)
    have a2 := List.findSome?_eq_none_iff.mp a1 e (mem_r.mpr ⟨by omega, by omega⟩)
    rw [Option.map_eq_none_iff] at a2
    have a3 := List.findSome?_eq_none_iff.mp a2 s (mem_r.mpr ⟨by omega, by omega⟩)
    have a4 := List.findSome?_eq_none_iff.mp a3 t (mem_r.mpr ⟨by omega, by omega⟩)
    cases q : cnd (ro R d) (ro R e) s t with
    | false => rfl
    | true => rw [q] at a4; simp at a4
  · intro h
    refine List.findSome?_eq_none_iff.mpr fun d hd => List.findSome?_eq_none_iff.mpr fun e he => ?_
    rw [Option.map_eq_none_iff]
    refine List.findSome?_eq_none_iff.mpr fun s hs => List.findSome?_eq_none_iff.mpr fun t ht => ?_
    have := mem_r.mp hd
    have := mem_r.mp he
    have := mem_r.mp hs
    have := mem_r.mp ht
    rw [h d e s t (by omega) (by omega) (by omega) (by omega)]
    rfl
end Pk

set_option Elab.async false
set_option linter.all false
set_option maxRecDepth 100000
set_option maxHeartbeats 4000000
namespace Pk
open PySem PySem.Spec PyProof.Rows L2 Qd
/-- Table([list(row) for row in rows]) -/
theorem lc_list {R : List (List A)} {own : List Nat} {i : Nat} {env : Qd.Env} {L : List Int} {j : Sk} (hj : j.arg = true) (hi : (wipeE env own).set i (some (row j [])) ≠ [] → True := fun _ => trivial)
    (hl : ∀ x : D, lcTurn own (.nm i) (dApp listD (dCons (dVar i) dNil)) env x L = (if okf notLo x then listD [fz (lk x)] L else .stuck)) :
    dLcGo own (.nm i) dYes (dApp listD (dCons (dVar i) dNil)) env (R.map (row j)) L = .ok (R.map rw) L :=
  lc_on (own := own) (p := .nm i) (h := row j) (ys := R) rw fun r _ => by
    rw [hl]
    simp [hj]
theorem rai_ne {os cs : List Int} {n m d0 s0 : Nat} (hn : 2 ≤ n) (hd : d0 + 1 < n) (hd2 : d0 < 2) (hs : s0 + 1 < m) : brk (raiM os cs n m d0 s0) m ≠ none := by
  intro h
  have hl : (raiM os cs n m d0 s0).length = n := by unfold raiM greM; rw [List.length_set, mkM_len]
  have b := brk_none.mp h d0 (d0 + 1) s0 (s0 + 1) (by omega) (by rw [hl]; omega) (by omega) (by omega)
  unfold cnd at b
  rw [rai_at (by omega) (by omega), rai_at (by omega) (by omega), rai_at (by omega) (by omega), rai_at (by omega) (by omega)] at b
  have hd' : d0 = 0 ∨ d0 = 1 := by omega
  rcases hd' with rfl | rfl <;> simp [plusA, ltA, gre] at b <;> omega
theorem v_ugreat (L : List Int) : ∃ L', d_p_law_ub_great [.tok] L = .ok (.bl true) L' := by
  obtain ⟨os, cs, n, m, L1, n1, n2, m1, m2, e1⟩ := v_great L
  have hG : Rect (greM os cs n m) m := gre_rect (by omega) (by omega) (by omega) (by omega)
  have lG : (greM os cs n m).length = n := mkM_len
  obtain ⟨d, L2, e2, d0, d1⟩ := v_next 2 (by omega) L1
  obtain ⟨s, L3, e3, s0, s1⟩ := v_next ((m : Int) - 1) (by omega) L2
  obtain ⟨d, rfl⟩ : ∃ i : Nat, d = i := ⟨d.toNat, by omega⟩
  obtain ⟨s, rfl⟩ : ∃ i : Nat, s = i := ⟨s.toNat, by omega⟩
  have hd : d < (greM os cs n m).length := by rw [lG]; omega
  have a0 := at_ro0 (L := L2) (k := .l .lo) (j := .l .lo) hG.n0
  have h0 := hG.at hG.n0
  have a1 := at_ro (L := L3) (k := .l .lo) (j := .l .lo) hd
  have lr := hG.at hd
  have a2 := at_ce (L := L3) (k := .l .lo) (r := ro (greM os cs n m) d) (i := s) (by omega)
  have ev : ce (ro (greM os cs n m) d) s = some (gre os cs d s) := mkM_at (by omega) (by omega)
  rw [ev] at a2
  have sv := setIx2_mat (i := 1) (a := dVar 2) (b := dVar 3) (e := (dBin addD (dBin ixD (dBin ixD (dVar 1) (dVar 2)) (dVar 3)) (dC (.int 3)))) (env := [some .tok, some (mat (.l .ow) (.l .ow) (greM os cs n m)), some (.int d), some (.int s), none, none, none, none]) (L := L3) (d := d) (s := s) (v := some (gre os cs d s + 3)) rfl (by simp [a1, a2]) (by simp) (by simp) hd (by omega)
  simp only [List.set_cons_succ, List.set_cons_zero] at sv
  have eR : (greM os cs n m).set d ((ro (greM os cs n m) d).set s (some (gre os cs d s + 3))) = raiM os cs n m d s := rfl
  rw [eR] at sv
  have hR : Rect (raiM os cs n m d s) m := set_rect hG hd
  have lR : (raiM os cs n m d s).length = n := by rw [← eR, List.length_set, lG]
  have bR := rai_ne (os := os) (cs := cs) (n := n) (m := m) (d0 := d) (s0 := s) (by omega) (by omega) (by omega) (by omega)
  have int : ∀ d' s', d' < n → s' < m → ∃ v, ce (ro (raiM os cs n m d s) d') s' = some v := fun d' s' h1 h2 => ⟨_, rai_at h1 h2⟩
  generalize raiM os cs n m d s = R at sv hR lR bR int
  -- the positions due
  obtain ⟨p, q, u, v, hp, hq, hu, hv, hdue⟩ : ∃ p q u v : Nat, p < n ∧ q < n ∧ u < m ∧ v < m ∧ ∀ x5 x6 x7 : Option D, ∀ k : DS, dSeq (dSet 4 (dApp lstD (dCons (dVar 2) (dCons (dBin addD (dVar 2) (dC (.int 1))) (dCons (dVar 3) (dCons (dBin addD (dVar 3) (dC (.int 1))) dNil))))))
      (dSeq (dIfS (dTAnd (dTst (dBin gtD (dVar 2) (dC (.int 0)))) (dTst (dBin gtD (dVar 3) (dC (.int 0))))) (dSet 4 (dApp lstD (dCons (dBin subD (dVar 2) (dC (.int 1))) (dCons (dVar 2) (dCons (dBin subD (dVar 3) (dC (.int 1))) (dCons (dVar 3) dNil)))))) dNext) k)
      [some .tok, some (mat (.l .ow) (.l .ow) R), some (.int d), some (.int s), none, x5, x6, x7] L3 = k [some .tok, some (mat (.l .ow) (.l .ow) R), some (.int d), some (.int s), some (.lst .fz [.int p, .int q, .int u, .int v]), x5, x6, x7] L3 := by
    by_cases c : 0 < d ∧ 0 < s
    · refine ⟨d - 1, d, s - 1, s, by omega, by omega, by omega, by omega, fun x5 x6 x7 k => ?_⟩
      have c1 : (0 : Int) < d := by omega
      have c2 : (0 : Int) < s := by omega
      have g1 : ((d - 1 : Nat) : Int) = d - 1 := by omega
      have g2 : ((s - 1 : Nat) : Int) = s - 1 := by omega
      simp [c, c1, c2, g1, g2]
    · refine ⟨d, d + 1, s, s + 1, by omega, by omega, by omega, by omega, fun x5 x6 x7 k => ?_⟩
      by_cases c1 : 0 < d
      · have c2 : ¬ (0 < s) := fun z => c ⟨c1, z⟩
        simp [c1, c2]
      · simp [c1]
  obtain ⟨a, ha⟩ := int p v hp hv
  obtain ⟨b, hb⟩ := int q u hq hu
  have vm := v_made hR (k := .l .fz) (j := .l .fz) rfl rfl (ds := [.int p, .int q, .int u, .int v]) (by simp) (.inr ⟨by simp, bR⟩) L3
  have vo := v_own hR (k := .l .fz) (j := .l .fz) rfl rfl (d := p) (e := q) (s := u) (t := v) (by omega) (by omega) hu hv ha hb L3
  have lo : (ownN R p q u v).length = R.length := by simp [ownN]
  obtain ⟨ns, hns⟩ : ∃ ns, ns = ownN R p q u v := ⟨_, rfl⟩
  rw [← hns] at vo lo
  have vj := v_judged hR (k := .l .fz) (j := .l .fz) rfl rfl (f := .fz) rfl (ns := ns) u v L3
  obtain ⟨L4, vs⟩ := v_spoilt hR (k := .l .fz) (j := .l .fz) rfl rfl ns u v lo L3
  have ti := v_init hR (k := .l .fz) (j := .l .fz) rfl rfl L3
  have c := lc_list (R := R) (own := [7]) (i := 7) (env := [some .tok, some (mat (.l .fz) (.l .fz) R), some (.int d), some (.int s), some (.lst .fz [.int p, .int q, .int u, .int v]), none, none, none]) (L := L3) (j := .l .fz) rfl (hl := fun x => by
    unfold lcTurn
    simp only [wipeE, bindP_nm]
    by_cases hx : okf notLo x = true <;> simp [hx])
  have o1 : okLen (R.length + 1) = true := okLen_le (by omega)
  have em : D.lst .ow (R.map rw) = mat (.l .ow) (.l .ow) R := rfl
  have nt : okf notLo (tab .fz R m) = true := okf_tab
  refine ⟨L4, body_ret (env := [some .tok, none, none, none, none, none, none, none]) ?_ (by simp)⟩
  unfold b_p_law_ub_great
  rw [seq_nx (L1 := L1) (env1 := [some .tok, some (mat (.l .ow) (.l .ow) (greM os cs n m)), none, none, none, none, none, none]) (by simp [e1])]
  rw [seq_nx (L1 := L2) (env1 := [some .tok, some (mat (.l .ow) (.l .ow) (greM os cs n m)), some (.int d), none, none, none, none, none]) (by simp [e2])]
  rw [seq_nx (L1 := L3) (env1 := [some .tok, some (mat (.l .ow) (.l .ow) (greM os cs n m)), some (.int d), some (.int s), none, none, none, none]) (by simp [a0, h0, e3])]
  rw [seq_nx sv, hdue]
  have ef : (dFrz 1 (dSet 5 (dCallK 1 d_Table_init 1 0 (idS 1) [] (dCons (dLc [7] (.nm 7) (dIt (dVar 1)) dYes c_p_law_ub_great_1) dNil) dNil))) [some .tok, some (mat (.l .ow) (.l .ow) R), some (.int d), some (.int s), some (.lst .fz [.int p, .int q, .int u, .int v]), none, none, none] L3 = .nx [some .tok, some (mat (.l .fz) (.l .fz) R), some (.int d), some (.int s), some (.lst .fz [.int p, .int q, .int u, .int v]), some (tab .fz R m), none, none] L3 := by
    have sq1 : seqOf (mat (.l .fz) (.l .fz) R) = some (R.map (row (.l .fz))) := seq_mat_ff
    simp [callK_plain, c_p_law_ub_great_1, sq1, o1, c, em, ti, nt]
  rw [seq_nx ef]
  rw [seq_nx (L1 := L3) (env1 := [some .tok, some (mat (.l .fz) (.l .fz) R), some (.int d), some (.int s), some (.lst .fz [.int p, .int q, .int u, .int v]), some (tab .fz R m), none, none]) (by simp [vm])]
  rw [seq_nx (L1 := L3) (env1 := [some .tok, some (mat (.l .fz) (.l .fz) R), some (.int d), some (.int s), some (.lst .fz [.int p, .int q, .int u, .int v]), some (tab .fz R m), some (.lst .fz [.lst .fz (ns.map D.int), .int u, .int v]), none]) (by simp [vo])]
  have i0 : ∀ x y z : D, ∀ L, ixD (.lst .fz [x, y, z]) (.int 0) L = .ok x L := fun x y z L => rfl
  have i1 : ∀ x y z : D, ∀ L, ixD (.lst .fz [x, y, z]) (.int 1) L = .ok y L := fun x y z L => rfl
  have i2 : ∀ x y z : D, ∀ L, ixD (.lst .fz [x, y, z]) (.int 2) L = .ok z L := fun x y z L => rfl
  simp [i0, i1, i2, vj, vs]
end Pk

set_option Elab.async false
set_option linter.all false
set_option maxRecDepth 100000
set_option maxHeartbeats 4000000
namespace K52
open PySem PySem.Spec PyProof.Rows L2 Qd Pk
theorem ix5 (L : List Int) : ∃ (n : Nat) (L' : List Int), 0 < n ∧ n ≤ 5 ∧ ∀ (a b : Option D) (xs : List (Option D)), dBin ixD (dApp lstD (dCons (dC (.int 2)) (dCons (dC (.int 3)) (dCons (dC (.int 1)) (dCons (dC (.int 4)) (dCons (dC (.int 5)) dNil)))))) (dCall 2 d_p_law_next (dCons (dVar 1) (dCons (dC (.int 5)) dNil))) (a :: some .tok :: xs) L = .ok (.int n) L' := by
  obtain ⟨w, L1, e, w0, w1⟩ := v_next 5 (by omega) L
  obtain ⟨i, rfl⟩ : ∃ i : Nat, w = i := ⟨w.toNat, by omega⟩
  obtain ⟨v, hv⟩ := get_of (l := [2, 3, 1, 4, 5]) (i := i) (by simp; omega)
  have q := ix_ints' (f := .fz) (L := L1) hv
  have mv := List.mem_of_getElem? hv
  simp only [List.map_cons, List.map_nil] at q
  simp only [List.mem_cons, List.not_mem_nil, or_false] at mv
  have o5 : okLen 5 = true := okLen_le (by omega)
  have ev : ((v.toNat : Nat) : Int) = v := by omega
  exact ⟨v.toNat, L1, by omega, by omega, fun a b xs => by rw [ev]; simp [e, q, o5]⟩
theorem l_turn {R : List (List A)} {m : Nat} (h : Rect R m) (x0 x2 x6 x7 x8 x9 x10 x11 : Option D) (y : D) (hy : okf notLo y = true) (L : List Int) :
    ∃ (y8 y9 y10 : Option D) (L' : List Int), turn (.nm 7) l_law_1 y [x0, some .tok, x2, some (.int m), some (mat (.l .fz) (.l .fz) R), some (tab .fz R m), x6, x7, x8, x9, x10, x11, none] L =
      .nx [x0, some .tok, x2, some (.int m), some (mat (.l .fz) (.l .fz) R), some (tab .fz R m), x6, some y, y8, y9, y10, x11, none] L' := by
  have n1 := h.n1
  have m0 := h.m0
  obtain ⟨zs, L1, c, hz1, hz2⟩ := lc_draw (own := [12]) (p := .nm 12) (de := c_law_2) (env := [x0, some .tok, x2, some (.int m), some (mat (.l .fz) (.l .fz) R), some (tab .fz R m), x6, some y, x8, x9, x10, x11, none]) (h := row (.l .fz)) (ys := R) (L := L)
    (fun z => ∃ v : Int, z = .int v) (by
      intro r _ L
      obtain ⟨w, L1, e1, w0, w1⟩ := v_next 7 (by omega) L
      exact ⟨.int (w - 3), L1, by simp [lcTurn, wipeE, c_law_2, e1], by simp, _, rfl⟩)
  obtain ⟨ns, rfl⟩ : ∃ cs : List Int, zs = cs.map D.int := by
    clear c hz1
    induction zs with
    | nil => exact ⟨[], rfl⟩
    | cons z zs ih =>
      obtain ⟨v, rfl⟩ := hz2 z (List.mem_cons_self ..)
      obtain ⟨cs, rfl⟩ := ih fun z m => hz2 z (List.mem_cons_of_mem _ m)
      exact ⟨v :: cs, rfl⟩
  obtain ⟨lo, L2, e2, lo0, lo1⟩ := v_next (m : Int) (by omega) L1
  obtain ⟨st, L3, e3, st0, st1⟩ := v_next 2 (by omega) L2
  have vj := v_judged h (k := .l .fz) (j := .l .fz) rfl rfl (f := .bo) rfl (ns := ns) lo (lo + 1 + st) L3
  have o1 : okLen (R.length + 1) = true := okLen_le (by omega)
  have sq1 : seqOf (mat (.l .fz) (.l .fz) R) = some (R.map (row (.l .fz))) := seq_mat_ff
  refine ⟨some (.lst .ow (ns.map D.int)), some (.int lo), some (.int (lo + 1 + st)), L3, ?_⟩
  have e0 : turn (.nm 7) l_law_1 y [x0, some .tok, x2, some (.int m), some (mat (.l .fz) (.l .fz) R), some (tab .fz R m), x6, x7, x8, x9, x10, x11, none] L = l_law_1 [x0, some .tok, x2, some (.int m), some (mat (.l .fz) (.l .fz) R), some (tab .fz R m), x6, some y, x8, x9, x10, x11, none] L := by simp [turn, hy]
  rw [e0]
  unfold l_law_1
  rw [seq_nx (L1 := L1) (env1 := [x0, some .tok, x2, some (.int m), some (mat (.l .fz) (.l .fz) R), some (tab .fz R m), x6, some y, some (.lst .ow (ns.map D.int)), x9, x10, x11, none]) (by
    simp [sq1, o1, c])]
  rw [seq_nx (L1 := L2) (env1 := [x0, some .tok, x2, some (.int m), some (mat (.l .fz) (.l .fz) R), some (tab .fz R m), x6, some y, some (.lst .ow (ns.map D.int)), some (.int lo), x10, x11, none]) (by
    simp [e2])]
  rw [seq_nx (L1 := L3) (env1 := [x0, some .tok, x2, some (.int m), some (mat (.l .fz) (.l .fz) R), some (tab .fz R m), x6, some y, some (.lst .ow (ns.map D.int)), some (.int lo), some (.int (lo + 1 + st)), x11, none]) (by
    simp [e3])]
  simp [vj]
theorem law_main (S : Option D) (L : List Int) : ∃ L', b_law [S, some .tok, none, none, none, none, none, none, none, none, none, none, none] L = .ret (.bl true) L' := by
  obtain ⟨w, L1, e1, w0, w1⟩ := v_next 16 (by omega) L
  by_cases hw : w = 15
  · subst hw
    obtain ⟨L2, e2⟩ := v_ugreat L1
    exact ⟨L2, by simp [b_law, e1, e2]⟩
  obtain ⟨n, L2, n0, n5, e2⟩ := ix5 L1
  obtain ⟨m, L3, m0, m5, e3⟩ := ix5 L2
  obtain ⟨R, L4, h, hl, hB, e4⟩ := v_urows n m n0 n5 m0 m5 L3
  have ti := v_init h (k := .l .fz) (j := .l .fz) rfl rfl L4
  have o1 : okLen (R.length + 1) = true := okLen_le (by omega)
  have em : D.lst .ow (R.map rw) = mat (.l .ow) (.l .ow) R := rfl
  have nt : okf notLo (tab .fz R m) = true := okf_tab
  have sq1 : seqOf (mat (.l .fz) (.l .fz) R) = some (R.map (row (.l .fz))) := seq_mat_ff
  have c := lc_list (R := R) (own := [12]) (i := 12) (env := [S, some .tok, some (.int n), some (.int m), some (mat (.l .fz) (.l .fz) R), none, none, none, none, none, none, none, none]) (L := L4) (j := .l .fz) rfl (hl := fun x => by
    unfold lcTurn
    simp only [wipeE, bindP_nm]
    by_cases hx : okf notLo x = true <;> simp [hx])
  have e5 := v_lbreak h (k := .l .fz) (j := .l .fz) rfl rfl L4
  obtain ⟨du, hdu⟩ : ∃ du, du = brL (brk R m) := ⟨_, rfl⟩
  have adu : okfs isArg du = true := by
    rw [hdu]
    cases brk R m with
    | none => rfl
    | some x => obtain ⟨d, e, s, t⟩ := x; simp [brL]
  have hde : (du = [] ∧ brk R m = none) ∨ (du ≠ [] ∧ brk R m ≠ none) := by
    rw [hdu]
    cases brk R m with
    | none => exact .inl ⟨rfl, rfl⟩
    | some x => obtain ⟨d, e, s, t⟩ := x; exact .inr ⟨by simp [brL], by simp⟩
  rw [← hdu] at e5
  have e6 := fun L => v_made h (k := .l .fz) (j := .l .fz) rfl rfl adu hde L
  have zdu : fzs du = du := fzs_arg adu
  have zdl : lks du = du := lks_arg adu
  have zdb : bws du = du := bws_arg adu
  have ndu : okfs notLo du = true := (okf_imp arg_nlo).2 _ adu
  obtain ⟨e, L5, q1, x7, y8, y9, y10, ee⟩ := loop_to (p := .nm 7) (body := l_law_1) (lo := 0) (n := 4) (env := [S, some .tok, some (.int n), some (.int m), some (mat (.l .fz) (.l .fz) R), some (tab .fz R m), some (.lst .fz du), none, none, none, none, none, none]) (L := L4)
    (fun i env _ => ∃ x7 y8 y9 y10, env = [S, some .tok, some (.int n), some (.int m), some (mat (.l .fz) (.l .fz) R), some (tab .fz R m), some (.lst .fz du), x7, y8, y9, y10, none, none]) (by
      rintro i hi env L' ⟨x7, y8, y9, y10, rfl⟩
      obtain ⟨z8, z9, z10, L2, e⟩ := l_turn h S (some (.int n)) (some (.lst .fz du)) x7 y8 y9 y10 none (.int (0 + (i : Nat))) (by simp) L'
      exact Nx_intro ⟨_, _, e, _, _, _, _, rfl⟩) ⟨none, none, none, none, rfl⟩
  subst ee
  -- behind the four papers
  obtain ⟨x11, L6, hown⟩ : ∃ (x11 : Option D) (L6 : List Int), (dIfS (dTst (dBin gtD (dApp lenD (dCons (dVar 6) dNil)) (dC (.int 0)))) (dSeq (dSet 11 (dCall 2 d_p_law_ub_own (dCons (dVar 4) (dCons (dVar 6) dNil))))
    (dSeq (dIfS (dTNot (dTst (dCall 4 d_p_law_ub_shows (dCons (dVar 4) (dCons (dBin ixD (dVar 11) (dC (.int 0))) (dCons (dBin ixD (dVar 11) (dC (.int 1))) (dCons (dBin ixD (dVar 11) (dC (.int 2))) dNil))))))) (dRet (dC (.bl false))) dNext)
    (dSeq (dIfS (dTNot (dTst (dCall 5 d_p_law_ub_judged (dCons (dVar 5) (dCons (dVar 4) (dCons (dBin ixD (dVar 11) (dC (.int 0))) (dCons (dBin ixD (dVar 11) (dC (.int 1))) (dCons (dBin ixD (dVar 11) (dC (.int 2))) dNil)))))))) (dRet (dC (.bl false))) dNext)
    (dIfS (dTNot (dTst (dCall 4 d_p_law_ub_spoilt (dCons (dVar 5) (dCons (dVar 4) (dCons (dVar 11) (dCons (dVar 1) dNil))))))) (dRet (dC (.bl false))) dNext)))) dNext)
      [S, some .tok, some (.int n), some (.int m), some (mat (.l .fz) (.l .fz) R), some (tab .fz R m), some (.lst .fz du), x7, y8, y9, y10, none, none] L5 = .nx [S, some .tok, some (.int n), some (.int m), some (mat (.l .fz) (.l .fz) R), some (tab .fz R m), some (.lst .fz du), x7, y8, y9, y10, x11, none] L6 := by
    cases hb : brk R m with
    | none =>
      rw [hb] at hdu
      subst hdu
      exact ⟨none, L5, by simp [brL]⟩
    | some x =>
      obtain ⟨d, e, s, t⟩ := x
      obtain ⟨h1, h2, h3, h4, hc⟩ := brk_some hb
      obtain ⟨a, b, ha, hbb, hcc⟩ := cnd_some hc
      have vo := v_own h (k := .l .fz) (j := .l .fz) rfl rfl (d := d) (e := e) (s := s) (t := t) (by omega) h2 (by omega) h4 ha hbb L5
      have sh := own_shows h hB hb
      have lo : (ownN R d e s t).length = R.length := by simp [ownN]
      obtain ⟨ns, hns⟩ : ∃ ns, ns = ownN R d e s t := ⟨_, rfl⟩
      rw [← hns] at vo lo sh
      have vl := v_lshows h (k := .l .fz) (j := .l .fz) rfl rfl (f := .fz) rfl (ns := ns) s t L5
      rw [sh] at vl
      have vj := v_judged h (k := .l .fz) (j := .l .fz) rfl rfl (f := .fz) rfl (ns := ns) s t L5
      obtain ⟨L6, vs⟩ := v_spoilt h (k := .l .fz) (j := .l .fz) rfl rfl ns s t lo L5
      rw [hb] at hdu
      have edu : du = [.int d, .int e, .int s, .int t] := hdu
      subst edu
      have i0 : ∀ x y z : D, ∀ L, ixD (.lst .fz [x, y, z]) (.int 0) L = .ok x L := fun x y z L => rfl
      have i1 : ∀ x y z : D, ∀ L, ixD (.lst .fz [x, y, z]) (.int 1) L = .ok y L := fun x y z L => rfl
      have i2 : ∀ x y z : D, ∀ L, ixD (.lst .fz [x, y, z]) (.int 2) L = .ok z L := fun x y z L => rfl
      exact ⟨some (.lst .fz [.lst .fz (ns.map D.int), .int s, .int t]), L6, by simp [vo, i0, i1, i2, vl, vj, vs]⟩
  obtain ⟨L7, e7⟩ := v_refusals L6
  obtain ⟨L8, e8⟩ := v_kept L7
  refine ⟨L8, ?_⟩
  unfold b_law
  rw [seq_nx (L1 := L1) (env1 := [S, some .tok, none, none, none, none, none, none, none, none, none, none, none]) (by simp [e1, hw])]
  rw [seq_nx (L1 := L2) (env1 := [S, some .tok, some (.int n), none, none, none, none, none, none, none, none, none, none]) (by rw [dSet_ev, e2 S none]; simp)]
  rw [seq_nx (L1 := L3) (env1 := [S, some .tok, some (.int n), some (.int m), none, none, none, none, none, none, none, none, none]) (by rw [dSet_ev, e3 S none]; simp)]
  rw [seq_nx (L1 := L4) (env1 := [S, some .tok, some (.int n), some (.int m), some (mat (.l .fz) (.l .fz) R), none, none, none, none, none, none, none, none]) (by simp [e4])]
  rw [seq_nx (L1 := L4) (env1 := [S, some .tok, some (.int n), some (.int m), some (mat (.l .fz) (.l .fz) R), some (tab .fz R m), none, none, none, none, none, none, none]) (by
    simp [callK_plain, c_law_1, sq1, o1, c, em, ti, nt])]
  rw [seq_nx (L1 := L4) (env1 := [S, some .tok, some (.int n), some (.int m), some (mat (.l .fz) (.l .fz) R), some (tab .fz R m), some (.lst .fz du), none, none, none, none, none, none]) (by simp [e5, zdu, ndu])]
  rw [seq_nx (L1 := L4) (env1 := [S, some .tok, some (.int n), some (.int m), some (mat (.l .fz) (.l .fz) R), some (tab .fz R m), some (.lst .fz du), none, none, none, none, none, none]) (by simp [zdl, zdu, zdb, e6])]
  have b4 : smallI 4 = true := by decide
  rw [seq_nx (L1 := L5) (env1 := [S, some .tok, some (.int n), some (.int m), some (mat (.l .fz) (.l .fz) R), some (tab .fz R m), some (.lst .fz du), x7, y8, y9, y10, none, none]) (by simp [b4, q1])]
  rw [seq_nx hown]
  rw [seq_nx (L1 := L8) (env1 := [S, some .tok, some (.int n), some (.int m), some (mat (.l .fz) (.l .fz) R), some (tab .fz R m), some (.lst .fz du), x7, y8, y9, y10, x11, none]) (by simp [e7, e8])]
  simp [zdl, zdu, zdb, e6]
theorem law_says : LawSays 12 1 e_law b_law := by
  intro ns hn
  obtain ⟨Lr, e⟩ := v_stream ns []
  obtain ⟨L', e2⟩ := law_main (some (.lst .kz (ns.map D.int))) Lr
  refine ⟨Lr, [], L', ?_, e2⟩
  simp [e_law, lawEnv, e]
end K52

set_option Elab.async false
set_option linter.all false
set_option maxRecDepth 100000
set_option maxHeartbeats 4000000
namespace K52
open PySem PySem.Spec PyProof.Rows L2 Qd Pk
theorem all_mk {l : PySem.W.OpenLaw} {w : World} {K : PySem.W.Frag} {h : Heap} {mg : Str → Option Value} {fa : Addr} (X : K.In h) (G : h.Ns mainGlobals mg) (hfa : mg "law" = some (.ref fa))
    {C_Table C_Unbent : Addr}
    (aC_Table : PySem.W.nsIn K mainGlobals "Table" = some (some (.ref C_Table)))
    (aC_Unbent : PySem.W.nsIn K mainGlobals "Unbent" = some (some (.ref C_Unbent)))
    (zc_Apart : PySem.W.nsIn K mainGlobals "Apart" = some none)
    (zc_Asked : PySem.W.nsIn K mainGlobals "Asked" = some none)
    (zc_Body : PySem.W.nsIn K mainGlobals "Body" = some none)
    (zc_Clip : PySem.W.nsIn K mainGlobals "Clip" = some none)
    (zc_Desk : PySem.W.nsIn K mainGlobals "Desk" = some none)
    (zc_Doubt : PySem.W.nsIn K mainGlobals "Doubt" = some none)
    (zc_Funnel : PySem.W.nsIn K mainGlobals "Funnel" = some none)
    (zc_HourTable : PySem.W.nsIn K mainGlobals "HourTable" = some none)
    (zc_Jobs : PySem.W.nsIn K mainGlobals "Jobs" = some none)
    (zc_JobsTask : PySem.W.nsIn K mainGlobals "JobsTask" = some none)
    (zc_Later : PySem.W.nsIn K mainGlobals "Later" = some none)
    (zc_Levels : PySem.W.nsIn K mainGlobals "Levels" = some none)
    (zc_LineReader : PySem.W.nsIn K mainGlobals "LineReader" = some none)
    (zc_Log : PySem.W.nsIn K mainGlobals "Log" = some none)
    (zc_Lots : PySem.W.nsIn K mainGlobals "Lots" = some none)
    (zc_LotsTask : PySem.W.nsIn K mainGlobals "LotsTask" = some none)
    (zc_Machine : PySem.W.nsIn K mainGlobals "Machine" = some none)
    (zc_MachineTask : PySem.W.nsIn K mainGlobals "MachineTask" = some none)
    (zc_Net : PySem.W.nsIn K mainGlobals "Net" = some none)
    (zc_Ratio : PySem.W.nsIn K mainGlobals "Ratio" = some none)
    (zc_RopeKind : PySem.W.nsIn K mainGlobals "RopeKind" = some none)
    (zc_Ropes : PySem.W.nsIn K mainGlobals "Ropes" = some none)
    (zc_RopesTask : PySem.W.nsIn K mainGlobals "RopesTask" = some none)
    (zc_Round : PySem.W.nsIn K mainGlobals "Round" = some none)
    (zc_RoundTask : PySem.W.nsIn K mainGlobals "RoundTask" = some none)
    (zc_Run : PySem.W.nsIn K mainGlobals "Run" = some none)
    (zc_Span : PySem.W.nsIn K mainGlobals "Span" = some none)
    (zc_Staircase : PySem.W.nsIn K mainGlobals "Staircase" = some none)
    (zc_Steps : PySem.W.nsIn K mainGlobals "Steps" = some none)
    (zc_Store : PySem.W.nsIn K mainGlobals "Store" = some none)
    (zc_StoreKind : PySem.W.nsIn K mainGlobals "StoreKind" = some none)
    (zc_StoreTask : PySem.W.nsIn K mainGlobals "StoreTask" = some none)
    (zc_SurePaper : PySem.W.nsIn K mainGlobals "SurePaper" = some none)
    (zc_Task : PySem.W.nsIn K mainGlobals "Task" = some none)
    (zc_Thresholds : PySem.W.nsIn K mainGlobals "Thresholds" = some none)
    (zc_Trade : PySem.W.nsIn K mainGlobals "Trade" = some none)
    (zc_TradeTask : PySem.W.nsIn K mainGlobals "TradeTask" = some none)
    (zc_Trial : PySem.W.nsIn K mainGlobals "Trial" = some none)
    (zc_World : PySem.W.nsIn K mainGlobals "World" = some none)
    {f_p_law_stream : Addr} {od_p_law_stream an_p_law_stream : Option Addr} {sl_p_law_stream : Array (Option Value)} {oc_p_law_stream kV_p_law_stream dc_p_law_stream pm_p_law_stream cd_p_law_stream ct_p_law_stream : Value}
    (a_p_law_stream : PySem.W.nsIn K mainGlobals "_law_stream" = some (some (.ref f_p_law_stream)))
    (l_p_law_stream : K.lookup f_p_law_stream = some ⟨oc_p_law_stream, od_p_law_stream, .func (PySem.W.fnOf "_law_stream" "_law_stream" (defArgs s_p_law_stream) (defBody s_p_law_stream) (defScope s_p_law_stream) .none kV_p_law_stream dc_p_law_stream pm_p_law_stream an_p_law_stream cd_p_law_stream ct_p_law_stream), sl_p_law_stream⟩) (c_p_law_stream : PySem.W.codeIn K cd_p_law_stream "_law_stream" = true) (k_p_law_stream : PySem.W.keepIn K (.ref f_p_law_stream) = true)
    {f_p_law_next : Addr} {od_p_law_next an_p_law_next : Option Addr} {sl_p_law_next : Array (Option Value)} {oc_p_law_next kV_p_law_next dc_p_law_next pm_p_law_next cd_p_law_next ct_p_law_next : Value}
    (a_p_law_next : PySem.W.nsIn K mainGlobals "_law_next" = some (some (.ref f_p_law_next)))
    (l_p_law_next : K.lookup f_p_law_next = some ⟨oc_p_law_next, od_p_law_next, .func (PySem.W.fnOf "_law_next" "_law_next" (defArgs s_p_law_next) (defBody s_p_law_next) (defScope s_p_law_next) .none kV_p_law_next dc_p_law_next pm_p_law_next an_p_law_next cd_p_law_next ct_p_law_next), sl_p_law_next⟩) (c_p_law_next : PySem.W.codeIn K cd_p_law_next "_law_next" = true) (k_p_law_next : PySem.W.keepIn K (.ref f_p_law_next) = true)
    {f_p_law_bt_great : Addr} {od_p_law_bt_great an_p_law_bt_great : Option Addr} {sl_p_law_bt_great : Array (Option Value)} {oc_p_law_bt_great kV_p_law_bt_great dc_p_law_bt_great pm_p_law_bt_great cd_p_law_bt_great ct_p_law_bt_great : Value}
    (a_p_law_bt_great : PySem.W.nsIn K mainGlobals "_law_bt_great" = some (some (.ref f_p_law_bt_great)))
    (l_p_law_bt_great : K.lookup f_p_law_bt_great = some ⟨oc_p_law_bt_great, od_p_law_bt_great, .func (PySem.W.fnOf "_law_bt_great" "_law_bt_great" (defArgs s_p_law_bt_great) (defBody s_p_law_bt_great) (defScope s_p_law_bt_great) .none kV_p_law_bt_great dc_p_law_bt_great pm_p_law_bt_great an_p_law_bt_great cd_p_law_bt_great ct_p_law_bt_great), sl_p_law_bt_great⟩) (c_p_law_bt_great : PySem.W.codeIn K cd_p_law_bt_great "_law_bt_great" = true) (k_p_law_bt_great : PySem.W.keepIn K (.ref f_p_law_bt_great) = true)
    {f_is_whole : Addr} {od_is_whole an_is_whole : Option Addr} {sl_is_whole : Array (Option Value)} {oc_is_whole kV_is_whole dc_is_whole pm_is_whole cd_is_whole ct_is_whole : Value}
    (a_is_whole : PySem.W.nsIn K mainGlobals "is_whole" = some (some (.ref f_is_whole)))
    (l_is_whole : K.lookup f_is_whole = some ⟨oc_is_whole, od_is_whole, .func (PySem.W.fnOf "is_whole" "is_whole" (defArgs s_is_whole) (defBody s_is_whole) (defScope s_is_whole) .none kV_is_whole dc_is_whole pm_is_whole an_is_whole cd_is_whole ct_is_whole), sl_is_whole⟩) (c_is_whole : PySem.W.codeIn K cd_is_whole "is_whole" = true) (k_is_whole : PySem.W.keepIn K (.ref f_is_whole) = true)
    {f_is_amount : Addr} {od_is_amount an_is_amount : Option Addr} {sl_is_amount : Array (Option Value)} {oc_is_amount kV_is_amount dc_is_amount pm_is_amount cd_is_amount ct_is_amount : Value}
    (a_is_amount : PySem.W.nsIn K mainGlobals "is_amount" = some (some (.ref f_is_amount)))
    (l_is_amount : K.lookup f_is_amount = some ⟨oc_is_amount, od_is_amount, .func (PySem.W.fnOf "is_amount" "is_amount" (defArgs s_is_amount) (defBody s_is_amount) (defScope s_is_amount) .none kV_is_amount dc_is_amount pm_is_amount an_is_amount cd_is_amount ct_is_amount), sl_is_amount⟩) (c_is_amount : PySem.W.codeIn K cd_is_amount "is_amount" = true) (k_is_amount : PySem.W.keepIn K (.ref f_is_amount) = true)
    {f_p_tables_rows : Addr} {od_p_tables_rows an_p_tables_rows : Option Addr} {sl_p_tables_rows : Array (Option Value)} {oc_p_tables_rows kV_p_tables_rows dc_p_tables_rows pm_p_tables_rows cd_p_tables_rows ct_p_tables_rows : Value}
    (a_p_tables_rows : PySem.W.nsIn K mainGlobals "_tables_rows" = some (some (.ref f_p_tables_rows)))
    (l_p_tables_rows : K.lookup f_p_tables_rows = some ⟨oc_p_tables_rows, od_p_tables_rows, .func (PySem.W.fnOf "_tables_rows" "_tables_rows" (defArgs s_p_tables_rows) (defBody s_p_tables_rows) (defScope s_p_tables_rows) .none kV_p_tables_rows dc_p_tables_rows pm_p_tables_rows an_p_tables_rows cd_p_tables_rows ct_p_tables_rows), sl_p_tables_rows⟩) (c_p_tables_rows : PySem.W.codeIn K cd_p_tables_rows "_tables_rows" = true) (k_p_tables_rows : PySem.W.keepIn K (.ref f_p_tables_rows) = true)
    {f_Table_init : Addr} {od_Table_init an_Table_init : Option Addr} {sl_Table_init : Array (Option Value)} {oc_Table_init kV_Table_init dc_Table_init pm_Table_init cd_Table_init ct_Table_init : Value}
    (a_Table_init : PySem.W.findIn K (.ref C_Table) "__init__" = some (some (.ref f_Table_init))) (i_Table_init : PySem.W.isFn K (.ref f_Table_init) = true)
    (l_Table_init : K.lookup f_Table_init = some ⟨oc_Table_init, od_Table_init, .func (PySem.W.fnOf "__init__" "Table.__init__" (defArgs s_Table_init) (defBody s_Table_init) (defScope s_Table_init) .none kV_Table_init dc_Table_init pm_Table_init an_Table_init cd_Table_init ct_Table_init), sl_Table_init⟩) (c_Table_init : PySem.W.codeIn K cd_Table_init "Table.__init__" = true) (k_Table_init : PySem.W.keepIn K (.ref f_Table_init) = true)
    {f_below : Addr} {od_below an_below : Option Addr} {sl_below : Array (Option Value)} {oc_below kV_below dc_below pm_below cd_below ct_below : Value}
    (a_below : PySem.W.nsIn K mainGlobals "below" = some (some (.ref f_below)))
    (l_below : K.lookup f_below = some ⟨oc_below, od_below, .func (PySem.W.fnOf "below" "below" (defArgs s_below) (defBody s_below) (defScope s_below) .none kV_below dc_below pm_below an_below cd_below ct_below), sl_below⟩) (c_below : PySem.W.codeIn K cd_below "below" = true) (k_below : PySem.W.keepIn K (.ref f_below) = true)
    {f_plus : Addr} {od_plus an_plus : Option Addr} {sl_plus : Array (Option Value)} {oc_plus kV_plus dc_plus pm_plus cd_plus ct_plus : Value}
    (a_plus : PySem.W.nsIn K mainGlobals "plus" = some (some (.ref f_plus)))
    (l_plus : K.lookup f_plus = some ⟨oc_plus, od_plus, .func (PySem.W.fnOf "plus" "plus" (defArgs s_plus) (defBody s_plus) (defScope s_plus) .none kV_plus dc_plus pm_plus an_plus cd_plus ct_plus), sl_plus⟩) (c_plus : PySem.W.codeIn K cd_plus "plus" = true) (k_plus : PySem.W.keepIn K (.ref f_plus) = true)
    {f_p_bent_states : Addr} {od_p_bent_states an_p_bent_states : Option Addr} {sl_p_bent_states : Array (Option Value)} {oc_p_bent_states kV_p_bent_states dc_p_bent_states pm_p_bent_states cd_p_bent_states ct_p_bent_states : Value}
    (a_p_bent_states : PySem.W.nsIn K mainGlobals "_bent_states" = some (some (.ref f_p_bent_states)))
    (l_p_bent_states : K.lookup f_p_bent_states = some ⟨oc_p_bent_states, od_p_bent_states, .func (PySem.W.fnOf "_bent_states" "_bent_states" (defArgs s_p_bent_states) (defBody s_p_bent_states) (defScope s_p_bent_states) .none kV_p_bent_states dc_p_bent_states pm_p_bent_states an_p_bent_states cd_p_bent_states ct_p_bent_states), sl_p_bent_states⟩) (c_p_bent_states : PySem.W.codeIn K cd_p_bent_states "_bent_states" = true) (k_p_bent_states : PySem.W.keepIn K (.ref f_p_bent_states) = true)
    {f_bent_break : Addr} {od_bent_break an_bent_break : Option Addr} {sl_bent_break : Array (Option Value)} {oc_bent_break kV_bent_break dc_bent_break pm_bent_break cd_bent_break ct_bent_break : Value}
    (a_bent_break : PySem.W.nsIn K mainGlobals "bent_break" = some (some (.ref f_bent_break)))
    (l_bent_break : K.lookup f_bent_break = some ⟨oc_bent_break, od_bent_break, .func (PySem.W.fnOf "bent_break" "bent_break" (defArgs s_bent_break) (defBody s_bent_break) (defScope s_bent_break) .none kV_bent_break dc_bent_break pm_bent_break an_bent_break cd_bent_break ct_bent_break), sl_bent_break⟩) (c_bent_break : PySem.W.codeIn K cd_bent_break "bent_break" = true) (k_bent_break : PySem.W.keepIn K (.ref f_bent_break) = true)
    {f_p_bent_out : Addr} {od_p_bent_out an_p_bent_out : Option Addr} {sl_p_bent_out : Array (Option Value)} {oc_p_bent_out kV_p_bent_out dc_p_bent_out pm_p_bent_out cd_p_bent_out ct_p_bent_out : Value}
    (a_p_bent_out : PySem.W.nsIn K mainGlobals "_bent_out" = some (some (.ref f_p_bent_out)))
    (l_p_bent_out : K.lookup f_p_bent_out = some ⟨oc_p_bent_out, od_p_bent_out, .func (PySem.W.fnOf "_bent_out" "_bent_out" (defArgs s_p_bent_out) (defBody s_p_bent_out) (defScope s_p_bent_out) .none kV_p_bent_out dc_p_bent_out pm_p_bent_out an_p_bent_out cd_p_bent_out ct_p_bent_out), sl_p_bent_out⟩) (c_p_bent_out : PySem.W.codeIn K cd_p_bent_out "_bent_out" = true) (k_p_bent_out : PySem.W.keepIn K (.ref f_p_bent_out) = true)
    {f_Unbent_init : Addr} {od_Unbent_init an_Unbent_init : Option Addr} {sl_Unbent_init : Array (Option Value)} {oc_Unbent_init kV_Unbent_init dc_Unbent_init pm_Unbent_init cd_Unbent_init ct_Unbent_init : Value}
    (a_Unbent_init : PySem.W.findIn K (.ref C_Unbent) "__init__" = some (some (.ref f_Unbent_init))) (i_Unbent_init : PySem.W.isFn K (.ref f_Unbent_init) = true)
    (l_Unbent_init : K.lookup f_Unbent_init = some ⟨oc_Unbent_init, od_Unbent_init, .func (PySem.W.fnOf "__init__" "Unbent.__init__" (defArgs s_Unbent_init) (defBody s_Unbent_init) (defScope s_Unbent_init) .none kV_Unbent_init dc_Unbent_init pm_Unbent_init an_Unbent_init cd_Unbent_init ct_Unbent_init), sl_Unbent_init⟩) (c_Unbent_init : PySem.W.codeIn K cd_Unbent_init "Unbent.__init__" = true) (k_Unbent_init : PySem.W.keepIn K (.ref f_Unbent_init) = true)
    {f_unbent : Addr} {od_unbent an_unbent : Option Addr} {sl_unbent : Array (Option Value)} {oc_unbent kV_unbent dc_unbent pm_unbent cd_unbent ct_unbent : Value}
    (a_unbent : PySem.W.nsIn K mainGlobals "unbent" = some (some (.ref f_unbent)))
    (l_unbent : K.lookup f_unbent = some ⟨oc_unbent, od_unbent, .func (PySem.W.fnOf "unbent" "unbent" (defArgs s_unbent) (defBody s_unbent) (defScope s_unbent) .none kV_unbent dc_unbent pm_unbent an_unbent cd_unbent ct_unbent), sl_unbent⟩) (c_unbent : PySem.W.codeIn K cd_unbent "unbent" = true) (k_unbent : PySem.W.keepIn K (.ref f_unbent) = true)
    {f_p_law_whole : Addr} {od_p_law_whole an_p_law_whole : Option Addr} {sl_p_law_whole : Array (Option Value)} {oc_p_law_whole kV_p_law_whole dc_p_law_whole pm_p_law_whole cd_p_law_whole ct_p_law_whole : Value}
    (a_p_law_whole : PySem.W.nsIn K mainGlobals "_law_whole" = some (some (.ref f_p_law_whole)))
    (l_p_law_whole : K.lookup f_p_law_whole = some ⟨oc_p_law_whole, od_p_law_whole, .func (PySem.W.fnOf "_law_whole" "_law_whole" (defArgs s_p_law_whole) (defBody s_p_law_whole) (defScope s_p_law_whole) .none kV_p_law_whole dc_p_law_whole pm_p_law_whole an_p_law_whole cd_p_law_whole ct_p_law_whole), sl_p_law_whole⟩) (c_p_law_whole : PySem.W.codeIn K cd_p_law_whole "_law_whole" = true) (k_p_law_whole : PySem.W.keepIn K (.ref f_p_law_whole) = true)
    {f_p_law_below : Addr} {od_p_law_below an_p_law_below : Option Addr} {sl_p_law_below : Array (Option Value)} {oc_p_law_below kV_p_law_below dc_p_law_below pm_p_law_below cd_p_law_below ct_p_law_below : Value}
    (a_p_law_below : PySem.W.nsIn K mainGlobals "_law_below" = some (some (.ref f_p_law_below)))
    (l_p_law_below : K.lookup f_p_law_below = some ⟨oc_p_law_below, od_p_law_below, .func (PySem.W.fnOf "_law_below" "_law_below" (defArgs s_p_law_below) (defBody s_p_law_below) (defScope s_p_law_below) .none kV_p_law_below dc_p_law_below pm_p_law_below an_p_law_below cd_p_law_below ct_p_law_below), sl_p_law_below⟩) (c_p_law_below : PySem.W.codeIn K cd_p_law_below "_law_below" = true) (k_p_law_below : PySem.W.keepIn K (.ref f_p_law_below) = true)
    {f_p_law_lesser : Addr} {od_p_law_lesser an_p_law_lesser : Option Addr} {sl_p_law_lesser : Array (Option Value)} {oc_p_law_lesser kV_p_law_lesser dc_p_law_lesser pm_p_law_lesser cd_p_law_lesser ct_p_law_lesser : Value}
    (a_p_law_lesser : PySem.W.nsIn K mainGlobals "_law_lesser" = some (some (.ref f_p_law_lesser)))
    (l_p_law_lesser : K.lookup f_p_law_lesser = some ⟨oc_p_law_lesser, od_p_law_lesser, .func (PySem.W.fnOf "_law_lesser" "_law_lesser" (defArgs s_p_law_lesser) (defBody s_p_law_lesser) (defScope s_p_law_lesser) .none kV_p_law_lesser dc_p_law_lesser pm_p_law_lesser an_p_law_lesser cd_p_law_lesser ct_p_law_lesser), sl_p_law_lesser⟩) (c_p_law_lesser : PySem.W.codeIn K cd_p_law_lesser "_law_lesser" = true) (k_p_law_lesser : PySem.W.keepIn K (.ref f_p_law_lesser) = true)
    {f_p_law_plus : Addr} {od_p_law_plus an_p_law_plus : Option Addr} {sl_p_law_plus : Array (Option Value)} {oc_p_law_plus kV_p_law_plus dc_p_law_plus pm_p_law_plus cd_p_law_plus ct_p_law_plus : Value}
    (a_p_law_plus : PySem.W.nsIn K mainGlobals "_law_plus" = some (some (.ref f_p_law_plus)))
    (l_p_law_plus : K.lookup f_p_law_plus = some ⟨oc_p_law_plus, od_p_law_plus, .func (PySem.W.fnOf "_law_plus" "_law_plus" (defArgs s_p_law_plus) (defBody s_p_law_plus) (defScope s_p_law_plus) .none kV_p_law_plus dc_p_law_plus pm_p_law_plus an_p_law_plus cd_p_law_plus ct_p_law_plus), sl_p_law_plus⟩) (c_p_law_plus : PySem.W.codeIn K cd_p_law_plus "_law_plus" = true) (k_p_law_plus : PySem.W.keepIn K (.ref f_p_law_plus) = true)
    {f_p_law_ub_bests : Addr} {od_p_law_ub_bests an_p_law_ub_bests : Option Addr} {sl_p_law_ub_bests : Array (Option Value)} {oc_p_law_ub_bests kV_p_law_ub_bests dc_p_law_ub_bests pm_p_law_ub_bests cd_p_law_ub_bests ct_p_law_ub_bests : Value}
    (a_p_law_ub_bests : PySem.W.nsIn K mainGlobals "_law_ub_bests" = some (some (.ref f_p_law_ub_bests)))
    (l_p_law_ub_bests : K.lookup f_p_law_ub_bests = some ⟨oc_p_law_ub_bests, od_p_law_ub_bests, .func (PySem.W.fnOf "_law_ub_bests" "_law_ub_bests" (defArgs s_p_law_ub_bests) (defBody s_p_law_ub_bests) (defScope s_p_law_ub_bests) .none kV_p_law_ub_bests dc_p_law_ub_bests pm_p_law_ub_bests an_p_law_ub_bests cd_p_law_ub_bests ct_p_law_ub_bests), sl_p_law_ub_bests⟩) (c_p_law_ub_bests : PySem.W.codeIn K cd_p_law_ub_bests "_law_ub_bests" = true) (k_p_law_ub_bests : PySem.W.keepIn K (.ref f_p_law_ub_bests) = true)
    {f_p_law_ub_shows : Addr} {od_p_law_ub_shows an_p_law_ub_shows : Option Addr} {sl_p_law_ub_shows : Array (Option Value)} {oc_p_law_ub_shows kV_p_law_ub_shows dc_p_law_ub_shows pm_p_law_ub_shows cd_p_law_ub_shows ct_p_law_ub_shows : Value}
    (a_p_law_ub_shows : PySem.W.nsIn K mainGlobals "_law_ub_shows" = some (some (.ref f_p_law_ub_shows)))
    (l_p_law_ub_shows : K.lookup f_p_law_ub_shows = some ⟨oc_p_law_ub_shows, od_p_law_ub_shows, .func (PySem.W.fnOf "_law_ub_shows" "_law_ub_shows" (defArgs s_p_law_ub_shows) (defBody s_p_law_ub_shows) (defScope s_p_law_ub_shows) .none kV_p_law_ub_shows dc_p_law_ub_shows pm_p_law_ub_shows an_p_law_ub_shows cd_p_law_ub_shows ct_p_law_ub_shows), sl_p_law_ub_shows⟩) (c_p_law_ub_shows : PySem.W.codeIn K cd_p_law_ub_shows "_law_ub_shows" = true) (k_p_law_ub_shows : PySem.W.keepIn K (.ref f_p_law_ub_shows) = true)
    {f_at_most : Addr} {od_at_most an_at_most : Option Addr} {sl_at_most : Array (Option Value)} {oc_at_most kV_at_most dc_at_most pm_at_most cd_at_most ct_at_most : Value}
    (a_at_most : PySem.W.nsIn K mainGlobals "at_most" = some (some (.ref f_at_most)))
    (l_at_most : K.lookup f_at_most = some ⟨oc_at_most, od_at_most, .func (PySem.W.fnOf "at_most" "at_most" (defArgs s_at_most) (defBody s_at_most) (defScope s_at_most) .none kV_at_most dc_at_most pm_at_most an_at_most cd_at_most ct_at_most), sl_at_most⟩) (c_at_most : PySem.W.codeIn K cd_at_most "at_most" = true) (k_at_most : PySem.W.keepIn K (.ref f_at_most) = true)
    {f_lesser : Addr} {od_lesser an_lesser : Option Addr} {sl_lesser : Array (Option Value)} {oc_lesser kV_lesser dc_lesser pm_lesser cd_lesser ct_lesser : Value}
    (a_lesser : PySem.W.nsIn K mainGlobals "lesser" = some (some (.ref f_lesser)))
    (l_lesser : K.lookup f_lesser = some ⟨oc_lesser, od_lesser, .func (PySem.W.fnOf "lesser" "lesser" (defArgs s_lesser) (defBody s_lesser) (defScope s_lesser) .none kV_lesser dc_lesser pm_lesser an_lesser cd_lesser ct_lesser), sl_lesser⟩) (c_lesser : PySem.W.codeIn K cd_lesser "lesser" = true) (k_lesser : PySem.W.keepIn K (.ref f_lesser) = true)
    {f_least_of : Addr} {od_least_of an_least_of : Option Addr} {sl_least_of : Array (Option Value)} {oc_least_of kV_least_of dc_least_of pm_least_of cd_least_of ct_least_of : Value}
    (a_least_of : PySem.W.nsIn K mainGlobals "least_of" = some (some (.ref f_least_of)))
    (l_least_of : K.lookup f_least_of = some ⟨oc_least_of, od_least_of, .func (PySem.W.fnOf "least_of" "least_of" (defArgs s_least_of) (defBody s_least_of) (defScope s_least_of) .none kV_least_of dc_least_of pm_least_of an_least_of cd_least_of ct_least_of), sl_least_of⟩) (c_least_of : PySem.W.codeIn K cd_least_of "least_of" = true) (k_least_of : PySem.W.keepIn K (.ref f_least_of) = true)
    {f_p_bent_bests : Addr} {od_p_bent_bests an_p_bent_bests : Option Addr} {sl_p_bent_bests : Array (Option Value)} {oc_p_bent_bests kV_p_bent_bests dc_p_bent_bests pm_p_bent_bests cd_p_bent_bests ct_p_bent_bests : Value}
    (a_p_bent_bests : PySem.W.nsIn K mainGlobals "_bent_bests" = some (some (.ref f_p_bent_bests)))
    (l_p_bent_bests : K.lookup f_p_bent_bests = some ⟨oc_p_bent_bests, od_p_bent_bests, .func (PySem.W.fnOf "_bent_bests" "_bent_bests" (defArgs s_p_bent_bests) (defBody s_p_bent_bests) (defScope s_p_bent_bests) .none kV_p_bent_bests dc_p_bent_bests pm_p_bent_bests an_p_bent_bests cd_p_bent_bests ct_p_bent_bests), sl_p_bent_bests⟩) (c_p_bent_bests : PySem.W.codeIn K cd_p_bent_bests "_bent_bests" = true) (k_p_bent_bests : PySem.W.keepIn K (.ref f_p_bent_bests) = true)
    {f_shows_unbent : Addr} {od_shows_unbent an_shows_unbent : Option Addr} {sl_shows_unbent : Array (Option Value)} {oc_shows_unbent kV_shows_unbent dc_shows_unbent pm_shows_unbent cd_shows_unbent ct_shows_unbent : Value}
    (a_shows_unbent : PySem.W.nsIn K mainGlobals "shows_unbent" = some (some (.ref f_shows_unbent)))
    (l_shows_unbent : K.lookup f_shows_unbent = some ⟨oc_shows_unbent, od_shows_unbent, .func (PySem.W.fnOf "shows_unbent" "shows_unbent" (defArgs s_shows_unbent) (defBody s_shows_unbent) (defScope s_shows_unbent) .none kV_shows_unbent dc_shows_unbent pm_shows_unbent an_shows_unbent cd_shows_unbent ct_shows_unbent), sl_shows_unbent⟩) (c_shows_unbent : PySem.W.codeIn K cd_shows_unbent "shows_unbent" = true) (k_shows_unbent : PySem.W.keepIn K (.ref f_shows_unbent) = true)
    {f_p_law_ub_made : Addr} {od_p_law_ub_made an_p_law_ub_made : Option Addr} {sl_p_law_ub_made : Array (Option Value)} {oc_p_law_ub_made kV_p_law_ub_made dc_p_law_ub_made pm_p_law_ub_made cd_p_law_ub_made ct_p_law_ub_made : Value}
    (a_p_law_ub_made : PySem.W.nsIn K mainGlobals "_law_ub_made" = some (some (.ref f_p_law_ub_made)))
    (l_p_law_ub_made : K.lookup f_p_law_ub_made = some ⟨oc_p_law_ub_made, od_p_law_ub_made, .func (PySem.W.fnOf "_law_ub_made" "_law_ub_made" (defArgs s_p_law_ub_made) (defBody s_p_law_ub_made) (defScope s_p_law_ub_made) .none kV_p_law_ub_made dc_p_law_ub_made pm_p_law_ub_made an_p_law_ub_made cd_p_law_ub_made ct_p_law_ub_made), sl_p_law_ub_made⟩) (c_p_law_ub_made : PySem.W.codeIn K cd_p_law_ub_made "_law_ub_made" = true) (k_p_law_ub_made : PySem.W.keepIn K (.ref f_p_law_ub_made) = true)
    {f_p_law_ub_own : Addr} {od_p_law_ub_own an_p_law_ub_own : Option Addr} {sl_p_law_ub_own : Array (Option Value)} {oc_p_law_ub_own kV_p_law_ub_own dc_p_law_ub_own pm_p_law_ub_own cd_p_law_ub_own ct_p_law_ub_own : Value}
    (a_p_law_ub_own : PySem.W.nsIn K mainGlobals "_law_ub_own" = some (some (.ref f_p_law_ub_own)))
    (l_p_law_ub_own : K.lookup f_p_law_ub_own = some ⟨oc_p_law_ub_own, od_p_law_ub_own, .func (PySem.W.fnOf "_law_ub_own" "_law_ub_own" (defArgs s_p_law_ub_own) (defBody s_p_law_ub_own) (defScope s_p_law_ub_own) .none kV_p_law_ub_own dc_p_law_ub_own pm_p_law_ub_own an_p_law_ub_own cd_p_law_ub_own ct_p_law_ub_own), sl_p_law_ub_own⟩) (c_p_law_ub_own : PySem.W.codeIn K cd_p_law_ub_own "_law_ub_own" = true) (k_p_law_ub_own : PySem.W.keepIn K (.ref f_p_law_ub_own) = true)
    {f_p_law_ub_judged : Addr} {od_p_law_ub_judged an_p_law_ub_judged : Option Addr} {sl_p_law_ub_judged : Array (Option Value)} {oc_p_law_ub_judged kV_p_law_ub_judged dc_p_law_ub_judged pm_p_law_ub_judged cd_p_law_ub_judged ct_p_law_ub_judged : Value}
    (a_p_law_ub_judged : PySem.W.nsIn K mainGlobals "_law_ub_judged" = some (some (.ref f_p_law_ub_judged)))
    (l_p_law_ub_judged : K.lookup f_p_law_ub_judged = some ⟨oc_p_law_ub_judged, od_p_law_ub_judged, .func (PySem.W.fnOf "_law_ub_judged" "_law_ub_judged" (defArgs s_p_law_ub_judged) (defBody s_p_law_ub_judged) (defScope s_p_law_ub_judged) .none kV_p_law_ub_judged dc_p_law_ub_judged pm_p_law_ub_judged an_p_law_ub_judged cd_p_law_ub_judged ct_p_law_ub_judged), sl_p_law_ub_judged⟩) (c_p_law_ub_judged : PySem.W.codeIn K cd_p_law_ub_judged "_law_ub_judged" = true) (k_p_law_ub_judged : PySem.W.keepIn K (.ref f_p_law_ub_judged) = true)
    {f_p_law_ub_spoilt : Addr} {od_p_law_ub_spoilt an_p_law_ub_spoilt : Option Addr} {sl_p_law_ub_spoilt : Array (Option Value)} {oc_p_law_ub_spoilt kV_p_law_ub_spoilt dc_p_law_ub_spoilt pm_p_law_ub_spoilt cd_p_law_ub_spoilt ct_p_law_ub_spoilt : Value}
    (a_p_law_ub_spoilt : PySem.W.nsIn K mainGlobals "_law_ub_spoilt" = some (some (.ref f_p_law_ub_spoilt)))
    (l_p_law_ub_spoilt : K.lookup f_p_law_ub_spoilt = some ⟨oc_p_law_ub_spoilt, od_p_law_ub_spoilt, .func (PySem.W.fnOf "_law_ub_spoilt" "_law_ub_spoilt" (defArgs s_p_law_ub_spoilt) (defBody s_p_law_ub_spoilt) (defScope s_p_law_ub_spoilt) .none kV_p_law_ub_spoilt dc_p_law_ub_spoilt pm_p_law_ub_spoilt an_p_law_ub_spoilt cd_p_law_ub_spoilt ct_p_law_ub_spoilt), sl_p_law_ub_spoilt⟩) (c_p_law_ub_spoilt : PySem.W.codeIn K cd_p_law_ub_spoilt "_law_ub_spoilt" = true) (k_p_law_ub_spoilt : PySem.W.keepIn K (.ref f_p_law_ub_spoilt) = true)
    {f_p_law_ub_great : Addr} {od_p_law_ub_great an_p_law_ub_great : Option Addr} {sl_p_law_ub_great : Array (Option Value)} {oc_p_law_ub_great kV_p_law_ub_great dc_p_law_ub_great pm_p_law_ub_great cd_p_law_ub_great ct_p_law_ub_great : Value}
    (a_p_law_ub_great : PySem.W.nsIn K mainGlobals "_law_ub_great" = some (some (.ref f_p_law_ub_great)))
    (l_p_law_ub_great : K.lookup f_p_law_ub_great = some ⟨oc_p_law_ub_great, od_p_law_ub_great, .func (PySem.W.fnOf "_law_ub_great" "_law_ub_great" (defArgs s_p_law_ub_great) (defBody s_p_law_ub_great) (defScope s_p_law_ub_great) .none kV_p_law_ub_great dc_p_law_ub_great pm_p_law_ub_great an_p_law_ub_great cd_p_law_ub_great ct_p_law_ub_great), sl_p_law_ub_great⟩) (c_p_law_ub_great : PySem.W.codeIn K cd_p_law_ub_great "_law_ub_great" = true) (k_p_law_ub_great : PySem.W.keepIn K (.ref f_p_law_ub_great) = true)
    {f_p_law_bt_free : Addr} {od_p_law_bt_free an_p_law_bt_free : Option Addr} {sl_p_law_bt_free : Array (Option Value)} {oc_p_law_bt_free kV_p_law_bt_free dc_p_law_bt_free pm_p_law_bt_free cd_p_law_bt_free ct_p_law_bt_free : Value}
    (a_p_law_bt_free : PySem.W.nsIn K mainGlobals "_law_bt_free" = some (some (.ref f_p_law_bt_free)))
    (l_p_law_bt_free : K.lookup f_p_law_bt_free = some ⟨oc_p_law_bt_free, od_p_law_bt_free, .func (PySem.W.fnOf "_law_bt_free" "_law_bt_free" (defArgs s_p_law_bt_free) (defBody s_p_law_bt_free) (defScope s_p_law_bt_free) .none kV_p_law_bt_free dc_p_law_bt_free pm_p_law_bt_free an_p_law_bt_free cd_p_law_bt_free ct_p_law_bt_free), sl_p_law_bt_free⟩) (c_p_law_bt_free : PySem.W.codeIn K cd_p_law_bt_free "_law_bt_free" = true) (k_p_law_bt_free : PySem.W.keepIn K (.ref f_p_law_bt_free) = true)
    {f_p_law_bt_cut : Addr} {od_p_law_bt_cut an_p_law_bt_cut : Option Addr} {sl_p_law_bt_cut : Array (Option Value)} {oc_p_law_bt_cut kV_p_law_bt_cut dc_p_law_bt_cut pm_p_law_bt_cut cd_p_law_bt_cut ct_p_law_bt_cut : Value}
    (a_p_law_bt_cut : PySem.W.nsIn K mainGlobals "_law_bt_cut" = some (some (.ref f_p_law_bt_cut)))
    (l_p_law_bt_cut : K.lookup f_p_law_bt_cut = some ⟨oc_p_law_bt_cut, od_p_law_bt_cut, .func (PySem.W.fnOf "_law_bt_cut" "_law_bt_cut" (defArgs s_p_law_bt_cut) (defBody s_p_law_bt_cut) (defScope s_p_law_bt_cut) .none kV_p_law_bt_cut dc_p_law_bt_cut pm_p_law_bt_cut an_p_law_bt_cut cd_p_law_bt_cut ct_p_law_bt_cut), sl_p_law_bt_cut⟩) (c_p_law_bt_cut : PySem.W.codeIn K cd_p_law_bt_cut "_law_bt_cut" = true) (k_p_law_bt_cut : PySem.W.keepIn K (.ref f_p_law_bt_cut) = true)
    {f_p_law_bt_sums : Addr} {od_p_law_bt_sums an_p_law_bt_sums : Option Addr} {sl_p_law_bt_sums : Array (Option Value)} {oc_p_law_bt_sums kV_p_law_bt_sums dc_p_law_bt_sums pm_p_law_bt_sums cd_p_law_bt_sums ct_p_law_bt_sums : Value}
    (a_p_law_bt_sums : PySem.W.nsIn K mainGlobals "_law_bt_sums" = some (some (.ref f_p_law_bt_sums)))
    (l_p_law_bt_sums : K.lookup f_p_law_bt_sums = some ⟨oc_p_law_bt_sums, od_p_law_bt_sums, .func (PySem.W.fnOf "_law_bt_sums" "_law_bt_sums" (defArgs s_p_law_bt_sums) (defBody s_p_law_bt_sums) (defScope s_p_law_bt_sums) .none kV_p_law_bt_sums dc_p_law_bt_sums pm_p_law_bt_sums an_p_law_bt_sums cd_p_law_bt_sums ct_p_law_bt_sums), sl_p_law_bt_sums⟩) (c_p_law_bt_sums : PySem.W.codeIn K cd_p_law_bt_sums "_law_bt_sums" = true) (k_p_law_bt_sums : PySem.W.keepIn K (.ref f_p_law_bt_sums) = true)
    {f_p_law_ub_rows : Addr} {od_p_law_ub_rows an_p_law_ub_rows : Option Addr} {sl_p_law_ub_rows : Array (Option Value)} {oc_p_law_ub_rows kV_p_law_ub_rows dc_p_law_ub_rows pm_p_law_ub_rows cd_p_law_ub_rows ct_p_law_ub_rows : Value}
    (a_p_law_ub_rows : PySem.W.nsIn K mainGlobals "_law_ub_rows" = some (some (.ref f_p_law_ub_rows)))
    (l_p_law_ub_rows : K.lookup f_p_law_ub_rows = some ⟨oc_p_law_ub_rows, od_p_law_ub_rows, .func (PySem.W.fnOf "_law_ub_rows" "_law_ub_rows" (defArgs s_p_law_ub_rows) (defBody s_p_law_ub_rows) (defScope s_p_law_ub_rows) .none kV_p_law_ub_rows dc_p_law_ub_rows pm_p_law_ub_rows an_p_law_ub_rows cd_p_law_ub_rows ct_p_law_ub_rows), sl_p_law_ub_rows⟩) (c_p_law_ub_rows : PySem.W.codeIn K cd_p_law_ub_rows "_law_ub_rows" = true) (k_p_law_ub_rows : PySem.W.keepIn K (.ref f_p_law_ub_rows) = true)
    {f_p_law_bt_break : Addr} {od_p_law_bt_break an_p_law_bt_break : Option Addr} {sl_p_law_bt_break : Array (Option Value)} {oc_p_law_bt_break kV_p_law_bt_break dc_p_law_bt_break pm_p_law_bt_break cd_p_law_bt_break ct_p_law_bt_break : Value}
    (a_p_law_bt_break : PySem.W.nsIn K mainGlobals "_law_bt_break" = some (some (.ref f_p_law_bt_break)))
    (l_p_law_bt_break : K.lookup f_p_law_bt_break = some ⟨oc_p_law_bt_break, od_p_law_bt_break, .func (PySem.W.fnOf "_law_bt_break" "_law_bt_break" (defArgs s_p_law_bt_break) (defBody s_p_law_bt_break) (defScope s_p_law_bt_break) .none kV_p_law_bt_break dc_p_law_bt_break pm_p_law_bt_break an_p_law_bt_break cd_p_law_bt_break ct_p_law_bt_break), sl_p_law_bt_break⟩) (c_p_law_bt_break : PySem.W.codeIn K cd_p_law_bt_break "_law_bt_break" = true) (k_p_law_bt_break : PySem.W.keepIn K (.ref f_p_law_bt_break) = true)
    {f_p_law_ub_refused : Addr} {od_p_law_ub_refused an_p_law_ub_refused : Option Addr} {sl_p_law_ub_refused : Array (Option Value)} {oc_p_law_ub_refused kV_p_law_ub_refused dc_p_law_ub_refused pm_p_law_ub_refused cd_p_law_ub_refused ct_p_law_ub_refused : Value}
    (a_p_law_ub_refused : PySem.W.nsIn K mainGlobals "_law_ub_refused" = some (some (.ref f_p_law_ub_refused)))
    (l_p_law_ub_refused : K.lookup f_p_law_ub_refused = some ⟨oc_p_law_ub_refused, od_p_law_ub_refused, .func (PySem.W.fnOf "_law_ub_refused" "_law_ub_refused" (defArgs s_p_law_ub_refused) (defBody s_p_law_ub_refused) (defScope s_p_law_ub_refused) .none kV_p_law_ub_refused dc_p_law_ub_refused pm_p_law_ub_refused an_p_law_ub_refused cd_p_law_ub_refused ct_p_law_ub_refused), sl_p_law_ub_refused⟩) (c_p_law_ub_refused : PySem.W.codeIn K cd_p_law_ub_refused "_law_ub_refused" = true) (k_p_law_ub_refused : PySem.W.keepIn K (.ref f_p_law_ub_refused) = true)
    {f_p_law_ub_refusals : Addr} {od_p_law_ub_refusals an_p_law_ub_refusals : Option Addr} {sl_p_law_ub_refusals : Array (Option Value)} {oc_p_law_ub_refusals kV_p_law_ub_refusals dc_p_law_ub_refusals pm_p_law_ub_refusals cd_p_law_ub_refusals ct_p_law_ub_refusals : Value}
    (a_p_law_ub_refusals : PySem.W.nsIn K mainGlobals "_law_ub_refusals" = some (some (.ref f_p_law_ub_refusals)))
    (l_p_law_ub_refusals : K.lookup f_p_law_ub_refusals = some ⟨oc_p_law_ub_refusals, od_p_law_ub_refusals, .func (PySem.W.fnOf "_law_ub_refusals" "_law_ub_refusals" (defArgs s_p_law_ub_refusals) (defBody s_p_law_ub_refusals) (defScope s_p_law_ub_refusals) .none kV_p_law_ub_refusals dc_p_law_ub_refusals pm_p_law_ub_refusals an_p_law_ub_refusals cd_p_law_ub_refusals ct_p_law_ub_refusals), sl_p_law_ub_refusals⟩) (c_p_law_ub_refusals : PySem.W.codeIn K cd_p_law_ub_refusals "_law_ub_refusals" = true) (k_p_law_ub_refusals : PySem.W.keepIn K (.ref f_p_law_ub_refusals) = true)
    {f_p_law_ub_kept : Addr} {od_p_law_ub_kept an_p_law_ub_kept : Option Addr} {sl_p_law_ub_kept : Array (Option Value)} {oc_p_law_ub_kept kV_p_law_ub_kept dc_p_law_ub_kept pm_p_law_ub_kept cd_p_law_ub_kept ct_p_law_ub_kept : Value}
    (a_p_law_ub_kept : PySem.W.nsIn K mainGlobals "_law_ub_kept" = some (some (.ref f_p_law_ub_kept)))
    (l_p_law_ub_kept : K.lookup f_p_law_ub_kept = some ⟨oc_p_law_ub_kept, od_p_law_ub_kept, .func (PySem.W.fnOf "_law_ub_kept" "_law_ub_kept" (defArgs s_p_law_ub_kept) (defBody s_p_law_ub_kept) (defScope s_p_law_ub_kept) .none kV_p_law_ub_kept dc_p_law_ub_kept pm_p_law_ub_kept an_p_law_ub_kept cd_p_law_ub_kept ct_p_law_ub_kept), sl_p_law_ub_kept⟩) (c_p_law_ub_kept : PySem.W.codeIn K cd_p_law_ub_kept "_law_ub_kept" = true) (k_p_law_ub_kept : PySem.W.keepIn K (.ref f_p_law_ub_kept) = true)
    {f_law : Addr} {od_law an_law : Option Addr} {sl_law : Array (Option Value)} {oc_law kV_law dc_law pm_law cd_law ct_law : Value}
    (a_law : PySem.W.nsIn K mainGlobals "law" = some (some (.ref f_law)))
    (l_law : K.lookup f_law = some ⟨oc_law, od_law, .func (PySem.W.fnOf "law" "law" (defArgs s_law) (defBody s_law) (defScope s_law) .none kV_law dc_law pm_law an_law cd_law ct_law), sl_law⟩) (c_law : PySem.W.codeIn K cd_law "law" = true) (k_law : PySem.W.keepIn K (.ref f_law) = true)
    (pg_Table : PySem.W.plainGet K C_Table Str.empty = true) (hd_Table : PySem.W.hasDictIn K C_Table = true) (po_Table : PySem.W.plainOver K C_Table = true) (sa_Table : PySem.W.findIn K (.ref C_Table) "__setattr__" = some (some (.builtin "object.__setattr__"))) (mk_Table : PySem.W.makesIn K C_Table = true) (kc_Table : PySem.W.keepIn K (.ref C_Table) = true)
    (ha_Table : PySem.W.findIn K (.ref C_Table) "__class__" = some (some (.builtin "object.__class__"))) (hm_Table : PySem.W.mroIn K C_Table (.type "object") = some true)
    (pg_Unbent : PySem.W.plainGet K C_Unbent Str.empty = true) (hd_Unbent : PySem.W.hasDictIn K C_Unbent = true) (po_Unbent : PySem.W.plainOver K C_Unbent = true) (sa_Unbent : PySem.W.findIn K (.ref C_Unbent) "__setattr__" = some (some (.builtin "object.__setattr__"))) (mk_Unbent : PySem.W.makesIn K C_Unbent = true) (kc_Unbent : PySem.W.keepIn K (.ref C_Unbent) = true)
    (ha_Unbent : PySem.W.findIn K (.ref C_Unbent) "__class__" = some (some (.builtin "object.__class__"))) (hm_Unbent : PySem.W.mroIn K C_Unbent (.type "object") = some true)
    (hn : PySem.W.specialIn K (.builtin "object.__class__") "__get__" = some (some (.builtin "getset_descriptor.__get__"))) (htk : PySem.W.takesIn K (.builtin "object.__class__") = some true)
    (kb_Unbent_NoneType : PySem.W.kitOne K (.type "NoneType") (.ref C_Unbent) = some false)
    (kb_Unbent_bool : PySem.W.kitOne K (.type "bool") (.ref C_Unbent) = some false)
    (kb_Unbent_int : PySem.W.kitOne K (.type "int") (.ref C_Unbent) = some false)
    (kb_Unbent_str : PySem.W.kitOne K (.type "str") (.ref C_Unbent) = some false)
    (kb_Unbent_list : PySem.W.kitOne K (.type "list") (.ref C_Unbent) = some false)
    (kb_Unbent_tuple : PySem.W.kitOne K (.type "tuple") (.ref C_Unbent) = some false)
    (ko_Unbent_Table : PySem.W.kitOne K (.ref C_Table) (.ref C_Unbent) = some false)
    (ko_Unbent_Unbent : PySem.W.kitOne K (.ref C_Unbent) (.ref C_Unbent) = some true)
    (n_Unbent_lower : PySem.W.findIn K (.ref C_Unbent) "lower" = some none)
    (n_Unbent_numbers : PySem.W.findIn K (.ref C_Unbent) "numbers" = some none)
    (n_Table_rows : PySem.W.findIn K (.ref C_Table) "rows" = some none)
    (n_Table_states : PySem.W.findIn K (.ref C_Table) "states" = some none)
    (n_Unbent_upper : PySem.W.findIn K (.ref C_Unbent) "upper" = some none)
    (z_ValueError : PySem.W.nsIn K mainGlobals "ValueError" = some none)
    (z_bool : PySem.W.nsIn K mainGlobals "bool" = some none)
    (z_enumerate : PySem.W.nsIn K mainGlobals "enumerate" = some none)
    (z_int : PySem.W.nsIn K mainGlobals "int" = some none)
    (z_isinstance : PySem.W.nsIn K mainGlobals "isinstance" = some none)
    (z_len : PySem.W.nsIn K mainGlobals "len" = some none)
    (z_list : PySem.W.nsIn K mainGlobals "list" = some none)
    (z_max : PySem.W.nsIn K mainGlobals "max" = some none)
    (z_min : PySem.W.nsIn K mainGlobals "min" = some none)
    (z_range : PySem.W.nsIn K mainGlobals "range" = some none)
    (z_tuple : PySem.W.nsIn K mainGlobals "tuple" = some none)
    (z_zip : PySem.W.nsIn K mainGlobals "zip" = some none)
    (z_super : PySem.W.nsIn K mainGlobals "super" = some none) (z_stat : PySem.W.nsIn K cStatics "thirdparty.any" = some none) (z_top : (l.prog.main.scope.names.lookup ("super" : Str)).isSome = false)
    {X_BadDeed : Addr}
    (aX_BadDeed : PySem.W.nsIn K mainGlobals "BadDeed" = some (some (.ref X_BadDeed)))
    (ga_BadDeed : PySem.W.findIn K (.ref X_BadDeed) "__getattribute__" = some (some (.builtin "BaseException.__getattribute__"))) (gg_BadDeed : PySem.W.findIn K (.ref X_BadDeed) "__getattr__" = some none) (ec_BadDeed : PySem.W.subIn K (.ref X_BadDeed) (.type "BaseException") = some true) (hX_BadDeed : PySem.W.hasDictIn K X_BadDeed = true)
    {X_BadPaper : Addr}
    (aX_BadPaper : PySem.W.nsIn K mainGlobals "BadPaper" = some (some (.ref X_BadPaper)))
    (ga_BadPaper : PySem.W.findIn K (.ref X_BadPaper) "__getattribute__" = some (some (.builtin "BaseException.__getattribute__"))) (gg_BadPaper : PySem.W.findIn K (.ref X_BadPaper) "__getattr__" = some none) (ec_BadPaper : PySem.W.subIn K (.ref X_BadPaper) (.type "BaseException") = some true) (hX_BadPaper : PySem.W.hasDictIn K X_BadPaper = true)
    {X_BadRow : Addr}
    (aX_BadRow : PySem.W.nsIn K mainGlobals "BadRow" = some (some (.ref X_BadRow)))
    (ga_BadRow : PySem.W.findIn K (.ref X_BadRow) "__getattribute__" = some (some (.builtin "BaseException.__getattribute__"))) (gg_BadRow : PySem.W.findIn K (.ref X_BadRow) "__getattr__" = some none) (ec_BadRow : PySem.W.subIn K (.ref X_BadRow) (.type "BaseException") = some true) (hX_BadRow : PySem.W.hasDictIn K X_BadRow = true)
    {X_SureError : Addr}
    (aX_SureError : PySem.W.nsIn K mainGlobals "SureError" = some (some (.ref X_SureError)))
    {nm_BadPaper q_BadPaper : Str} {N_BadPaper_ : Addr} {bs_BadPaper bm_BadPaper : List Value} {sn_BadPaper : List Str} {sub_BadPaper : List Value} {ab_BadPaper : Bool} {col_BadPaper : Option Bool} {dd_BadPaper : Option Addr} {m0_BadPaper m1_BadPaper m2_BadPaper m3_BadPaper m5_BadPaper : Option Value}
    (xL_BadPaper : K.lookup X_BadPaper = some (excClassObj nm_BadPaper q_BadPaper X_BadPaper N_BadPaper_ bs_BadPaper bm_BadPaper true sn_BadPaper sub_BadPaper ab_BadPaper col_BadPaper dd_BadPaper m0_BadPaper m1_BadPaper m2_BadPaper m3_BadPaper m5_BadPaper "ValueError.__new__")) (rv_BadPaper : PySem.HandSPX.refsVE bm_BadPaper = true) (xs_BadPaper : PySem.W.findIn K (.ref X_BadPaper) "__setattr__" = some (some (.builtin "object.__setattr__"))) (tc_BadPaper : PySem.W.typeIn K (.ref X_BadPaper) = some (.type "type")) (kX_BadPaper : PySem.W.keepIn K (.ref X_BadPaper) = true)
    {xf_BadPaper xcd_BadPaper xcc_BadPaper : Addr} {oc_BadPaper kV_BadPaper dc_BadPaper pm_BadPaper ct_BadPaper : Value} {od_BadPaper an_BadPaper : Option Addr} {sl_BadPaper : Array (Option Value)}
    (xi_BadPaper : PySem.W.findIn K (.ref X_BadPaper) "__init__" = some (some (.ref xf_BadPaper))) (xt_BadPaper : PySem.W.typeIn K (.ref xf_BadPaper) = some (.type "function")) (xl_BadPaper : K.lookup xf_BadPaper = some ⟨oc_BadPaper, od_BadPaper, .func (PySem.W.ksFn "__init__" "BadPaper.__init__" (defArgs s_BadPaper_init) (defBody s_BadPaper_init) (defScope s_BadPaper_init) .none kV_BadPaper dc_BadPaper pm_BadPaper an_BadPaper (.ref xcd_BadPaper) ct_BadPaper xcc_BadPaper), sl_BadPaper⟩) (xco_BadPaper : PySem.W.codeIn K (.ref xcd_BadPaper) "BadPaper.__init__" = true)
    {fc_BadPaper : Value} {fdd_BadPaper : Option Addr} {fv_BadPaper : Array Value} {fs_BadPaper : Array (Option Value)} {fl_BadPaper : Str} {ft_BadPaper : Tok}
    (xfi_BadPaper : K.lookup xcd_BadPaper = some ⟨fc_BadPaper, fdd_BadPaper, .fields fv_BadPaper, fs_BadPaper⟩) (xfv_BadPaper : fv_BadPaper[2]? = some (.str fl_BadPaper ft_BadPaper)) (xfe_BadPaper : ((l.prog.main.file : Str) == fl_BadPaper) = true)
    {ce_BadPaper : Value} {ced_BadPaper : Option Addr} {ces_BadPaper : Array (Option Value)}
    (xce_BadPaper : K.lookup xcc_BadPaper = some ⟨ce_BadPaper, ced_BadPaper, .cell (some (.ref X_BadPaper)), ces_BadPaper⟩) (xse_BadPaper : PySem.W.mroIn K X_BadPaper (.ref X_BadPaper) = some true) (xsu_BadPaper : PySem.W.ks_superIn K X_BadPaper X_BadPaper "__init__" = some (some (.builtin "ValueError.__init__"))) (xv_BadPaper : PySem.W.subIn K (.ref X_BadPaper) (.type "ValueError") = some true)
    {nm_BadRow q_BadRow : Str} {N_BadRow_ : Addr} {bs_BadRow bm_BadRow : List Value} {sn_BadRow : List Str} {sub_BadRow : List Value} {ab_BadRow : Bool} {col_BadRow : Option Bool} {dd_BadRow : Option Addr} {m0_BadRow m1_BadRow m2_BadRow m3_BadRow m5_BadRow : Option Value}
    (xL_BadRow : K.lookup X_BadRow = some (excClassObj nm_BadRow q_BadRow X_BadRow N_BadRow_ bs_BadRow bm_BadRow true sn_BadRow sub_BadRow ab_BadRow col_BadRow dd_BadRow m0_BadRow m1_BadRow m2_BadRow m3_BadRow m5_BadRow "ValueError.__new__")) (rv_BadRow : PySem.HandSPX.refsVE bm_BadRow = true) (xs_BadRow : PySem.W.findIn K (.ref X_BadRow) "__setattr__" = some (some (.builtin "object.__setattr__"))) (tc_BadRow : PySem.W.typeIn K (.ref X_BadRow) = some (.type "type")) (kX_BadRow : PySem.W.keepIn K (.ref X_BadRow) = true)
    {xf_BadRow xcd_BadRow xcc_BadRow : Addr} {oc_BadRow kV_BadRow dc_BadRow pm_BadRow ct_BadRow : Value} {od_BadRow an_BadRow : Option Addr} {sl_BadRow : Array (Option Value)}
    (xi_BadRow : PySem.W.findIn K (.ref X_BadRow) "__init__" = some (some (.ref xf_BadRow))) (xt_BadRow : PySem.W.typeIn K (.ref xf_BadRow) = some (.type "function")) (xl_BadRow : K.lookup xf_BadRow = some ⟨oc_BadRow, od_BadRow, .func (PySem.W.ksFn "__init__" "BadRow.__init__" (defArgs s_BadRow_init) (defBody s_BadRow_init) (defScope s_BadRow_init) .none kV_BadRow dc_BadRow pm_BadRow an_BadRow (.ref xcd_BadRow) ct_BadRow xcc_BadRow), sl_BadRow⟩) (xco_BadRow : PySem.W.codeIn K (.ref xcd_BadRow) "BadRow.__init__" = true)
    {fc_BadRow : Value} {fdd_BadRow : Option Addr} {fv_BadRow : Array Value} {fs_BadRow : Array (Option Value)} {fl_BadRow : Str} {ft_BadRow : Tok}
    (xfi_BadRow : K.lookup xcd_BadRow = some ⟨fc_BadRow, fdd_BadRow, .fields fv_BadRow, fs_BadRow⟩) (xfv_BadRow : fv_BadRow[2]? = some (.str fl_BadRow ft_BadRow)) (xfe_BadRow : ((l.prog.main.file : Str) == fl_BadRow) = true)
    {ce_BadRow : Value} {ced_BadRow : Option Addr} {ces_BadRow : Array (Option Value)}
    (xce_BadRow : K.lookup xcc_BadRow = some ⟨ce_BadRow, ced_BadRow, .cell (some (.ref X_BadRow)), ces_BadRow⟩) (xse_BadRow : PySem.W.mroIn K X_BadRow (.ref X_BadRow) = some true) (xsu_BadRow : PySem.W.ks_superIn K X_BadRow X_BadRow "__init__" = some (some (.builtin "ValueError.__init__"))) (xv_BadRow : PySem.W.subIn K (.ref X_BadRow) (.type "ValueError") = some true)
    (xn_BadPaper_name : PySem.W.findIn K (.ref X_BadPaper) "name" = some none)
    (xn_BadRow_place : PySem.W.findIn K (.ref X_BadRow) "place" = some none)
    (hy_BadPaper_BadPaper : PySem.W.exmOne K (.ref X_BadPaper) (.ref X_BadPaper) = some true)
    (hy_BadPaper_BadDeed : PySem.W.exmOne K (.ref X_BadDeed) (.ref X_BadPaper) = some false)
    (hy_BadPaper_BadRow : PySem.W.exmOne K (.ref X_BadRow) (.ref X_BadPaper) = some false)
    (hy_SureError_BadDeed : PySem.W.exmOne K (.ref X_BadDeed) (.ref X_SureError) = some true)
    (hy_SureError_BadPaper : PySem.W.exmOne K (.ref X_BadPaper) (.ref X_SureError) = some true)
    (hy_SureError_BadRow : PySem.W.exmOne K (.ref X_BadRow) (.ref X_SureError) = some true)
    (ic_BadDeed : (PySem.W.clsIn K X_BadDeed).isSome = true) (xa_BadDeed : PySem.W.findIn K (.ref X_BadDeed) "__class__" = some (some (.builtin "object.__class__"))) (xm_BadDeed : PySem.W.mroIn K X_BadDeed (.type "object") = some true)
    (ic_BadPaper : (PySem.W.clsIn K X_BadPaper).isSome = true) (xa_BadPaper : PySem.W.findIn K (.ref X_BadPaper) "__class__" = some (some (.builtin "object.__class__"))) (xm_BadPaper : PySem.W.mroIn K X_BadPaper (.type "object") = some true)
    (ic_BadRow : (PySem.W.clsIn K X_BadRow).isSome = true) (xa_BadRow : PySem.W.findIn K (.ref X_BadRow) "__class__" = some (some (.builtin "object.__class__"))) (xm_BadRow : PySem.W.mroIn K X_BadRow (.type "object") = some true)
    (xk_BadPaper_BadDeed : PySem.W.kitOne K (.ref X_BadDeed) (.ref X_BadPaper) = some false)
    (xk_BadPaper_BadPaper : PySem.W.kitOne K (.ref X_BadPaper) (.ref X_BadPaper) = some true)
    (xk_BadPaper_BadRow : PySem.W.kitOne K (.ref X_BadRow) (.ref X_BadPaper) = some false)
    (xk_ValueError_BadDeed : PySem.W.kitOne K (.ref X_BadDeed) (.type "ValueError") = some true)
    (xk_ValueError_BadPaper : PySem.W.kitOne K (.ref X_BadPaper) (.type "ValueError") = some true)
    (xk_ValueError_BadRow : PySem.W.kitOne K (.ref X_BadRow) (.type "ValueError") = some true)
    : ∃ fd : FuncData, (∀ (s : Shared) (v : Value), BindsTo s fd ⟨[v], []⟩ [("script", v)]) ∧ ∀ base : Heap, K.In base → base.Ns mainGlobals mg → FnOk l.prog w K mg base CX0 9 fa fd ["script"] (spL K) := by
  have e := hfa.symm.trans (PySem.W.mg_of X G a_law)
  cases e
  have g_Table := PySem.W.mg_of X G aC_Table
  have cls_Table : Cls K C_Table := ⟨pg_Table, hd_Table, po_Table, sa_Table⟩
  have g_Unbent := PySem.W.mg_of X G aC_Unbent
  have cls_Unbent : Cls K C_Unbent := ⟨pg_Unbent, hd_Unbent, po_Unbent, sa_Unbent⟩
  have g_Apart := PySem.W.mg_none_of X G zc_Apart
  have g_Asked := PySem.W.mg_none_of X G zc_Asked
  have g_Body := PySem.W.mg_none_of X G zc_Body
  have g_Clip := PySem.W.mg_none_of X G zc_Clip
  have g_Desk := PySem.W.mg_none_of X G zc_Desk
  have g_Doubt := PySem.W.mg_none_of X G zc_Doubt
  have g_Funnel := PySem.W.mg_none_of X G zc_Funnel
  have g_HourTable := PySem.W.mg_none_of X G zc_HourTable
  have g_Jobs := PySem.W.mg_none_of X G zc_Jobs
  have g_JobsTask := PySem.W.mg_none_of X G zc_JobsTask
  have g_Later := PySem.W.mg_none_of X G zc_Later
  have g_Levels := PySem.W.mg_none_of X G zc_Levels
  have g_LineReader := PySem.W.mg_none_of X G zc_LineReader
  have g_Log := PySem.W.mg_none_of X G zc_Log
  have g_Lots := PySem.W.mg_none_of X G zc_Lots
  have g_LotsTask := PySem.W.mg_none_of X G zc_LotsTask
  have g_Machine := PySem.W.mg_none_of X G zc_Machine
  have g_MachineTask := PySem.W.mg_none_of X G zc_MachineTask
  have g_Net := PySem.W.mg_none_of X G zc_Net
  have g_Ratio := PySem.W.mg_none_of X G zc_Ratio
  have g_RopeKind := PySem.W.mg_none_of X G zc_RopeKind
  have g_Ropes := PySem.W.mg_none_of X G zc_Ropes
  have g_RopesTask := PySem.W.mg_none_of X G zc_RopesTask
  have g_Round := PySem.W.mg_none_of X G zc_Round
  have g_RoundTask := PySem.W.mg_none_of X G zc_RoundTask
  have g_Run := PySem.W.mg_none_of X G zc_Run
  have g_Span := PySem.W.mg_none_of X G zc_Span
  have g_Staircase := PySem.W.mg_none_of X G zc_Staircase
  have g_Steps := PySem.W.mg_none_of X G zc_Steps
  have g_Store := PySem.W.mg_none_of X G zc_Store
  have g_StoreKind := PySem.W.mg_none_of X G zc_StoreKind
  have g_StoreTask := PySem.W.mg_none_of X G zc_StoreTask
  have g_SurePaper := PySem.W.mg_none_of X G zc_SurePaper
  have g_Task := PySem.W.mg_none_of X G zc_Task
  have g_Thresholds := PySem.W.mg_none_of X G zc_Thresholds
  have g_Trade := PySem.W.mg_none_of X G zc_Trade
  have g_TradeTask := PySem.W.mg_none_of X G zc_TradeTask
  have g_Trial := PySem.W.mg_none_of X G zc_Trial
  have g_World := PySem.W.mg_none_of X G zc_World
  have x_BadDeed := PySem.W.mg_of X G aX_BadDeed
  have r_BadDeed : XfC K X_BadDeed := ⟨ga_BadDeed, gg_BadDeed, ec_BadDeed, hX_BadDeed⟩
  have x_BadPaper := PySem.W.mg_of X G aX_BadPaper
  have r_BadPaper : XfC K X_BadPaper := ⟨ga_BadPaper, gg_BadPaper, ec_BadPaper, hX_BadPaper⟩
  have x_BadRow := PySem.W.mg_of X G aX_BadRow
  have r_BadRow : XfC K X_BadRow := ⟨ga_BadRow, gg_BadRow, ec_BadRow, hX_BadRow⟩
  have x_SureError := PySem.W.mg_of X G aX_SureError
  have A_lower : GotA K mg "lower" ["Unbent"] := by
    intro c m C e
    obtain rfl := List.mem_singleton.mp m
    · rw [g_Unbent] at e; cases e; exact ⟨cls_Unbent, n_Unbent_lower⟩
  have A_numbers : GotA K mg "numbers" ["Unbent", "Levels"] := by
    intro c m C e
    rcases List.mem_cons.mp m with rfl | m
    · rw [g_Unbent] at e; cases e; exact ⟨cls_Unbent, n_Unbent_numbers⟩
    obtain rfl := List.mem_singleton.mp m
    · rw [g_Levels] at e; cases e
  have A_rows : GotA K mg "rows" ["HourTable", "Table"] := by
    intro c m C e
    rcases List.mem_cons.mp m with rfl | m
    · rw [g_HourTable] at e; cases e
    obtain rfl := List.mem_singleton.mp m
    · rw [g_Table] at e; cases e; exact ⟨cls_Table, n_Table_rows⟩
  have A_states : GotA K mg "states" ["Body", "Round", "Table"] := by
    intro c m C e
    rcases List.mem_cons.mp m with rfl | m
    · rw [g_Body] at e; cases e
    rcases List.mem_cons.mp m with rfl | m
    · rw [g_Round] at e; cases e
    obtain rfl := List.mem_singleton.mp m
    · rw [g_Table] at e; cases e; exact ⟨cls_Table, n_Table_states⟩
  have A_upper : GotA K mg "upper" ["Unbent"] := by
    intro c m C e
    obtain rfl := List.mem_singleton.mp m
    · rw [g_Unbent] at e; cases e; exact ⟨cls_Unbent, n_Unbent_upper⟩
  have I_Unbent : IsiG K mg pkClasses "Unbent" := by
    refine ⟨C_Unbent, g_Unbent, ?_, ?_⟩
    · intro a m
      simp only [tysA, List.mem_cons, List.not_mem_nil, or_false] at m
      rcases m with rfl | rfl | rfl | rfl | rfl | rfl
      all_goals first | exact kb_Unbent_NoneType | exact kb_Unbent_bool | exact kb_Unbent_int | exact kb_Unbent_str | exact kb_Unbent_list | exact kb_Unbent_tuple
    · intro c m C e
      rcases List.mem_cons.mp m with rfl | m
      · rw [g_Apart] at e; cases e
      rcases List.mem_cons.mp m with rfl | m
      · rw [g_Unbent] at e; cases e; exact ⟨⟨g_Unbent, cls_Unbent, ha_Unbent, hn, htk, hm_Unbent⟩, ko_Unbent_Unbent⟩
      rcases List.mem_cons.mp m with rfl | m
      · rw [g_Body] at e; cases e
      rcases List.mem_cons.mp m with rfl | m
      · rw [g_Clip] at e; cases e
      rcases List.mem_cons.mp m with rfl | m
      · rw [g_Desk] at e; cases e
      rcases List.mem_cons.mp m with rfl | m
      · rw [g_Doubt] at e; cases e
      rcases List.mem_cons.mp m with rfl | m
      · rw [g_Funnel] at e; cases e
      rcases List.mem_cons.mp m with rfl | m
      · rw [g_Jobs] at e; cases e
      rcases List.mem_cons.mp m with rfl | m
      · rw [g_Run] at e; cases e
      rcases List.mem_cons.mp m with rfl | m
      · rw [g_Log] at e; cases e
      rcases List.mem_cons.mp m with rfl | m
      · rw [g_Lots] at e; cases e
      rcases List.mem_cons.mp m with rfl | m
      · rw [g_Later] at e; cases e
      rcases List.mem_cons.mp m with rfl | m
      · rw [g_Asked] at e; cases e
      rcases List.mem_cons.mp m with rfl | m
      · rw [g_Machine] at e; cases e
      rcases List.mem_cons.mp m with rfl | m
      · rw [g_Levels] at e; cases e
      rcases List.mem_cons.mp m with rfl | m
      · rw [g_Net] at e; cases e
      rcases List.mem_cons.mp m with rfl | m
      · rw [g_HourTable] at e; cases e
      rcases List.mem_cons.mp m with rfl | m
      · rw [g_Ratio] at e; cases e
      rcases List.mem_cons.mp m with rfl | m
      · rw [g_RopeKind] at e; cases e
      rcases List.mem_cons.mp m with rfl | m
      · rw [g_Ropes] at e; cases e
      rcases List.mem_cons.mp m with rfl | m
      · rw [g_Round] at e; cases e
      rcases List.mem_cons.mp m with rfl | m
      · rw [g_Span] at e; cases e
      rcases List.mem_cons.mp m with rfl | m
      · rw [g_Staircase] at e; cases e
      rcases List.mem_cons.mp m with rfl | m
      · rw [g_Steps] at e; cases e
      rcases List.mem_cons.mp m with rfl | m
      · rw [g_Store] at e; cases e
      rcases List.mem_cons.mp m with rfl | m
      · rw [g_StoreKind] at e; cases e
      rcases List.mem_cons.mp m with rfl | m
      · rw [g_SurePaper] at e; cases e
      rcases List.mem_cons.mp m with rfl | m
      · rw [g_Table] at e; cases e; exact ⟨⟨g_Table, cls_Table, ha_Table, hn, htk, hm_Table⟩, ko_Unbent_Table⟩
      rcases List.mem_cons.mp m with rfl | m
      · rw [g_Task] at e; cases e
      rcases List.mem_cons.mp m with rfl | m
      · rw [g_StoreTask] at e; cases e
      rcases List.mem_cons.mp m with rfl | m
      · rw [g_RopesTask] at e; cases e
      rcases List.mem_cons.mp m with rfl | m
      · rw [g_TradeTask] at e; cases e
      rcases List.mem_cons.mp m with rfl | m
      · rw [g_MachineTask] at e; cases e
      rcases List.mem_cons.mp m with rfl | m
      · rw [g_LotsTask] at e; cases e
      rcases List.mem_cons.mp m with rfl | m
      · rw [g_JobsTask] at e; cases e
      rcases List.mem_cons.mp m with rfl | m
      · rw [g_RoundTask] at e; cases e
      rcases List.mem_cons.mp m with rfl | m
      · rw [g_LineReader] at e; cases e
      rcases List.mem_cons.mp m with rfl | m
      · rw [g_Thresholds] at e; cases e
      rcases List.mem_cons.mp m with rfl | m
      · rw [g_Trade] at e; cases e
      rcases List.mem_cons.mp m with rfl | m
      · rw [g_Trial] at e; cases e
      obtain rfl := List.mem_singleton.mp m
      · rw [g_World] at e; cases e
  have XF_name : ∀ c ∈ (["BadPaper"] : List Str), ∀ C, mg c = some (.ref C) → XfC K C ∧ PySem.W.findIn K (.ref C) "name" = some none := by
    intro c m C e
    obtain rfl := List.mem_singleton.mp m
    · rw [x_BadPaper] at e; cases e; exact ⟨r_BadPaper, xn_BadPaper_name⟩
  have HY_BadPaper : ∀ c ∈ (["BadPaper"] : List Str), ∀ C, mg c = some (.ref C) → PySem.W.exmOne K (.ref C) (.ref X_BadPaper) = some true ∧ PySem.W.findIn K (.ref C) "__getattribute__" = some (some (.builtin "BaseException.__getattribute__")) := by
    intro c m C e
    obtain rfl := List.mem_singleton.mp m
    · rw [x_BadPaper] at e; cases e; exact ⟨hy_BadPaper_BadPaper, ga_BadPaper⟩
  have HN_BadPaper : ∀ c ∈ (["BadDeed", "BadRow"] : List Str), ∀ C, mg c = some (.ref C) → PySem.W.exmOne K (.ref C) (.ref X_BadPaper) = some false := by
    intro c m C e
    rcases List.mem_cons.mp m with rfl | m
    · rw [x_BadDeed] at e; cases e; exact hy_BadPaper_BadDeed
    obtain rfl := List.mem_singleton.mp m
    · rw [x_BadRow] at e; cases e; exact hy_BadPaper_BadRow
  have HY_SureError : ∀ c ∈ (["BadDeed", "BadPaper", "BadRow"] : List Str), ∀ C, mg c = some (.ref C) → PySem.W.exmOne K (.ref C) (.ref X_SureError) = some true ∧ PySem.W.findIn K (.ref C) "__getattribute__" = some (some (.builtin "BaseException.__getattribute__")) := by
    intro c m C e
    rcases List.mem_cons.mp m with rfl | m
    · rw [x_BadDeed] at e; cases e; exact ⟨hy_SureError_BadDeed, ga_BadDeed⟩
    rcases List.mem_cons.mp m with rfl | m
    · rw [x_BadPaper] at e; cases e; exact ⟨hy_SureError_BadPaper, ga_BadPaper⟩
    obtain rfl := List.mem_singleton.mp m
    · rw [x_BadRow] at e; cases e; exact ⟨hy_SureError_BadRow, ga_BadRow⟩
  have HN_SureError : ∀ c ∈ ([] : List Str), ∀ C, mg c = some (.ref C) → PySem.W.exmOne K (.ref C) (.ref X_SureError) = some false := by
    intro c m C e
    cases m
  have XI_BadPaper : ∀ c b, ([("BadDeed", false), ("BadPaper", true), ("BadRow", false)] : List (Str × Bool)).lookup c = some b → ∀ C, mg c = some (.ref C) → ErrI K C ∧ PySem.W.kitOne K (.ref C) (.ref X_BadPaper) = some b := by
    intro c b m C e
    rcases lookup_cases m with ⟨rfl, rfl⟩ | ⟨_, m⟩
    · rw [x_BadDeed] at e; cases e; exact ⟨⟨ic_BadDeed, ga_BadDeed, gg_BadDeed, ec_BadDeed, xa_BadDeed, hn, htk, xm_BadDeed⟩, xk_BadPaper_BadDeed⟩
    rcases lookup_cases m with ⟨rfl, rfl⟩ | ⟨_, m⟩
    · rw [x_BadPaper] at e; cases e; exact ⟨⟨ic_BadPaper, ga_BadPaper, gg_BadPaper, ec_BadPaper, xa_BadPaper, hn, htk, xm_BadPaper⟩, xk_BadPaper_BadPaper⟩
    rcases lookup_cases m with ⟨rfl, rfl⟩ | ⟨_, m⟩
    · rw [x_BadRow] at e; cases e; exact ⟨⟨ic_BadRow, ga_BadRow, gg_BadRow, ec_BadRow, xa_BadRow, hn, htk, xm_BadRow⟩, xk_BadPaper_BadRow⟩
    · cases m
  have XI_ValueError : ∀ c b, ([("BadDeed", true), ("BadPaper", true), ("BadRow", true)] : List (Str × Bool)).lookup c = some b → ∀ C, mg c = some (.ref C) → ErrI K C ∧ PySem.W.kitOne K (.ref C) (.type "ValueError") = some b := by
    intro c b m C e
    rcases lookup_cases m with ⟨rfl, rfl⟩ | ⟨_, m⟩
    · rw [x_BadDeed] at e; cases e; exact ⟨⟨ic_BadDeed, ga_BadDeed, gg_BadDeed, ec_BadDeed, xa_BadDeed, hn, htk, xm_BadDeed⟩, xk_ValueError_BadDeed⟩
    rcases lookup_cases m with ⟨rfl, rfl⟩ | ⟨_, m⟩
    · rw [x_BadPaper] at e; cases e; exact ⟨⟨ic_BadPaper, ga_BadPaper, gg_BadPaper, ec_BadPaper, xa_BadPaper, hn, htk, xm_BadPaper⟩, xk_ValueError_BadPaper⟩
    rcases lookup_cases m with ⟨rfl, rfl⟩ | ⟨_, m⟩
    · rw [x_BadRow] at e; cases e; exact ⟨⟨ic_BadRow, ga_BadRow, gg_BadRow, ec_BadRow, xa_BadRow, hn, htk, xm_BadRow⟩, xk_ValueError_BadRow⟩
    · cases m
  have T : Tx K mg := ⟨PySem.W.mg_none_of X G z_ValueError, PySem.W.mg_none_of X G z_bool, PySem.W.mg_none_of X G z_enumerate, PySem.W.mg_none_of X G z_int, PySem.W.mg_none_of X G z_isinstance, PySem.W.mg_none_of X G z_len, PySem.W.mg_none_of X G z_list, PySem.W.mg_none_of X G z_max, PySem.W.mg_none_of X G z_min, PySem.W.mg_none_of X G z_range, PySem.W.mg_none_of X G z_tuple, PySem.W.mg_none_of X G z_zip, A_lower, A_numbers, A_rows, A_states, A_upper, I_Unbent, XF_name, ⟨X_BadPaper, x_BadPaper, HY_BadPaper, HN_BadPaper⟩, ⟨X_SureError, x_SureError, HY_SureError, HN_SureError⟩, ⟨X_BadPaper, x_BadPaper, XI_BadPaper⟩, XI_ValueError⟩
  have F_p_law_stream := fun_mk (st := s_p_law_stream) l_p_law_stream c_p_law_stream k_p_law_stream
  have b_p_law_stream := F_p_law_stream.binds (ps := ["script"]) fun _ _ _ _ _ _ us hl => match us, hl with | [_], _ => rfl
  have F_p_law_next := fun_mk (st := s_p_law_next) l_p_law_next c_p_law_next k_p_law_next
  have b_p_law_next := F_p_law_next.binds (ps := ["stream", "many"]) fun _ _ _ _ _ _ us hl => match us, hl with | [_, _], _ => rfl
  have F_p_law_bt_great := fun_mk (st := s_p_law_bt_great) l_p_law_bt_great c_p_law_bt_great k_p_law_bt_great
  have b_p_law_bt_great := F_p_law_bt_great.binds (ps := ["stream"]) fun _ _ _ _ _ _ us hl => match us, hl with | [_], _ => rfl
  have F_is_whole := fun_mk (st := s_is_whole) l_is_whole c_is_whole k_is_whole
  have b_is_whole := F_is_whole.binds (ps := ["thing"]) fun _ _ _ _ _ _ us hl => match us, hl with | [_], _ => rfl
  have F_is_amount := fun_mk (st := s_is_amount) l_is_amount c_is_amount k_is_amount
  have b_is_amount := F_is_amount.binds (ps := ["thing"]) fun _ _ _ _ _ _ us hl => match us, hl with | [_], _ => rfl
  have F_p_tables_rows := fun_mk (st := s_p_tables_rows) l_p_tables_rows c_p_tables_rows k_p_tables_rows
  have b_p_tables_rows := F_p_tables_rows.binds (ps := ["rows"]) fun _ _ _ _ _ _ us hl => match us, hl with | [_], _ => rfl
  have F_Table_init := fun_mk (st := s_Table_init) l_Table_init c_Table_init k_Table_init
  have b_Table_init := F_Table_init.binds (ps := ["self", "rows"]) fun _ _ _ _ _ _ us hl => match us, hl with | [_, _], _ => rfl
  have F_below := fun_mk (st := s_below) l_below c_below k_below
  have b_below := F_below.binds (ps := ["one", "other"]) fun _ _ _ _ _ _ us hl => match us, hl with | [_, _], _ => rfl
  have F_plus := fun_mk (st := s_plus) l_plus c_plus k_plus
  have b_plus := F_plus.binds (ps := ["one", "other"]) fun _ _ _ _ _ _ us hl => match us, hl with | [_, _], _ => rfl
  have F_p_bent_states := fun_mk (st := s_p_bent_states) l_p_bent_states c_p_bent_states k_p_bent_states
  have b_p_bent_states := F_p_bent_states.binds (ps := ["row", "later"]) fun _ _ _ _ _ _ us hl => match us, hl with | [_, _], _ => rfl
  have F_bent_break := fun_mk (st := s_bent_break) l_bent_break c_bent_break k_bent_break
  have b_bent_break := F_bent_break.binds (ps := ["table"]) fun _ _ _ _ _ _ us hl => match us, hl with | [_], _ => rfl
  have F_p_bent_out := fun_mk (st := s_p_bent_out) l_p_bent_out c_p_bent_out k_p_bent_out
  have b_p_bent_out := F_p_bent_out.binds (ps := ["row", "prices", "states"]) fun _ _ _ _ _ _ us hl => match us, hl with | [_, _, _], _ => rfl
  have F_Unbent_init := fun_mk (st := s_Unbent_init) l_Unbent_init c_Unbent_init k_Unbent_init
  have b_Unbent_init := F_Unbent_init.binds (ps := ["self", "numbers", "lower", "upper"]) fun _ _ _ _ _ _ us hl => match us, hl with | [_, _, _, _], _ => rfl
  have F_unbent := fun_mk (st := s_unbent) l_unbent c_unbent k_unbent
  have b_unbent := F_unbent.binds (ps := ["table"]) fun _ _ _ _ _ _ us hl => match us, hl with | [_], _ => rfl
  have F_p_law_whole := fun_mk (st := s_p_law_whole) l_p_law_whole c_p_law_whole k_p_law_whole
  have b_p_law_whole := F_p_law_whole.binds (ps := ["thing"]) fun _ _ _ _ _ _ us hl => match us, hl with | [_], _ => rfl
  have F_p_law_below := fun_mk (st := s_p_law_below) l_p_law_below c_p_law_below k_p_law_below
  have b_p_law_below := F_p_law_below.binds (ps := ["one", "other"]) fun _ _ _ _ _ _ us hl => match us, hl with | [_, _], _ => rfl
  have F_p_law_lesser := fun_mk (st := s_p_law_lesser) l_p_law_lesser c_p_law_lesser k_p_law_lesser
  have b_p_law_lesser := F_p_law_lesser.binds (ps := ["one", "other"]) fun _ _ _ _ _ _ us hl => match us, hl with | [_, _], _ => rfl
  have F_p_law_plus := fun_mk (st := s_p_law_plus) l_p_law_plus c_p_law_plus k_p_law_plus
  have b_p_law_plus := F_p_law_plus.binds (ps := ["one", "other"]) fun _ _ _ _ _ _ us hl => match us, hl with | [_, _], _ => rfl
  have F_p_law_ub_bests := fun_mk (st := s_p_law_ub_bests) l_p_law_ub_bests c_p_law_ub_bests k_p_law_ub_bests
  have b_p_law_ub_bests := F_p_law_ub_bests.binds (ps := ["rows", "numbers", "state"]) fun _ _ _ _ _ _ us hl => match us, hl with | [_, _, _], _ => rfl
  have F_p_law_ub_shows := fun_mk (st := s_p_law_ub_shows) l_p_law_ub_shows c_p_law_ub_shows k_p_law_ub_shows
  have b_p_law_ub_shows := F_p_law_ub_shows.binds (ps := ["rows", "numbers", "lower", "upper"]) fun _ _ _ _ _ _ us hl => match us, hl with | [_, _, _, _], _ => rfl
  have F_at_most := fun_mk (st := s_at_most) l_at_most c_at_most k_at_most
  have b_at_most := F_at_most.binds (ps := ["one", "other"]) fun _ _ _ _ _ _ us hl => match us, hl with | [_, _], _ => rfl
  have F_lesser := fun_mk (st := s_lesser) l_lesser c_lesser k_lesser
  have b_lesser := F_lesser.binds (ps := ["one", "other"]) fun _ _ _ _ _ _ us hl => match us, hl with | [_, _], _ => rfl
  have F_least_of := fun_mk (st := s_least_of) l_least_of c_least_of k_least_of
  have b_least_of := F_least_of.binds (ps := ["row"]) fun _ _ _ _ _ _ us hl => match us, hl with | [_], _ => rfl
  have F_p_bent_bests := fun_mk (st := s_p_bent_bests) l_p_bent_bests c_p_bent_bests k_p_bent_bests
  have b_p_bent_bests := F_p_bent_bests.binds (ps := ["table", "numbers", "state"]) fun _ _ _ _ _ _ us hl => match us, hl with | [_, _, _], _ => rfl
  have F_shows_unbent := fun_mk (st := s_shows_unbent) l_shows_unbent c_shows_unbent k_shows_unbent
  have b_shows_unbent := F_shows_unbent.binds (ps := ["table", "paper"]) fun _ _ _ _ _ _ us hl => match us, hl with | [_, _], _ => rfl
  have F_p_law_ub_made := fun_mk (st := s_p_law_ub_made) l_p_law_ub_made c_p_law_ub_made k_p_law_ub_made
  have b_p_law_ub_made := F_p_law_ub_made.binds (ps := ["table", "rows", "due"]) fun _ _ _ _ _ _ us hl => match us, hl with | [_, _, _], _ => rfl
  have F_p_law_ub_own := fun_mk (st := s_p_law_ub_own) l_p_law_ub_own c_p_law_ub_own k_p_law_ub_own
  have b_p_law_ub_own := F_p_law_ub_own.binds (ps := ["rows", "due"]) fun _ _ _ _ _ _ us hl => match us, hl with | [_, _], _ => rfl
  have F_p_law_ub_judged := fun_mk (st := s_p_law_ub_judged) l_p_law_ub_judged c_p_law_ub_judged k_p_law_ub_judged
  have b_p_law_ub_judged := F_p_law_ub_judged.binds (ps := ["table", "rows", "numbers", "lower", "upper"]) fun _ _ _ _ _ _ us hl => match us, hl with | [_, _, _, _, _], _ => rfl
  have F_p_law_ub_spoilt := fun_mk (st := s_p_law_ub_spoilt) l_p_law_ub_spoilt c_p_law_ub_spoilt k_p_law_ub_spoilt
  have b_p_law_ub_spoilt := F_p_law_ub_spoilt.binds (ps := ["table", "rows", "own", "stream"]) fun _ _ _ _ _ _ us hl => match us, hl with | [_, _, _, _], _ => rfl
  have F_p_law_ub_great := fun_mk (st := s_p_law_ub_great) l_p_law_ub_great c_p_law_ub_great k_p_law_ub_great
  have b_p_law_ub_great := F_p_law_ub_great.binds (ps := ["stream"]) fun _ _ _ _ _ _ us hl => match us, hl with | [_], _ => rfl
  have F_p_law_bt_free := fun_mk (st := s_p_law_bt_free) l_p_law_bt_free c_p_law_bt_free k_p_law_bt_free
  have b_p_law_bt_free := F_p_law_bt_free.binds (ps := ["stream", "deeds", "states", "scale"]) fun _ _ _ _ _ _ us hl => match us, hl with | [_, _, _, _], _ => rfl
  have F_p_law_bt_cut := fun_mk (st := s_p_law_bt_cut) l_p_law_bt_cut c_p_law_bt_cut k_p_law_bt_cut
  have b_p_law_bt_cut := F_p_law_bt_cut.binds (ps := ["stream", "rows"]) fun _ _ _ _ _ _ us hl => match us, hl with | [_, _], _ => rfl
  have F_p_law_bt_sums := fun_mk (st := s_p_law_bt_sums) l_p_law_bt_sums c_p_law_bt_sums k_p_law_bt_sums
  have b_p_law_bt_sums := F_p_law_bt_sums.binds (ps := ["stream", "deeds", "states", "scale"]) fun _ _ _ _ _ _ us hl => match us, hl with | [_, _, _, _], _ => rfl
  have F_p_law_ub_rows := fun_mk (st := s_p_law_ub_rows) l_p_law_ub_rows c_p_law_ub_rows k_p_law_ub_rows
  have b_p_law_ub_rows := F_p_law_ub_rows.binds (ps := ["stream", "deeds", "states"]) fun _ _ _ _ _ _ us hl => match us, hl with | [_, _, _], _ => rfl
  have F_p_law_bt_break := fun_mk (st := s_p_law_bt_break) l_p_law_bt_break c_p_law_bt_break k_p_law_bt_break
  have b_p_law_bt_break := F_p_law_bt_break.binds (ps := ["rows"]) fun _ _ _ _ _ _ us hl => match us, hl with | [_], _ => rfl
  have F_p_law_ub_refused := fun_mk (st := s_p_law_ub_refused) l_p_law_ub_refused c_p_law_ub_refused k_p_law_ub_refused
  have b_p_law_ub_refused := F_p_law_ub_refused.binds (ps := ["numbers", "lower", "upper"]) fun _ _ _ _ _ _ us hl => match us, hl with | [_, _, _], _ => rfl
  have F_p_law_ub_refusals := fun_mk (st := s_p_law_ub_refusals) l_p_law_ub_refusals c_p_law_ub_refusals k_p_law_ub_refusals
  have b_p_law_ub_refusals := F_p_law_ub_refusals.binds (ps := ["stream"]) fun _ _ _ _ _ _ us hl => match us, hl with | [_], _ => rfl
  have F_p_law_ub_kept := fun_mk (st := s_p_law_ub_kept) l_p_law_ub_kept c_p_law_ub_kept k_p_law_ub_kept
  have b_p_law_ub_kept := F_p_law_ub_kept.binds (ps := ["stream"]) fun _ _ _ _ _ _ us hl => match us, hl with | [_], _ => rfl
  have F_law := fun_mk (st := s_law) l_law c_law k_law
  refine ⟨PySem.W.fnOf "law" "law" (defArgs s_law) (defBody s_law) (defScope s_law) .none kV_law dc_law pm_law an_law cd_law ct_law, fun s v => .of_eq rfl, fun base _ _ => ?_⟩
  have e_BadPaper : ErrC l.prog K mg X_BadPaper xf_BadPaper xcc_BadPaper xcd_BadPaper "BadPaper.__init__" s_BadPaper_init _ := { low := ⟨⟨_, _, _, _, _, _, _, _, _, _, _, _, _, _, _, xL_BadPaper, rv_BadPaper⟩, xs_BadPaper, ec_BadPaper, tc_BadPaper, kX_BadPaper⟩, rd := r_BadPaper, fn := ⟨_, _, _, _, _, _, _, _, rfl, xl_BadPaper⟩, code := xco_BadPaper, file := ⟨_, _, _, _, _, _, xfi_BadPaper, xfv_BadPaper, xfe_BadPaper⟩, cell := ⟨_, _, _, xce_BadPaper⟩, init := xi_BadPaper, tyI := xt_BadPaper, self := xse_BadPaper, sup := xsu_BadPaper, isV := xv_BadPaper, z := PySem.W.mg_none_of X G z_super, st := z_stat, top := z_top }
  have E_BadPaper : GotE l.prog w K mg base 1 "BadPaper" ["name"] := ⟨_, _, _, _, _, _, _, _, e_BadPaper, x_BadPaper, ew_BadPaper e_BadPaper xn_BadPaper_name, .all fun us hl => match us, hl with | [_, _], _ => rfl, by
    intro f m
    obtain rfl := List.mem_singleton.mp m
    · exact xn_BadPaper_name
    ⟩
  have e_BadRow : ErrC l.prog K mg X_BadRow xf_BadRow xcc_BadRow xcd_BadRow "BadRow.__init__" s_BadRow_init _ := { low := ⟨⟨_, _, _, _, _, _, _, _, _, _, _, _, _, _, _, xL_BadRow, rv_BadRow⟩, xs_BadRow, ec_BadRow, tc_BadRow, kX_BadRow⟩, rd := r_BadRow, fn := ⟨_, _, _, _, _, _, _, _, rfl, xl_BadRow⟩, code := xco_BadRow, file := ⟨_, _, _, _, _, _, xfi_BadRow, xfv_BadRow, xfe_BadRow⟩, cell := ⟨_, _, _, xce_BadRow⟩, init := xi_BadRow, tyI := xt_BadRow, self := xse_BadRow, sup := xsu_BadRow, isV := xv_BadRow, z := PySem.W.mg_none_of X G z_super, st := z_stat, top := z_top }
  have E_BadRow : GotE l.prog w K mg base 1 "BadRow" ["place"] := ⟨_, _, _, _, _, _, _, _, e_BadRow, x_BadRow, ew_BadRow e_BadRow xn_BadRow_place, .all fun us hl => match us, hl with | [_, _], _ => rfl, by
    intro f m
    obtain rfl := List.mem_singleton.mp m
    · exact xn_BadRow_place
    ⟩
  have G_p_law_stream : GotF l.prog w K mg base 1 "_law_stream" 1 d_p_law_stream := ⟨_, _, _, w_p_law_stream F_p_law_stream T , PySem.W.mg_of X G a_p_law_stream, k_p_law_stream, b_p_law_stream⟩
  have G_p_law_next : GotF l.prog w K mg base 1 "_law_next" 2 d_p_law_next := ⟨_, _, _, w_p_law_next F_p_law_next T , PySem.W.mg_of X G a_p_law_next, k_p_law_next, b_p_law_next⟩
  have G_p_law_bt_great : GotF l.prog w K mg base 2 "_law_bt_great" 1 d_p_law_bt_great := ⟨_, _, _, w_p_law_bt_great F_p_law_bt_great T G_p_law_next, PySem.W.mg_of X G a_p_law_bt_great, k_p_law_bt_great, b_p_law_bt_great⟩
  have G_is_whole : GotF l.prog w K mg base 1 "is_whole" 1 d_is_whole := ⟨_, _, _, w_is_whole F_is_whole T , PySem.W.mg_of X G a_is_whole, k_is_whole, b_is_whole⟩
  have G_is_amount : GotF l.prog w K mg base 2 "is_amount" 1 d_is_amount := ⟨_, _, _, w_is_amount F_is_amount T G_is_whole, PySem.W.mg_of X G a_is_amount, k_is_amount, b_is_amount⟩
  have G_p_tables_rows : GotF l.prog w K mg base 3 "_tables_rows" 1 d_p_tables_rows := ⟨_, _, _, w_p_tables_rows F_p_tables_rows T G_is_amount E_BadRow, PySem.W.mg_of X G a_p_tables_rows, k_p_tables_rows, b_p_tables_rows⟩
  have G_Table_init : GotIN l.prog w K mg base 4 "Table" 1 d_Table_init 1 [] (idS 1) [] := ⟨_, _, _, _, ⟨mk_Table, a_Table_init, i_Table_init, kc_Table⟩, w_Table_init F_Table_init T G_p_tables_rows, g_Table, kb_up b_Table_init rfl⟩
  have G_below : GotF l.prog w K mg base 1 "below" 2 d_below := ⟨_, _, _, w_below F_below T , PySem.W.mg_of X G a_below, k_below, b_below⟩
  have G_plus : GotF l.prog w K mg base 1 "plus" 2 d_plus := ⟨_, _, _, w_plus F_plus T , PySem.W.mg_of X G a_plus, k_plus, b_plus⟩
  have G_p_bent_states : GotF l.prog w K mg base 2 "_bent_states" 2 d_p_bent_states := ⟨_, _, _, w_p_bent_states F_p_bent_states T G_below G_plus, PySem.W.mg_of X G a_p_bent_states, k_p_bent_states, b_p_bent_states⟩
  have G_bent_break : GotF l.prog w K mg base 3 "bent_break" 1 d_bent_break := ⟨_, _, _, w_bent_break F_bent_break T G_p_bent_states, PySem.W.mg_of X G a_bent_break, k_bent_break, b_bent_break⟩
  have G_p_bent_out : GotF l.prog w K mg base 1 "_bent_out" 3 d_p_bent_out := ⟨_, _, _, w_p_bent_out F_p_bent_out T , PySem.W.mg_of X G a_p_bent_out, k_p_bent_out, b_p_bent_out⟩
  have G_Unbent_init : GotIN l.prog w K mg base 3 "Unbent" 3 d_Unbent_init 3 [] (idS 3) [] := ⟨_, _, _, _, ⟨mk_Unbent, a_Unbent_init, i_Unbent_init, kc_Unbent⟩, w_Unbent_init F_Unbent_init T G_is_whole E_BadPaper, g_Unbent, kb_up b_Unbent_init rfl⟩
  have G_unbent : GotF l.prog w K mg base 5 "unbent" 1 d_unbent := ⟨_, _, _, w_unbent F_unbent T G_bent_break G_p_bent_out G_Unbent_init, PySem.W.mg_of X G a_unbent, k_unbent, b_unbent⟩
  have G_p_law_whole : GotF l.prog w K mg base 1 "_law_whole" 1 d_p_law_whole := ⟨_, _, _, w_p_law_whole F_p_law_whole T , PySem.W.mg_of X G a_p_law_whole, k_p_law_whole, b_p_law_whole⟩
  have G_p_law_below : GotF l.prog w K mg base 1 "_law_below" 2 d_p_law_below := ⟨_, _, _, w_p_law_below F_p_law_below T , PySem.W.mg_of X G a_p_law_below, k_p_law_below, b_p_law_below⟩
  have G_p_law_lesser : GotF l.prog w K mg base 2 "_law_lesser" 2 d_p_law_lesser := ⟨_, _, _, w_p_law_lesser F_p_law_lesser T G_p_law_below, PySem.W.mg_of X G a_p_law_lesser, k_p_law_lesser, b_p_law_lesser⟩
  have G_p_law_plus : GotF l.prog w K mg base 1 "_law_plus" 2 d_p_law_plus := ⟨_, _, _, w_p_law_plus F_p_law_plus T , PySem.W.mg_of X G a_p_law_plus, k_p_law_plus, b_p_law_plus⟩
  have G_p_law_ub_bests : GotF l.prog w K mg base 3 "_law_ub_bests" 3 d_p_law_ub_bests := ⟨_, _, _, w_p_law_ub_bests F_p_law_ub_bests T G_p_law_lesser G_p_law_plus, PySem.W.mg_of X G a_p_law_ub_bests, k_p_law_ub_bests, b_p_law_ub_bests⟩
  have G_p_law_ub_shows : GotF l.prog w K mg base 4 "_law_ub_shows" 4 d_p_law_ub_shows := ⟨_, _, _, w_p_law_ub_shows F_p_law_ub_shows T G_p_law_ub_bests, PySem.W.mg_of X G a_p_law_ub_shows, k_p_law_ub_shows, b_p_law_ub_shows⟩
  have G_at_most : GotF l.prog w K mg base 1 "at_most" 2 d_at_most := ⟨_, _, _, w_at_most F_at_most T , PySem.W.mg_of X G a_at_most, k_at_most, b_at_most⟩
  have G_lesser : GotF l.prog w K mg base 2 "lesser" 2 d_lesser := ⟨_, _, _, w_lesser F_lesser T G_at_most, PySem.W.mg_of X G a_lesser, k_lesser, b_lesser⟩
  have G_least_of : GotF l.prog w K mg base 3 "least_of" 1 d_least_of := ⟨_, _, _, w_least_of F_least_of T G_lesser, PySem.W.mg_of X G a_least_of, k_least_of, b_least_of⟩
  have G_p_bent_bests : GotF l.prog w K mg base 4 "_bent_bests" 3 d_p_bent_bests := ⟨_, _, _, w_p_bent_bests F_p_bent_bests T G_plus G_least_of, PySem.W.mg_of X G a_p_bent_bests, k_p_bent_bests, b_p_bent_bests⟩
  have G_shows_unbent : GotF l.prog w K mg base 5 "shows_unbent" 2 d_shows_unbent := ⟨_, _, _, w_shows_unbent F_shows_unbent T G_p_bent_bests, PySem.W.mg_of X G a_shows_unbent, k_shows_unbent, b_shows_unbent⟩
  have G_p_law_ub_made : GotF l.prog w K mg base 6 "_law_ub_made" 3 d_p_law_ub_made := ⟨_, _, _, w_p_law_ub_made F_p_law_ub_made T G_unbent G_p_law_whole G_p_law_ub_shows G_shows_unbent, PySem.W.mg_of X G a_p_law_ub_made, k_p_law_ub_made, b_p_law_ub_made⟩
  have G_p_law_ub_own : GotF l.prog w K mg base 1 "_law_ub_own" 2 d_p_law_ub_own := ⟨_, _, _, w_p_law_ub_own F_p_law_ub_own T , PySem.W.mg_of X G a_p_law_ub_own, k_p_law_ub_own, b_p_law_ub_own⟩
  have G_p_law_ub_judged : GotF l.prog w K mg base 6 "_law_ub_judged" 5 d_p_law_ub_judged := ⟨_, _, _, w_p_law_ub_judged F_p_law_ub_judged T G_p_law_ub_shows G_Unbent_init G_shows_unbent, PySem.W.mg_of X G a_p_law_ub_judged, k_p_law_ub_judged, b_p_law_ub_judged⟩
  have G_p_law_ub_spoilt : GotF l.prog w K mg base 7 "_law_ub_spoilt" 4 d_p_law_ub_spoilt := ⟨_, _, _, w_p_law_ub_spoilt F_p_law_ub_spoilt T G_p_law_next G_p_law_ub_judged G_shows_unbent, PySem.W.mg_of X G a_p_law_ub_spoilt, k_p_law_ub_spoilt, b_p_law_ub_spoilt⟩
  have G_p_law_ub_great : GotF l.prog w K mg base 8 "_law_ub_great" 1 d_p_law_ub_great := ⟨_, _, _, w_p_law_ub_great F_p_law_ub_great T G_p_law_bt_great G_p_law_next G_Table_init G_p_law_ub_made G_p_law_ub_own G_p_law_ub_judged G_p_law_ub_spoilt, PySem.W.mg_of X G a_p_law_ub_great, k_p_law_ub_great, b_p_law_ub_great⟩
  have G_p_law_bt_free : GotF l.prog w K mg base 2 "_law_bt_free" 4 d_p_law_bt_free := ⟨_, _, _, w_p_law_bt_free F_p_law_bt_free T G_p_law_next, PySem.W.mg_of X G a_p_law_bt_free, k_p_law_bt_free, b_p_law_bt_free⟩
  have G_p_law_bt_cut : GotF l.prog w K mg base 2 "_law_bt_cut" 2 d_p_law_bt_cut := ⟨_, _, _, w_p_law_bt_cut F_p_law_bt_cut T G_p_law_next, PySem.W.mg_of X G a_p_law_bt_cut, k_p_law_bt_cut, b_p_law_bt_cut⟩
  have G_p_law_bt_sums : GotF l.prog w K mg base 2 "_law_bt_sums" 4 d_p_law_bt_sums := ⟨_, _, _, w_p_law_bt_sums F_p_law_bt_sums T G_p_law_next, PySem.W.mg_of X G a_p_law_bt_sums, k_p_law_bt_sums, b_p_law_bt_sums⟩
  have G_p_law_ub_rows : GotF l.prog w K mg base 3 "_law_ub_rows" 3 d_p_law_ub_rows := ⟨_, _, _, w_p_law_ub_rows F_p_law_ub_rows T G_p_law_next G_p_law_bt_free G_p_law_bt_cut G_p_law_bt_sums, PySem.W.mg_of X G a_p_law_ub_rows, k_p_law_ub_rows, b_p_law_ub_rows⟩
  have G_p_law_bt_break : GotF l.prog w K mg base 2 "_law_bt_break" 1 d_p_law_bt_break := ⟨_, _, _, w_p_law_bt_break F_p_law_bt_break T G_p_law_plus G_p_law_below, PySem.W.mg_of X G a_p_law_bt_break, k_p_law_bt_break, b_p_law_bt_break⟩
  have G_p_law_ub_refused : GotF l.prog w K mg base 5 "_law_ub_refused" 3 d_p_law_ub_refused := ⟨_, _, _, w_p_law_ub_refused F_p_law_ub_refused T G_Unbent_init, PySem.W.mg_of X G a_p_law_ub_refused, k_p_law_ub_refused, b_p_law_ub_refused⟩
  have G_p_law_ub_refusals : GotF l.prog w K mg base 6 "_law_ub_refusals" 1 d_p_law_ub_refusals := ⟨_, _, _, w_p_law_ub_refusals F_p_law_ub_refusals T G_p_law_next G_p_law_ub_refused G_Unbent_init, PySem.W.mg_of X G a_p_law_ub_refusals, k_p_law_ub_refusals, b_p_law_ub_refusals⟩
  have G_p_law_ub_kept : GotF l.prog w K mg base 5 "_law_ub_kept" 1 d_p_law_ub_kept := ⟨_, _, _, w_p_law_ub_kept F_p_law_ub_kept T G_p_law_next G_Unbent_init, PySem.W.mg_of X G a_p_law_ub_kept, k_p_law_ub_kept, b_p_law_ub_kept⟩
  exact w_law F_law T G_p_law_stream G_p_law_next G_p_law_ub_great G_p_law_ub_rows G_Table_init G_p_law_bt_break G_p_law_ub_made G_p_law_ub_judged G_p_law_ub_own G_p_law_ub_shows G_p_law_ub_spoilt G_p_law_ub_refusals G_p_law_ub_kept law_says
end K52
open PySem PySem.W PyProof.Rows
set_option maxHeartbeats 0 in
theorem PySem.Challenge.cw_surefornow_k52_unbent_judged_holds : PySem.Challenge.rw_surefornow_k52_unbent_judged.Holds := by
  w_on; o_law; k_head; (case hw => w_witness2)
  k_fill
  refine L2.walk_of (l := PySem.Challenge.rw_surefornow_k52_unbent_judged) (n := 63) (k := 9) (x := "script") (CX := fun _ => L2.CX0) (sp := fun w => Qd.spL _) rfl (by decide) rfl ⟨rfl, by decide, by decide⟩ (fun w h Y => PySem.W.kIn_of Y) ?F (fun _ _ a ns hl _ hS => ⟨a, ns, rfl, hS, hl, fun _ => rfl⟩) (fun _ _ _ _ _ h => h)
  case F =>
    intro w mg fa h KX G hmg
    refine' K52.all_mk KX G hmg ?aC_Table ?aC_Unbent ?zc_Apart ?zc_Asked ?zc_Body ?zc_Clip ?zc_Desk ?zc_Doubt ?zc_Funnel ?zc_HourTable ?zc_Jobs ?zc_JobsTask ?zc_Later ?zc_Levels ?zc_LineReader ?zc_Log ?zc_Lots ?zc_LotsTask ?zc_Machine ?zc_MachineTask ?zc_Net ?zc_Ratio ?zc_RopeKind ?zc_Ropes ?zc_RopesTask ?zc_Round ?zc_RoundTask ?zc_Run ?zc_Span ?zc_Staircase ?zc_Steps ?zc_Store ?zc_StoreKind ?zc_StoreTask ?zc_SurePaper ?zc_Task ?zc_Thresholds ?zc_Trade ?zc_TradeTask ?zc_Trial ?zc_World ?a_p_law_stream ?l_p_law_stream ?c_p_law_stream ?k_p_law_stream ?a_p_law_next ?l_p_law_next ?c_p_law_next ?k_p_law_next ?a_p_law_bt_great ?l_p_law_bt_great ?c_p_law_bt_great ?k_p_law_bt_great ?a_is_whole ?l_is_whole ?c_is_whole ?k_is_whole ?a_is_amount ?l_is_amount ?c_is_amount ?k_is_amount ?a_p_tables_rows ?l_p_tables_rows ?c_p_tables_rows ?k_p_tables_rows ?a_Table_init ?i_Table_init ?l_Table_init ?c_Table_init ?k_Table_init ?a_below ?l_below ?c_below ?k_below ?a_plus ?l_plus ?c_plus ?k_plus ?a_p_bent_states ?l_p_bent_states ?c_p_bent_states ?k_p_bent_states ?a_bent_break ?l_bent_break ?c_bent_break ?k_bent_break ?a_p_bent_out ?l_p_bent_out ?c_p_bent_out ?k_p_bent_out ?a_Unbent_init ?i_Unbent_init ?l_Unbent_init ?c_Unbent_init ?k_Unbent_init ?a_unbent ?l_unbent ?c_unbent ?k_unbent ?a_p_law_whole ?l_p_law_whole ?c_p_law_whole ?k_p_law_whole ?a_p_law_below ?l_p_law_below ?c_p_law_below ?k_p_law_below ?a_p_law_lesser ?l_p_law_lesser ?c_p_law_lesser ?k_p_law_lesser ?a_p_law_plus ?l_p_law_plus ?c_p_law_plus ?k_p_law_plus ?a_p_law_ub_bests ?l_p_law_ub_bests ?c_p_law_ub_bests ?k_p_law_ub_bests ?a_p_law_ub_shows ?l_p_law_ub_shows ?c_p_law_ub_shows ?k_p_law_ub_shows ?a_at_most ?l_at_most ?c_at_most ?k_at_most ?a_lesser ?l_lesser ?c_lesser ?k_lesser ?a_least_of ?l_least_of ?c_least_of ?k_least_of ?a_p_bent_bests ?l_p_bent_bests ?c_p_bent_bests ?k_p_bent_bests ?a_shows_unbent ?l_shows_unbent ?c_shows_unbent ?k_shows_unbent ?a_p_law_ub_made ?l_p_law_ub_made ?c_p_law_ub_made ?k_p_law_ub_made ?a_p_law_ub_own ?l_p_law_ub_own ?c_p_law_ub_own ?k_p_law_ub_own ?a_p_law_ub_judged ?l_p_law_ub_judged ?c_p_law_ub_judged ?k_p_law_ub_judged ?a_p_law_ub_spoilt ?l_p_law_ub_spoilt ?c_p_law_ub_spoilt ?k_p_law_ub_spoilt ?a_p_law_ub_great ?l_p_law_ub_great ?c_p_law_ub_great ?k_p_law_ub_great ?a_p_law_bt_free ?l_p_law_bt_free ?c_p_law_bt_free ?k_p_law_bt_free ?a_p_law_bt_cut ?l_p_law_bt_cut ?c_p_law_bt_cut ?k_p_law_bt_cut ?a_p_law_bt_sums ?l_p_law_bt_sums ?c_p_law_bt_sums ?k_p_law_bt_sums ?a_p_law_ub_rows ?l_p_law_ub_rows ?c_p_law_ub_rows ?k_p_law_ub_rows ?a_p_law_bt_break ?l_p_law_bt_break ?c_p_law_bt_break ?k_p_law_bt_break ?a_p_law_ub_refused ?l_p_law_ub_refused ?c_p_law_ub_refused ?k_p_law_ub_refused ?a_p_law_ub_refusals ?l_p_law_ub_refusals ?c_p_law_ub_refusals ?k_p_law_ub_refusals ?a_p_law_ub_kept ?l_p_law_ub_kept ?c_p_law_ub_kept ?k_p_law_ub_kept ?a_law ?l_law ?c_law ?k_law ?pg_Table ?hd_Table ?po_Table ?sa_Table ?mk_Table ?kc_Table ?ha_Table ?hm_Table ?pg_Unbent ?hd_Unbent ?po_Unbent ?sa_Unbent ?mk_Unbent ?kc_Unbent ?ha_Unbent ?hm_Unbent ?hn ?htk ?kb_Unbent_NoneType ?kb_Unbent_bool ?kb_Unbent_int ?kb_Unbent_str ?kb_Unbent_list ?kb_Unbent_tuple ?ko_Unbent_Table ?ko_Unbent_Unbent ?n_Unbent_lower ?n_Unbent_numbers ?n_Table_rows ?n_Table_states ?n_Unbent_upper ?z_ValueError ?z_bool ?z_enumerate ?z_int ?z_isinstance ?z_len ?z_list ?z_max ?z_min ?z_range ?z_tuple ?z_zip ?z_super ?z_stat ?z_top ?aX_BadDeed ?ga_BadDeed ?gg_BadDeed ?ec_BadDeed ?hX_BadDeed ?aX_BadPaper ?ga_BadPaper ?gg_BadPaper ?ec_BadPaper ?hX_BadPaper ?aX_BadRow ?ga_BadRow ?gg_BadRow ?ec_BadRow ?hX_BadRow ?aX_SureError ?xL_BadPaper ?rv_BadPaper ?xs_BadPaper ?tc_BadPaper ?kX_BadPaper ?xi_BadPaper ?xt_BadPaper ?xl_BadPaper ?xco_BadPaper ?xfi_BadPaper ?xfv_BadPaper ?xfe_BadPaper ?xce_BadPaper ?xse_BadPaper ?xsu_BadPaper ?xv_BadPaper ?xL_BadRow ?rv_BadRow ?xs_BadRow ?tc_BadRow ?kX_BadRow ?xi_BadRow ?xt_BadRow ?xl_BadRow ?xco_BadRow ?xfi_BadRow ?xfv_BadRow ?xfe_BadRow ?xce_BadRow ?xse_BadRow ?xsu_BadRow ?xv_BadRow ?xn_BadPaper_name ?xn_BadRow_place ?hy_BadPaper_BadPaper ?hy_BadPaper_BadDeed ?hy_BadPaper_BadRow ?hy_SureError_BadDeed ?hy_SureError_BadPaper ?hy_SureError_BadRow ?ic_BadDeed ?xa_BadDeed ?xm_BadDeed ?ic_BadPaper ?xa_BadPaper ?xm_BadPaper ?ic_BadRow ?xa_BadRow ?xm_BadRow ?xk_BadPaper_BadDeed ?xk_BadPaper_BadPaper ?xk_BadPaper_BadRow ?xk_ValueError_BadDeed ?xk_ValueError_BadPaper ?xk_ValueError_BadRow
    (case aC_Table => k_is)
    (case aC_Unbent => k_is)
    (case zc_Apart => k_is)
    (case zc_Asked => k_is)
    (case zc_Body => k_is)
    (case zc_Clip => k_is)
    (case zc_Desk => k_is)
    (case zc_Doubt => k_is)
    (case zc_Funnel => k_is)
    (case zc_HourTable => k_is)
    (case zc_Jobs => k_is)
    (case zc_JobsTask => k_is)
    (case zc_Later => k_is)
    (case zc_Levels => k_is)
    (case zc_LineReader => k_is)
    (case zc_Log => k_is)
    (case zc_Lots => k_is)
    (case zc_LotsTask => k_is)
    (case zc_Machine => k_is)
    (case zc_MachineTask => k_is)
    (case zc_Net => k_is)
    (case zc_Ratio => k_is)
    (case zc_RopeKind => k_is)
    (case zc_Ropes => k_is)
    (case zc_RopesTask => k_is)
    (case zc_Round => k_is)
    (case zc_RoundTask => k_is)
    (case zc_Run => k_is)
    (case zc_Span => k_is)
    (case zc_Staircase => k_is)
    (case zc_Steps => k_is)
    (case zc_Store => k_is)
    (case zc_StoreKind => k_is)
    (case zc_StoreTask => k_is)
    (case zc_SurePaper => k_is)
    (case zc_Task => k_is)
    (case zc_Thresholds => k_is)
    (case zc_Trade => k_is)
    (case zc_TradeTask => k_is)
    (case zc_Trial => k_is)
    (case zc_World => k_is)
    (case a_p_law_stream => k_is)
    (case l_p_law_stream => k_is)
    (case c_p_law_stream => k_is)
    (case k_p_law_stream => k_is)
    (case a_p_law_next => k_is)
    (case l_p_law_next => k_is)
    (case c_p_law_next => k_is)
    (case k_p_law_next => k_is)
    (case a_p_law_bt_great => k_is)
    (case l_p_law_bt_great => k_is)
    (case c_p_law_bt_great => k_is)
    (case k_p_law_bt_great => k_is)
    (case a_is_whole => k_is)
    (case l_is_whole => k_is)
    (case c_is_whole => k_is)
    (case k_is_whole => k_is)
    (case a_is_amount => k_is)
    (case l_is_amount => k_is)
    (case c_is_amount => k_is)
    (case k_is_amount => k_is)
    (case a_p_tables_rows => k_is)
    (case l_p_tables_rows => k_is)
    (case c_p_tables_rows => k_is)
    (case k_p_tables_rows => k_is)
    (case a_Table_init => k_is)
    (case i_Table_init => k_is)
    (case l_Table_init => k_is)
    (case c_Table_init => k_is)
    (case k_Table_init => k_is)
    (case a_below => k_is)
    (case l_below => k_is)
    (case c_below => k_is)
    (case k_below => k_is)
    (case a_plus => k_is)
    (case l_plus => k_is)
    (case c_plus => k_is)
    (case k_plus => k_is)
    (case a_p_bent_states => k_is)
    (case l_p_bent_states => k_is)
    (case c_p_bent_states => k_is)
    (case k_p_bent_states => k_is)
    (case a_bent_break => k_is)
    (case l_bent_break => k_is)
    (case c_bent_break => k_is)
    (case k_bent_break => k_is)
    (case a_p_bent_out => k_is)
    (case l_p_bent_out => k_is)
    (case c_p_bent_out => k_is)
    (case k_p_bent_out => k_is)
    (case a_Unbent_init => k_is)
    (case i_Unbent_init => k_is)
    (case l_Unbent_init => k_is)
    (case c_Unbent_init => k_is)
    (case k_Unbent_init => k_is)
    (case a_unbent => k_is)
    (case l_unbent => k_is)
    (case c_unbent => k_is)
    (case k_unbent => k_is)
    (case a_p_law_whole => k_is)
    (case l_p_law_whole => k_is)
    (case c_p_law_whole => k_is)
    (case k_p_law_whole => k_is)
    (case a_p_law_below => k_is)
    (case l_p_law_below => k_is)
    (case c_p_law_below => k_is)
    (case k_p_law_below => k_is)
    (case a_p_law_lesser => k_is)
    (case l_p_law_lesser => k_is)
    (case c_p_law_lesser => k_is)
    (case k_p_law_lesser => k_is)
    (case a_p_law_plus => k_is)
    (case l_p_law_plus => k_is)
    (case c_p_law_plus => k_is)
    (case k_p_law_plus => k_is)
    (case a_p_law_ub_bests => k_is)
    (case l_p_law_ub_bests => k_is)
    (case c_p_law_ub_bests => k_is)
    (case k_p_law_ub_bests => k_is)
    (case a_p_law_ub_shows => k_is)
    (case l_p_law_ub_shows => k_is)
    (case c_p_law_ub_shows => k_is)
    (case k_p_law_ub_shows => k_is)
    (case a_at_most => k_is)
    (case l_at_most => k_is)
    (case c_at_most => k_is)
    (case k_at_most => k_is)
    (case a_lesser => k_is)
    (case l_lesser => k_is)
    (case c_lesser => k_is)
    (case k_lesser => k_is)
    (case a_least_of => k_is)
    (case l_least_of => k_is)
    (case c_least_of => k_is)
    (case k_least_of => k_is)
    (case a_p_bent_bests => k_is)
    (case l_p_bent_bests => k_is)
    (case c_p_bent_bests => k_is)
    (case k_p_bent_bests => k_is)
    (case a_shows_unbent => k_is)
    (case l_shows_unbent => k_is)
    (case c_shows_unbent => k_is)
    (case k_shows_unbent => k_is)
    (case a_p_law_ub_made => k_is)
    (case l_p_law_ub_made => k_is)
    (case c_p_law_ub_made => k_is)
    (case k_p_law_ub_made => k_is)
    (case a_p_law_ub_own => k_is)
    (case l_p_law_ub_own => k_is)
    (case c_p_law_ub_own => k_is)
    (case k_p_law_ub_own => k_is)
    (case a_p_law_ub_judged => k_is)
    (case l_p_law_ub_judged => k_is)
    (case c_p_law_ub_judged => k_is)
    (case k_p_law_ub_judged => k_is)
    (case a_p_law_ub_spoilt => k_is)
    (case l_p_law_ub_spoilt => k_is)
    (case c_p_law_ub_spoilt => k_is)
    (case k_p_law_ub_spoilt => k_is)
    (case a_p_law_ub_great => k_is)
    (case l_p_law_ub_great => k_is)
    (case c_p_law_ub_great => k_is)
    (case k_p_law_ub_great => k_is)
    (case a_p_law_bt_free => k_is)
    (case l_p_law_bt_free => k_is)
    (case c_p_law_bt_free => k_is)
    (case k_p_law_bt_free => k_is)
    (case a_p_law_bt_cut => k_is)
    (case l_p_law_bt_cut => k_is)
    (case c_p_law_bt_cut => k_is)
    (case k_p_law_bt_cut => k_is)
    (case a_p_law_bt_sums => k_is)
    (case l_p_law_bt_sums => k_is)
    (case c_p_law_bt_sums => k_is)
    (case k_p_law_bt_sums => k_is)
    (case a_p_law_ub_rows => k_is)
    (case l_p_law_ub_rows => k_is)
    (case c_p_law_ub_rows => k_is)
    (case k_p_law_ub_rows => k_is)
    (case a_p_law_bt_break => k_is)
    (case l_p_law_bt_break => k_is)
    (case c_p_law_bt_break => k_is)
    (case k_p_law_bt_break => k_is)
    (case a_p_law_ub_refused => k_is)
    (case l_p_law_ub_refused => k_is)
    (case c_p_law_ub_refused => k_is)
    (case k_p_law_ub_refused => k_is)
    (case a_p_law_ub_refusals => k_is)
    (case l_p_law_ub_refusals => k_is)
    (case c_p_law_ub_refusals => k_is)
    (case k_p_law_ub_refusals => k_is)
    (case a_p_law_ub_kept => k_is)
    (case l_p_law_ub_kept => k_is)
    (case c_p_law_ub_kept => k_is)
    (case k_p_law_ub_kept => k_is)
    (case a_law => k_is)
    (case l_law => k_is)
    (case c_law => k_is)
    (case k_law => k_is)
    (case pg_Table => k_is)
    (case hd_Table => k_is)
    (case po_Table => k_is)
    (case sa_Table => k_is)
    (case mk_Table => k_is)
    (case kc_Table => k_is)
    (case ha_Table => k_is)
    (case hm_Table => k_is)
    (case pg_Unbent => k_is)
    (case hd_Unbent => k_is)
    (case po_Unbent => k_is)
    (case sa_Unbent => k_is)
    (case mk_Unbent => k_is)
    (case kc_Unbent => k_is)
    (case ha_Unbent => k_is)
    (case hm_Unbent => k_is)
    (case hn => k_is)
    (case htk => k_is)
    (case kb_Unbent_NoneType => kit_is)
    (case kb_Unbent_bool => kit_is)
    (case kb_Unbent_int => kit_is)
    (case kb_Unbent_str => kit_is)
    (case kb_Unbent_list => kit_is)
    (case kb_Unbent_tuple => kit_is)
    (case ko_Unbent_Table => kit_is)
    (case ko_Unbent_Unbent => kit_is)
    (case n_Unbent_lower => k_is)
    (case n_Unbent_numbers => k_is)
    (case n_Table_rows => k_is)
    (case n_Table_states => k_is)
    (case n_Unbent_upper => k_is)
    (case z_ValueError => k_is)
    (case z_bool => k_is)
    (case z_enumerate => k_is)
    (case z_int => k_is)
    (case z_isinstance => k_is)
    (case z_len => k_is)
    (case z_list => k_is)
    (case z_max => k_is)
    (case z_min => k_is)
    (case z_range => k_is)
    (case z_tuple => k_is)
    (case z_zip => k_is)
    (case z_super => k_is)
    (case z_stat => k_is)
    (case z_top => kernel_rfl)
    (case aX_BadDeed => k_is)
    (case ga_BadDeed => k_is)
    (case gg_BadDeed => k_is)
    (case ec_BadDeed => k_is)
    (case hX_BadDeed => k_is)
    (case aX_BadPaper => k_is)
    (case ga_BadPaper => k_is)
    (case gg_BadPaper => k_is)
    (case ec_BadPaper => k_is)
    (case hX_BadPaper => k_is)
    (case aX_BadRow => k_is)
    (case ga_BadRow => k_is)
    (case gg_BadRow => k_is)
    (case ec_BadRow => k_is)
    (case hX_BadRow => k_is)
    (case aX_SureError => k_is)
    (case xL_BadPaper => k_is)
    (case rv_BadPaper => decide +kernel)
    (case xs_BadPaper => k_is)
    (case tc_BadPaper => k_is)
    (case kX_BadPaper => k_is)
    (case xi_BadPaper => k_is)
    (case xt_BadPaper => k_is)
    (case xl_BadPaper => k_is)
    (case xco_BadPaper => k_is)
    (case xfi_BadPaper => k_is)
    (case xfv_BadPaper => rfl)
    (case xfe_BadPaper => kernel_rfl)
    (case xce_BadPaper => k_is)
    (case xse_BadPaper => k_is)
    (case xsu_BadPaper => ks_is)
    (case xv_BadPaper => k_is)
    (case xL_BadRow => k_is)
    (case rv_BadRow => decide +kernel)
    (case xs_BadRow => k_is)
    (case tc_BadRow => k_is)
    (case kX_BadRow => k_is)
    (case xi_BadRow => k_is)
    (case xt_BadRow => k_is)
    (case xl_BadRow => k_is)
    (case xco_BadRow => k_is)
    (case xfi_BadRow => k_is)
    (case xfv_BadRow => rfl)
    (case xfe_BadRow => kernel_rfl)
    (case xce_BadRow => k_is)
    (case xse_BadRow => k_is)
    (case xsu_BadRow => ks_is)
    (case xv_BadRow => k_is)
    (case xn_BadPaper_name => k_is)
    (case xn_BadRow_place => k_is)
    (case hy_BadPaper_BadPaper => kts_exm)
    (case hy_BadPaper_BadDeed => kts_exm)
    (case hy_BadPaper_BadRow => kts_exm)
    (case hy_SureError_BadDeed => kts_exm)
    (case hy_SureError_BadPaper => kts_exm)
    (case hy_SureError_BadRow => kts_exm)
    (case ic_BadDeed => kernel_rfl)
    (case xa_BadDeed => k_is)
    (case xm_BadDeed => k_is)
    (case ic_BadPaper => kernel_rfl)
    (case xa_BadPaper => k_is)
    (case xm_BadPaper => k_is)
    (case ic_BadRow => kernel_rfl)
    (case xa_BadRow => k_is)
    (case xm_BadRow => k_is)
    (case xk_BadPaper_BadDeed => kit_is)
    (case xk_BadPaper_BadPaper => kit_is)
    (case xk_BadPaper_BadRow => kit_is)
    (case xk_ValueError_BadDeed => kit_is)
    (case xk_ValueError_BadPaper => kit_is)
    (case xk_ValueError_BadRow => kit_is)

